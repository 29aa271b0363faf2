import PyProof.Rows.All
import Wide.All
import OpenK.AllK
import Wide.FinOn
import HandS.ForMost
import HandS.ForExc
import KE.KDictKeyed
import KE.SortData
import KE.DataEq
import HandS.Iter
import HandS.TupAny
import HandS.Codes
import HandS.Deep
import HandS.Wide
import HandS.Style
import HandS.Dict
import PyProof.EqKinds
import HandS.ListEq
import HandS.DictEq
import PyProof.NeKinds
import KE.DatumOrd
import KE.DataFind
import PyProof.ListStr
import HandS.IsInst
import HandS.TupLen
import KE.KTupSum
import HandS.Conv
import HandS.More
import HandS.Text
import KE.GoesNew
import KE.GoesMore
import KE.KDictPairs
import PyProof.ReprRoads
import PyProof.CallFns
import PyProof.SeqIndex
import HandS.ExcInit
import HandS.ExcField
import HandS.Defaults
import KE.KExcIs
import HandS.HotCalls
import HandS.ExcIs
import KE.KRevSl
import HandS.TryOnly
import HandS.Set
import HandS.SetFor
import KE.SortCalls
import HandS.HeadEnd
import HandS.HeadHook2
import HandS.HeadHook3
import KE.KStateDown
import Lean
import HandS.Base
import HandS.Call
import HandS.Ends
import HandS.Words
import HandS.WordsExc
import HandS.Head0
import HandS.Head1
import HandS.Head2
import HandS.HeadHook1
import PySem.Challenge.RW_warmrows_k20_shapes_refused
set_option Elab.async false
set_option linter.all false
set_option maxRecDepth 100000
set_option maxHeartbeats 16000000
set_option maxHeartbeats 0
namespace Rf
open PySem PySem.Spec PyProof.Rows L2
inductive D where
  | non
  | bl (b : Bool)
  | int (i : Int)
  | str (x : List Nat)
  | tup (xs : List D)
  | wtup (xs : List D)
  | rol (xs : List D)
  | ref (n : Nat)
  deriving Inhabited
def mkS (x : List Nat) : Str := ⟨x.toArray⟩
section
variable {K : PySem.W.Frag} {H H' : Hp} {m m' : List Addr}
end
section
variable {K : PySem.W.Frag} {H : Hp} {m : List Addr}
end
section
variable {K : PySem.W.Frag} {H : Hp} {m : List Addr}
end
section
variable {K : PySem.W.Frag} {N : Nm} {H : Hp} {m : List Addr} {h : AH} {p : Addr} {o : HO}
end
section
variable {K : PySem.W.Frag} {N : Nm} {H : Hp} {m : List Addr} {h : AH}
end
end Rf
namespace Rf
open PySem PySem.Spec PyProof.Rows L2
abbrev Sb := List (Nat × Nat × Bool)
end Rf
namespace Rf
open PySem PySem.Spec PyProof.Rows L2
structure Gi where
  fn : List Str
  gl : List (Str × D)
  cl : List Str
  cx : List Str := []
  sb : Sb := []
  /-- the fields' names -/
  fl : List Str := []
  /-- own __init__: the class, its field, the class above whose __init__ it calls, where its def stands -/
  lx : List (Nat × Nat × Nat × Nat) := []
  /-- methods: the class, the def, the name -/
  mt : List (Nat × Nat × Str) := []
  /-- classes that are made: the class, its __init__ -/
  mks : List (Nat × Nat) := []
  /-- dicts of the module, their keys and values -/
  gd : List (Str × List (List Nat × D)) := []
  /-- defs that only reckon, called in handlers -/
  sn : List Nat := []
  /-- defs that tell of which classes an exception is, called in handlers -/
  on : List (Nat × List Nat) := []
end Rf
namespace Rf
open PySem PySem.Spec PyProof.Rows L2
def bltS : List Str := (["len", "abs", "min", "max", "int", "str", "tuple", "list", "sorted", "all", "any", "sum", "isinstance", "dict", "range", "enumerate", "zip", "bool", "ValueError", "set", "repr"] : List String).map Str.ofString
section
variable {X : Cx} {nm : Nm} {G : Gi} {C : CT}
end
end Rf
namespace Rf
open PySem PySem.Spec PyProof.Rows L2
mutual
def dB (K : PySem.W.Frag) : D → Value → Bool
  | .non, .none => true
  | .bl b, .bool c => b == c
  | .int i, .int j _ => decide (i = j)
  | .str x, .str z _ => decide (mkS x = z)
  | .tup ds, .ref a => (match K.lookup a with
    | some ⟨.type c, none, .seq its _, _⟩ => decide (c = "tuple") && (decide (its.size ≤ sizeLine) && dBs K ds its.toList)
    | _ => false)
  | .rol ds, .ref a => (match K.lookup a with
    | some ⟨.type c, none, .seq its _, _⟩ => decide (c = "list") && (decide (its.size ≤ sizeLine) && dBs K ds its.toList)
    | _ => false)
  | _, _ => false
def dBs (K : PySem.W.Frag) : List D → List Value → Bool
  | [], [] => true
  | d :: ds, u :: us => dB K d u && dBs K ds us
  | _, _ => false
end
def tabB (K : PySem.W.Frag) (x : Str) (d : D) : Bool := match PySem.W.nsIn K mainGlobals x with
  | some (some u) => dB K d u
  | _ => false
def isSome' (o : Option Bool) (v : Bool) : Bool := match o with
  | some b => b == v
  | none => false
def cls (G : Gi) (K : PySem.W.Frag) (i : Nat) : Addr := He.ga K (G.cl.getD i Str.empty)
def slotB1 (o : Option (Option Value)) (n : String) : Bool := match o with
  | some (some (.builtin m)) => decide (m = n)
  | _ => false
def noB1 (o : Option (Option Value)) : Bool := match o with
  | some none => true
  | _ => false
def excB (K : PySem.W.Frag) (D : Addr) : Bool :=
  slotB1 (PySem.W.findIn K (.ref D) "__getattribute__") "BaseException.__getattribute__" && (noB1 (PySem.W.findIn K (.ref D) "__getattr__") && (isSome' (PySem.W.subIn K (.ref D) (.type "BaseException")) true && (PySem.W.hasDictIn K D && (slotB1 (PySem.W.findIn K (.ref D) "__class__") "object.__class__" &&
    (slotB1 (PySem.W.specialIn K (.builtin "object.__class__") "__get__") "getset_descriptor.__get__" && (isSome' (PySem.W.takesIn K (.builtin "object.__class__")) true && isSome' (PySem.W.mroIn K D (.type "object")) true))))))
def sbB (G : Gi) (K : PySem.W.Frag) : Bool := G.sb.all fun t => isSome' (PySem.W.exmOne K (.ref (cls G K t.1)) (.ref (cls G K t.2.1))) t.2.2 && (isSome' (PySem.W.kitOne K (.ref (cls G K t.1)) (.ref (cls G K t.2.1))) t.2.2 && (excB K (cls G K t.1) && isSome' (PySem.W.kitOne K (.ref (cls G K t.1)) (.type "ValueError")) true))
def adrB (o : Option (Option Value)) (a : Addr) : Bool := match o with
  | some (some (.ref b)) => decide (b = a)
  | _ => false
def tyB (o : Option Value) (n : String) : Bool := match o with
  | some (.type m) => decide (m = n)
  | _ => false
def fcB (o : Option PySem.W.CFound) (n : String) : Bool := match o with
  | some (.val (.builtin m)) => decide (m = n)
  | _ => false
def oexB (K : PySem.W.Frag) (C : Addr) : Bool := (match K.lookup C with
  | some ⟨.type c, _, .cls cd, sl⟩ => (match cd.mro, sl.toList with
    | .ref C' :: bm, [_, _, _, _, some (.builtin n), _] => decide (c = "type") && (decide (C' = C) && (decide (n = "ValueError.__new__") && (cd.hasDict && (!cd.hasDel && PySem.HandSPX.refsVE bm))))
    | _, _ => false)
  | _ => false) && (slotB1 (PySem.W.findIn K (.ref C) "__setattr__") "object.__setattr__" && (isSome' (PySem.W.subIn K (.ref C) (.type "BaseException")) true && (tyB (PySem.W.typeIn K (.ref C)) "type" && PySem.W.keepIn K (.ref C))))
def lowR (G : Gi) (fn : List He.DefD) (K : PySem.W.Frag) : Bool := G.lx.all fun t => oexB K (cls G K t.1) && (xfB K (cls G K t.1) && (match G.fl[t.2.1]?, fn[t.2.2.2]?, G.cl[t.2.2.1]? with
  | some n, some d, some r => adrB (PySem.W.findIn K (.ref (cls G K t.1)) "__init__") (He.fAd K d.at_) && (tyB (PySem.W.typeIn K (.ref (He.fAd K d.at_))) "function" && (noB1 (PySem.W.findIn K (.ref (cls G K t.1)) n) &&
      (slotB1 (PySem.W.specialIn K (.ref (He.ga K r)) "__getattribute__") "type.__getattribute__" && (PySem.W.readsIn K (He.ga K r) (.type "type") && fcB (PySem.W.findCls K (.ref (He.ga K r)) (.type "type") "__init__") "ValueError.__init__"))))
  | _, _, _ => false))
def clsOkB (K : PySem.W.Frag) (C : Addr) : Bool := PySem.W.plainGet K C Str.empty && (PySem.W.hasDictIn K C && (PySem.W.plainOver K C && slotB1 (PySem.W.findIn K (.ref C) "__setattr__") "object.__setattr__"))
def methOkB (K : PySem.W.Frag) (C : Addr) (m : Str) (a : Addr) : Bool := adrB (PySem.W.findIn K (.ref C) m) a && (PySem.W.isFn K (.ref a) && PySem.W.keepIn K (.ref a))
def insR (G : Gi) (fn : List He.DefD) (K : PySem.W.Frag) : Bool := (G.mt.all fun t => clsOkB K (cls G K t.1) && (match fn[t.2.1]? with
  | some d => methOkB K (cls G K t.1) t.2.2 (He.fAd K d.at_)
  | none => false)) && G.mks.all fun t => (match fn[t.2]? with
  | some d => PySem.W.makesIn K (cls G K t.1) && (adrB (PySem.W.findIn K (.ref (cls G K t.1)) "__init__") (He.fAd K d.at_) && (PySem.W.isFn K (.ref (He.fAd K d.at_)) && PySem.W.keepIn K (.ref (cls G K t.1))))
  | none => false) && (clsOkB K (cls G K t.1) && G.fl.all fun f => noB1 (PySem.W.findIn K (.ref (cls G K t.1)) f))
def xfR (G : Gi) (K : PySem.W.Frag) : Bool := (bltS.all fun x => (He.Fa.free x).ok K) && ((G.fn.all fun y => (He.Fa.glo y).ok K) && ((G.gl.all fun p => tabB K p.1 p.2) && ((G.cl.all fun y => (He.Fa.glo y).ok K && (G.cx.contains y || (He.Fa.exc y).ok K)) && sbB G K)))
def gdR (G : Gi) (K : PySem.W.Frag) : Bool := G.gd.all fun p => (He.Fa.glo p.1).ok K && p.2.all fun q => (match PySem.W.nsIn K (He.ga K p.1) (mkS q.1) with
  | some (some u) => dB K q.2 u
  | _ => false)
def obsR (G : Gi) (fn : List He.DefD) (K : PySem.W.Frag) : He.AlT := ((((xfR G K && lowR G fn K) && (gdR G K && insR G fn K)) && fn.all fun d => d.ok K, fn.map fun d => He.fnW K d.at_), G.gd.map fun p => He.dicW K (He.ga K p.1))
def valR (G : Gi) (fn : List He.DefD) (w : World) : He.AlT := (He.valD fn, G.gd.map fun p => some (He.keysIn w.params (p.2.map fun q => mkS q.1)))
def obsRG (n : Nat) (G : Gi) (fn : List He.DefD) (g : Addr → Option Obj) : He.AlT := obsR G fn (He.frG g (cStatics :: He.asD g n))
def hookR (n : Nat) (G : Gi) (fn : List He.DefD) : PySem.W.Hook where
  α := He.AlT
  obs := fun s => obsRG n G fn s.heap.get?
  val := fun w => valR G fn w
  says := fun w h => ∃ K : PySem.W.Frag, K.In h ∧ obsR G fn K = valR G fn w
  of := fun _ _ e => ⟨_, He.frG_in, e⟩
  keeps := fun _ _ _ ⟨K, hK, c⟩ k => ⟨K, PySem.W.Frag.In.keeps hK k, c⟩
section
variable {G : Gi} {fn : List He.DefD} {K : PySem.W.Frag} {w : World}
end
end Rf
namespace Lw
open PySem PySem.Spec PyProof.Rows L2 Rf
def G : Gi := ⟨(["is_shape", "fields_at", "child_of", "shape_by", "_law_cell", "_law_purse", "_law_take", "_law_word", "_law_words", "_law_same", "_law_stranger", "_law_other", "_law_asked", "_law_refused", "_law_model", "_law_good", "law"] : List Str), [], ["NoShape", "NoField", "RowError", "NoChange", "NoKind", "NoLimit", "NoOrder", "NoText", "NoWarming"], ["RowError", "NoChange", "NoKind", "NoLimit", "NoOrder", "NoText", "NoWarming"], [(0, 1, false), (0, 0, true), (0, 2, true), (0, 3, false), (0, 4, false), (0, 5, false), (0, 6, false), (0, 7, false), (0, 8, false), (1, 1, true), (1, 0, false), (1, 2, true), (1, 3, false), (1, 4, false), (1, 5, false), (1, 6, false), (1, 7, false), (1, 8, false)], [], [], [], [], [], [], [(11, [3, 4, 5, 6, 7, 8])]⟩
def top (i : Nat) : Stmt := PySem.Challenge.pw_warmrows_k20_shapes_refused.main.body.getD i (.Pass ⟨0, 0, 0, 0⟩)
def h_is_shape : He.DefD := ⟨("is_shape", none), "is_shape", "is_shape", defArgs (top 11), defBody (top 11), defScope (top 11), [], []⟩
def h_fields_at : He.DefD := ⟨("fields_at", none), "fields_at", "fields_at", defArgs (top 12), defBody (top 12), defScope (top 12), [], []⟩
def h_child_of : He.DefD := ⟨("child_of", none), "child_of", "child_of", defArgs (top 13), defBody (top 13), defScope (top 13), [], []⟩
def h_shape_by : He.DefD := ⟨("shape_by", none), "shape_by", "shape_by", defArgs (top 14), defBody (top 14), defScope (top 14), [], []⟩
def h__law_cell : He.DefD := ⟨("_law_cell", none), "_law_cell", "_law_cell", defArgs (top 16), defBody (top 16), defScope (top 16), [], []⟩
def h__law_purse : He.DefD := ⟨("_law_purse", none), "_law_purse", "_law_purse", defArgs (top 17), defBody (top 17), defScope (top 17), [], []⟩
def h__law_take : He.DefD := ⟨("_law_take", none), "_law_take", "_law_take", defArgs (top 18), defBody (top 18), defScope (top 18), [], []⟩
def h__law_word : He.DefD := ⟨("_law_word", none), "_law_word", "_law_word", defArgs (top 19), defBody (top 19), defScope (top 19), [], []⟩
def h__law_words : He.DefD := ⟨("_law_words", none), "_law_words", "_law_words", defArgs (top 20), defBody (top 20), defScope (top 20), [], []⟩
def h__law_same : He.DefD := ⟨("_law_same", none), "_law_same", "_law_same", defArgs (top 21), defBody (top 21), defScope (top 21), [], []⟩
def h__law_stranger : He.DefD := ⟨("_law_stranger", none), "_law_stranger", "_law_stranger", defArgs (top 22), defBody (top 22), defScope (top 22), [], []⟩
def h__law_other : He.DefD := ⟨("_law_other", none), "_law_other", "_law_other", defArgs (top 23), defBody (top 23), defScope (top 23), [], []⟩
def h__law_asked : He.DefD := ⟨("_law_asked", none), "_law_asked", "_law_asked", defArgs (top 24), defBody (top 24), defScope (top 24), [], []⟩
def h__law_refused : He.DefD := ⟨("_law_refused", none), "_law_refused", "_law_refused", defArgs (top 25), defBody (top 25), defScope (top 25), [], []⟩
def h__law_model : He.DefD := ⟨("_law_model", none), "_law_model", "_law_model", defArgs (top 26), defBody (top 26), defScope (top 26), [], []⟩
def h__law_good : He.DefD := ⟨("_law_good", none), "_law_good", "_law_good", defArgs (top 27), defBody (top 27), defScope (top 27), [], []⟩
def h_law : He.DefD := ⟨("law", none), "law", "law", defArgs (top 28), defBody (top 28), defScope (top 28), [], []⟩
def hs : List He.DefD := [h_is_shape, h_fields_at, h_child_of, h_shape_by, h__law_cell, h__law_purse, h__law_take, h__law_word, h__law_words, h__law_same, h__law_stranger, h__law_other, h__law_asked, h__law_refused, h__law_model, h__law_good, h_law]
def nm0 : List PySem.Str := ["RowError", "NoKind", "NoOrder", "NoChange", "NoShape", "NoField", "NoText", "NoLimit", "NoWarming", "is_shape", "fields_at", "child_of", "shape_by", "_law_cell", "_law_purse", "_law_take", "_law_word", "_law_words", "_law_same", "_law_stranger", "_law_other", "_law_asked", "_law_refused", "_law_model", "_law_good"]
def names : List PySem.Str := nm0
abbrev R : PySem.W.OpenRow := PySem.W.OpenLaw.row PySem.Challenge.rw_warmrows_k20_shapes_refused
abbrev hk : PySem.W.Hook := hookR 4 G hs
def ob (s : PySem.W.SharedT) : He.AlT := obsRG 4 G hs (HandSHeadRun.getT s)
theorem run_f (w : World) : HandSHeadRun.RunEq R (PySem.W.view R.prog [28]) hk ob 20000 names (w.withFollow "special-get-raises" false) := by
  intro os
  kernel_rfl
theorem run_t (w : World) : HandSHeadRun.RunEq R (PySem.W.view R.prog [28]) hk ob 20000 names (w.withFollow "special-get-raises" true) := by
  intro os
  kernel_rfl
theorem run (w : World) : HandSHeadRun.RunEq R (PySem.W.view R.prog [28]) hk ob 20000 names w := PySem.W.byRow2 "special-get-raises" (P := fun w => HandSHeadRun.RunEq R (PySem.W.view R.prog [28]) hk ob 20000 names w) run_f run_t w
end Lw
set_option maxHeartbeats 16000000
namespace Rf
open PySem PySem.Spec PyProof.Rows L2
abbrev Kd := Int ⊕ List Nat
inductive O where
  | lst (xs : List D)
  | dk (kvs : List (Kd × D))
  | lk (kvs : List (Kd × D))
  | ins (c : Nat) (fs : List (Nat × D))
  /-- an exception that was caught -/
  | exc (c : Nat)
  /-- a dict whose keys are tuples -/
  | dt (kvs : List (D × D))
  | gone
  deriving Inhabited
abbrev AH := List O
def toK : Kd → Key
  | .inl i => .inl i
  | .inr x => .inr (mkS x)
def Sqy : HO → Prop
  | .tup _ => True
  | .lst _ => True
  | _ => False
def SqF (K : PySem.W.Frag) (H : Hp) (a : Addr) (xs : List V) : Prop :=
  (∃ o, H a = some (.frz o (.lst xs))) ∨
    ∃ (o : Obj) (its : Array Value) (n : Nat), K.lookup a = some o ∧ o.cls = .type "list" ∧ o.dict = none ∧ o.data = .seq its n ∧ its.size ≤ sizeLine ∧ Vals xs its.toList
theorem SqF.sq {K : PySem.W.Frag} {H : Hp} {a : Addr} {xs : List V} (h : SqF K H a xs) : SqL K H a xs := by
  rcases h with ⟨o, h⟩ | h
  · exact .inl (.inr ⟨o, h⟩)
  · exact .inr h
def SqU (K : PySem.W.Frag) (H : Hp) (a : Addr) (xs : List V) : Prop :=
  (∃ o, H a = some (.frz o (.tup xs)) ∧ o.dict = none) ∨
    ∃ (o : Obj) (its : Array Value) (n : Nat), K.lookup a = some o ∧ o.cls = .type "tuple" ∧ o.dict = none ∧ o.data = .seq its n ∧ its.size ≤ sizeLine ∧ Vals xs its.toList
theorem SqU.sqT {K : PySem.W.Frag} {H : Hp} {a : Addr} {xs : List V} (h : SqU K H a xs) : SqT K H a xs := by
  rcases h with ⟨o, h, _⟩ | ⟨o, its, n, h1, h2, _, h3⟩
  · exact .inl (.inr ⟨o, h⟩)
  · exact .inr ⟨o, its, n, h1, h2, h3⟩
abbrev tO (its : List Value) : Obj := { cls := .type "tuple", data := .seq its.toArray }
mutual
inductive RV (K : PySem.W.Frag) (H : Hp) (m : List Addr) : V → D → Prop
  | non : RV K H m .non .non
  | bl (b : Bool) : RV K H m (.bl b) (.bl b)
  | int (i : Int) : RV K H m (.int i) (.int i)
  | str (x : List Nat) : RV K H m (.str (mkS x)) (.str x)
  | tup {a : Addr} {xs : List V} {ds : List D} : SqU K H a xs → RVs K H m xs ds → RV K H m (.ref a) (.tup ds)
  | wtup {a : Addr} {xs : List V} {ds : List D} : SqT K H a xs → RVs K H m xs ds → RV K H m (.ref a) (.wtup ds)
  | rol {a : Addr} {xs : List V} {ds : List D} : SqF K H a xs → RVs K H m xs ds → RV K H m (.ref a) (.rol ds)
  | ref {a : Addr} {n : Nat} : m[n]? = some a → RV K H m (.ref a) (.ref n)
inductive RVs (K : PySem.W.Frag) (H : Hp) (m : List Addr) : List V → List D → Prop
  | nil : RVs K H m [] []
  | cons {v : V} {vs : List V} {d : D} {ds : List D} : RV K H m v d → RVs K H m vs ds → RVs K H m (v :: vs) (d :: ds)
end
structure Ext (H : Hp) (m : List Addr) (H' : Hp) (m' : List Addr) : Prop where
  pre : ∃ t, m' = m ++ t ∧ ∀ b ∈ t, H b = none
  keep : ∀ b o, b ∉ m → H b = some o → H' b = some o
  alive : ∀ b, H' b = none → H b = none
  tups : ∀ b xs, H b = some (.tup xs) → H' b = some (.tup xs)
  frzs : ∀ b o u, H b = some (.frz o u) → H' b = some (.frz o u)
theorem Ext.refl {H : Hp} {m : List Addr} : Ext H m H m := ⟨⟨[], by simp⟩, fun _ _ _ e => e, fun _ e => e, fun _ _ e => e, fun _ _ _ e => e⟩
theorem Ext.trans {H H1 H2 : Hp} {m m1 m2 : List Addr} (a : Ext H m H1 m1) (b : Ext H1 m1 H2 m2) : Ext H m H2 m2 := by
  obtain ⟨t, e, ht⟩ := a.pre
  obtain ⟨u, e', hu⟩ := b.pre
  refine ⟨⟨t ++ u, by rw [e', e, List.append_assoc], fun c hc => ?_⟩, fun c o hc q => b.keep c o (fun z => ?_) (a.keep c o hc q), fun c q => a.alive c (b.alive c q), fun c xs q => b.tups c xs (a.tups c xs q), fun c o u q => b.frzs c o u (a.frzs c o u q)⟩
  · rcases List.mem_append.mp hc with z | z
    · exact ht c z
    · exact a.alive c (hu c z)
  · rw [e] at z
    rcases List.mem_append.mp z with z | z
    · exact hc z
    · rw [ht c z] at q; cases q
structure Ext0 (H : Hp) (m : List Addr) (H' : Hp) (m' : List Addr) : Prop where
  pre : ∃ t, m' = m ++ t
  tups : ∀ b xs, H b = some (.tup xs) → H' b = some (.tup xs)
  frzs : ∀ b o u, Sqy u → H b = some (.frz o u) → H' b = some (.frz o u)
theorem Ext0.get {H H' : Hp} {m m' : List Addr} (x : Ext0 H m H' m') {n : Nat} {a : Addr} (h : m[n]? = some a) : m'[n]? = some a := by
  obtain ⟨t, e⟩ := x.pre
  rw [e, List.getElem?_append_left (List.getElem?_eq_some_iff.mp h).1]
  exact h
theorem Ext0.sqT {K : PySem.W.Frag} {H H' : Hp} {m m' : List Addr} (x : Ext0 H m H' m') {a : Addr} {xs : List V} (h : SqT K H a xs) : SqT K H' a xs := by
  rcases h with (h | ⟨o, h⟩) | h
  · exact .inl (.inl (x.tups _ _ h))
  · exact .inl (.inr ⟨o, x.frzs _ _ _ trivial h⟩)
  · exact .inr h
theorem Ext0.sqF {K : PySem.W.Frag} {H H' : Hp} {m m' : List Addr} (x : Ext0 H m H' m') {a : Addr} {xs : List V} (h : SqF K H a xs) : SqF K H' a xs := by
  rcases h with ⟨o, h⟩ | h
  · exact .inl ⟨o, x.frzs _ _ _ trivial h⟩
  · exact .inr h
theorem Ext0.sqU {K : PySem.W.Frag} {H H' : Hp} {m m' : List Addr} (x : Ext0 H m H' m') {a : Addr} {xs : List V} (h : SqU K H a xs) : SqU K H' a xs := by
  rcases h with ⟨o, h, d⟩ | h
  · exact .inl ⟨o, x.frzs _ _ _ trivial h, d⟩
  · exact .inr h
mutual
theorem RV.ext0 {K : PySem.W.Frag} {H H' : Hp} {m m' : List Addr} (x : Ext0 H m H' m') : ∀ {v : V} {d : D}, RV K H m v d → RV K H' m' v d
  | _, _, .non => .non
  | _, _, .bl b => .bl b
  | _, _, .int i => .int i
  | _, _, .str z => .str z
  | _, _, .tup h r => .tup (x.sqU h) (RVs.ext0 x r)
  | _, _, .wtup h r => .wtup (x.sqT h) (RVs.ext0 x r)
  | _, _, .rol h r => .rol (x.sqF h) (RVs.ext0 x r)
  | _, _, .ref h => .ref (x.get h)
theorem RVs.ext0 {K : PySem.W.Frag} {H H' : Hp} {m m' : List Addr} (x : Ext0 H m H' m') : ∀ {vs : List V} {ds : List D}, RVs K H m vs ds → RVs K H' m' vs ds
  | _, _, .nil => .nil
  | _, _, .cons h r => .cons (RV.ext0 x h) (RVs.ext0 x r)
end
section
variable {K : PySem.W.Frag} {H H' : Hp} {m m' : List Addr}
theorem Ext.to0 (x : Ext H m H' m') : Ext0 H m H' m' := ⟨let ⟨t, e, _⟩ := x.pre; ⟨t, e⟩, x.tups, fun b o u _ => x.frzs b o u⟩
theorem Ext.get (x : Ext H m H' m') {n : Nat} {a : Addr} (h : m[n]? = some a) : m'[n]? = some a := x.to0.get h
theorem Ext.sqT (x : Ext H m H' m') {a : Addr} {xs : List V} (h : SqT K H a xs) : SqT K H' a xs := x.to0.sqT h
theorem Ext.sqF (x : Ext H m H' m') {a : Addr} {xs : List V} (h : SqF K H a xs) : SqF K H' a xs := x.to0.sqF h
theorem Ext.sqU (x : Ext H m H' m') {a : Addr} {xs : List V} (h : SqU K H a xs) : SqU K H' a xs := x.to0.sqU h
theorem RV.ext (x : Ext H m H' m') {v : V} {d : D} (r : RV K H m v d) : RV K H' m' v d := r.ext0 x.to0
theorem RVs.ext (x : Ext H m H' m') {v : List V} {d : List D} (r : RVs K H m v d) : RVs K H' m' v d := r.ext0 x.to0
end
section
variable {K : PySem.W.Frag} {H : Hp} {m : List Addr}
theorem RVs.length : ∀ {vs : List V} {ds : List D}, RVs K H m vs ds → vs.length = ds.length
  | _, _, .nil => rfl
  | _, _, .cons _ r => by simp [RVs.length r]
theorem RVs.get : ∀ {vs : List V} {ds : List D} {i : Nat} {d : D}, RVs K H m vs ds → ds[i]? = some d → ∃ v, vs[i]? = some v ∧ RV K H m v d
  | _, _, _, _, .nil, e => by simp at e
  | _, _, 0, _, .cons h _, e => by simp at e; subst e; exact ⟨_, rfl, h⟩
  | _, _, i + 1, d, .cons _ r, e => by
    obtain ⟨v, h1, h2⟩ := RVs.get (i := i) (d := d) r (by simpa using e)
    exact ⟨v, by simpa using h1, h2⟩
theorem RVs.append : ∀ {vs ws : List V} {ds es : List D}, RVs K H m vs ds → RVs K H m ws es → RVs K H m (vs ++ ws) (ds ++ es)
  | _, _, _, _, .nil, r => r
  | _, _, _, _, .cons h q, r => .cons h (RVs.append q r)
theorem RVs.take : ∀ {vs : List V} {ds : List D} (n : Nat), RVs K H m vs ds → RVs K H m (vs.take n) (ds.take n)
  | _, _, 0, _ => .nil
  | _, _, _ + 1, .nil => .nil
  | _, _, n + 1, .cons h r => .cons h (RVs.take n r)
theorem RVs.drop : ∀ {vs : List V} {ds : List D} (n : Nat), RVs K H m vs ds → RVs K H m (vs.drop n) (ds.drop n)
  | _, _, 0, r => r
  | _, _, _ + 1, .nil => .nil
  | _, _, n + 1, .cons _ r => RVs.drop n r
theorem RVs.set {v : V} {d : D} (h : RV K H m v d) : ∀ {vs : List V} {ds : List D} (n : Nat), RVs K H m vs ds → RVs K H m (vs.set n v) (ds.set n d)
  | _, _, _, .nil => .nil
  | _, _, 0, .cons _ r => .cons h r
  | _, _, n + 1, .cons q r => .cons q (RVs.set h n r)
theorem RVs.reverse {vs : List V} {ds : List D} (h : RVs K H m vs ds) : RVs K H m vs.reverse ds.reverse := by
  induction vs generalizing ds with
  | nil => cases h; exact .nil
  | cons v vs ih => cases h with
    | cons h1 h2 => rw [List.reverse_cons, List.reverse_cons]; exact RVs.append (ih h2) (.cons h1 .nil)
theorem RVs.eraseIdx : ∀ {vs : List V} {ds : List D} (n : Nat), RVs K H m vs ds → RVs K H m (vs.eraseIdx n) (ds.eraseIdx n)
  | _, _, _, .nil => by simp; exact .nil
  | _, _, 0, .cons _ r => r
  | _, _, n + 1, .cons q r => .cons q (RVs.eraseIdx n r)
end
inductive RK (K : PySem.W.Frag) (H : Hp) (m : List Addr) : List (Key × V) → List (Kd × D) → Prop
  | nil : RK K H m [] []
  | cons {k : Kd} {v : V} {d : D} {vs : List (Key × V)} {ds : List (Kd × D)} : RV K H m v d → RK K H m vs ds → RK K H m ((toK k, v) :: vs) ((k, d) :: ds)
theorem RK.ext0 {K : PySem.W.Frag} {H H' : Hp} {m m' : List Addr} (x : Ext0 H m H' m') : ∀ {vs : List (Key × V)} {ds : List (Kd × D)}, RK K H m vs ds → RK K H' m' vs ds
  | _, _, .nil => .nil
  | _, _, .cons h r => .cons (RV.ext0 x h) (RK.ext0 x r)
theorem RK.ext {K : PySem.W.Frag} {H H' : Hp} {m m' : List Addr} (x : Ext H m H' m') {vs : List (Key × V)} {ds : List (Kd × D)} (r : RK K H m vs ds) : RK K H' m' vs ds := r.ext0 x.to0
mutual
def nkOf : D → Option NestedKey
  | .non => some .none
  | .bl b => some (.num (if b = true then 1 else 0))
  | .int i => some (.num i)
  | .str x => some (.text (mkS x))
  | .tup xs => (nksOf xs).map .tup
  | .wtup _ => none
  | .rol _ => none
  | .ref _ => none
def nksOf : List D → Option (List NestedKey)
  | [] => some []
  | d :: ds => (nkOf d).bind fun k => (nksOf ds).map (k :: ·)
end
inductive RT (K : PySem.W.Frag) (H : Hp) (m : List Addr) : List (NestedKey × Addr × Value) → List (D × D) → Prop
  | nil : RT K H m [] []
  | cons {kd d : D} {nk : NestedKey} {b : Addr} {v : V} {u : Value} {xs : List (NestedKey × Addr × Value)} {kvs : List (D × D)} : nkOf kd = some nk → nk.depth ≤ 8 → RV K H m (.ref b) kd → RV K H m v d → RelV v u → RT K H m xs kvs → RT K H m ((nk, b, u) :: xs) ((kd, d) :: kvs)
theorem RT.ext0 {K : PySem.W.Frag} {H H' : Hp} {m m' : List Addr} (x : Ext0 H m H' m') : ∀ {xs : List (NestedKey × Addr × Value)} {kvs : List (D × D)}, RT K H m xs kvs → RT K H' m' xs kvs
  | _, _, .nil => .nil
  | _, _, .cons h1 h2 h3 h4 h5 r => .cons h1 h2 (RV.ext0 x h3) (RV.ext0 x h4) h5 (RT.ext0 x r)
theorem RT.length {K : PySem.W.Frag} {H : Hp} {m : List Addr} : ∀ {xs : List (NestedKey × Addr × Value)} {kvs : List (D × D)}, RT K H m xs kvs → xs.length = kvs.length
  | _, _, .nil => rfl
  | _, _, .cons _ _ _ _ _ r => by simp [RT.length r]
def valT (kvs : List (D × D)) (k : NestedKey) : Option D := (kvs.find? fun p => decide (nkOf p.1 = some k)).map (·.2)
def putT (kvs : List (D × D)) (k : NestedKey) (x v : D) : List (D × D) := if (valT kvs k).isSome = true then kvs.map fun p => if nkOf p.1 = some k then (p.1, v) else p else kvs ++ [(x, v)]
section
variable {K : PySem.W.Frag} {H : Hp} {m : List Addr}
theorem rt_some : ∀ {xs : List (NestedKey × Addr × Value)} {kvs : List (D × D)} {k : NestedKey} {d : D}, RT K H m xs kvs → valT kvs k = some d → ∃ (b : Addr) (u : Value) (v : V), atKey xs k = some (b, u) ∧ RV K H m v d ∧ RelV v u
  | _, _, _, _, .nil, e => by simp [valT] at e
  | _, _, k, d, .cons (kd := kd) (nk := nk) (b := b) (v := v) (u := u) (xs := xs) (kvs := kvs) h1 h2 h3 h4 h5 r, e => by
    by_cases hk : nk = k
    · subst hk
      simp only [valT, List.find?_cons, h1, decide_true, Option.map_some] at e
      cases e
      exact ⟨b, u, v, by simp [atKey], h4, h5⟩
    · have e' : valT kvs k = some d := by
        have hne : ¬ (nkOf kd = some k) := fun z => hk (by rw [h1] at z; exact Option.some.inj z)
        simpa only [valT, List.find?_cons, decide_eq_false hne] using e
      obtain ⟨b, u, v, q1, q2, q3⟩ := rt_some r e'
      exact ⟨b, u, v, by simpa [atKey, hk] using q1, q2, q3⟩
theorem rt_none : ∀ {xs : List (NestedKey × Addr × Value)} {kvs : List (D × D)} {k : NestedKey}, RT K H m xs kvs → valT kvs k = none → atKey xs k = none
  | _, _, _, .nil, _ => by simp [atKey]
  | _, _, k, .cons (kd := kd) (nk := nk) (xs := xs) (kvs := kvs) h1 h2 h3 h4 h5 r, e => by
    by_cases hk : nk = k
    · subst hk
      simp [valT, List.find?_cons, h1] at e
    · have e' : valT kvs k = none := by
        have hne : ¬ (nkOf kd = some k) := fun z => hk (by rw [h1] at z; exact Option.some.inj z)
        simpa only [valT, List.find?_cons, decide_eq_false hne] using e
      have := rt_none r e'
      simpa [atKey, hk] using this
theorem rt_isSome {xs : List (NestedKey × Addr × Value)} {kvs : List (D × D)} {k : NestedKey} (r : RT K H m xs kvs) : (atKey xs k).isSome = (valT kvs k).isSome := by
  cases e : valT kvs k with
  | none => rw [rt_none r e]; rfl
  | some d => obtain ⟨b, u, v, q, _⟩ := rt_some r e; rw [q]; rfl
theorem rt_map {k : NestedKey} {v : V} {d : D} {u : Value} (hv : RV K H m v d) (hu : RelV v u) : ∀ {xs : List (NestedKey × Addr × Value)} {kvs : List (D × D)}, RT K H m xs kvs → RT K H m (xs.map (putAt k u)) (kvs.map fun p => if nkOf p.1 = some k then (p.1, d) else p)
  | _, _, .nil => .nil
  | _, _, .cons (kd := kd) (nk := nk) (b := b) (u := u0) h1 h2 h3 h4 h5 r => by
    rw [List.map_cons, List.map_cons]
    by_cases hk : nk = k
    · subst hk
      rw [show putAt nk u (nk, b, u0) = (nk, b, u) from if_pos rfl, if_pos h1]
      exact .cons h1 h2 h3 hv hu (rt_map hv hu r)
    · rw [show putAt k u (nk, b, u0) = (nk, b, u0) from if_neg hk, if_neg (fun z => hk (by rw [h1] at z; exact Option.some.inj z))]
      exact .cons h1 h2 h3 h4 h5 (rt_map hv hu r)
theorem rt_app {a : Addr} {x d : D} {nk : NestedKey} {v : V} {u : Value} (h1 : nkOf x = some nk) (h2 : nk.depth ≤ 8) (h3 : RV K H m (.ref a) x) (hv : RV K H m v d) (hu : RelV v u) : ∀ {xs : List (NestedKey × Addr × Value)} {kvs : List (D × D)}, RT K H m xs kvs → RT K H m (xs ++ [(nk, a, u)]) (kvs ++ [(x, d)])
  | _, _, .nil => .cons h1 h2 h3 hv hu .nil
  | _, _, .cons q1 q2 q3 q4 q5 r => .cons q1 q2 q3 q4 q5 (rt_app h1 h2 h3 hv hu r)
theorem rt_put {a : Addr} {x d : D} {nk : NestedKey} {v : V} {u : Value} {xs : List (NestedKey × Addr × Value)} {kvs : List (D × D)} (h1 : nkOf x = some nk) (h2 : nk.depth ≤ 8) (h3 : RV K H m (.ref a) x) (hv : RV K H m v d) (hu : RelV v u) (r : RT K H m xs kvs) : RT K H m (storedH xs nk a u) (putT kvs nk x d) := by
  unfold storedH putT
  rw [rt_isSome r]
  split
  · exact rt_map hv hu r
  · exact rt_app h1 h2 h3 hv hu r
end
structure Nm where
  cls : Nat → Addr
  fld : Nat → Str
  nf : Nat
  w : World
structure InsK (K : PySem.W.Frag) (N : Nm) (c : Nat) : Prop where
  cls : Cls K (N.cls c)
  no : ∀ f, f < N.nf → NoAttr K (N.cls c) (N.fld f)
  inj : ∀ f g, f < N.nf → g < N.nf → N.fld f = N.fld g → f = g
inductive RF (K : PySem.W.Frag) (H : Hp) (m : List Addr) (N : Nm) : List (Str × V) → List (Nat × D) → Prop
  | nil : RF K H m N [] []
  | cons {k : Nat} {v : V} {d : D} {vs : List (Str × V)} {ds : List (Nat × D)} : RV K H m v d → RF K H m N vs ds → RF K H m N ((N.fld k, v) :: vs) ((k, d) :: ds)
theorem RF.ext0 {K : PySem.W.Frag} {H H' : Hp} {m m' : List Addr} {N : Nm} (x : Ext0 H m H' m') : ∀ {vs : List (Str × V)} {ds : List (Nat × D)}, RF K H m N vs ds → RF K H' m' N vs ds
  | _, _, .nil => .nil
  | _, _, .cons h r => .cons (RV.ext0 x h) (RF.ext0 x r)
theorem RF.ext {K : PySem.W.Frag} {H H' : Hp} {m m' : List Addr} {N : Nm} (x : Ext H m H' m') {vs : List (Str × V)} {ds : List (Nat × D)} (r : RF K H m N vs ds) : RF K H' m' N vs ds := r.ext0 x.to0
def RO (K : PySem.W.Frag) (H : Hp) (m : List Addr) (N : Nm) (a : Addr) : O → Prop
  | .lst ds => ∃ xs, H a = some (.lst xs) ∧ RVs K H m xs ds
  | .dk ds => ∃ xs, H a = some (.dK xs) ∧ RK K H m xs ds
  | .lk ds => ∃ o xs, H a = some (.frz o (.dK xs)) ∧ RK K H m xs ds
  | .ins c fs => ∃ dx xs, H a = some (.ins (N.cls c) dx xs) ∧ RF K H m N xs fs ∧ InsK K N c ∧ ∀ q ∈ fs, q.1 < N.nf
  | .exc c => ∃ oe : Obj, H a = some (.ext fun h => h.get? a = some oe) ∧ oe.cls = .ref (N.cls c) ∧ oe.dict = none ∧ ∃ vs, oe.data = .fields vs
  | .dt kvs => ∃ (oe : Obj) (es : Array DictEntry) (ep : Nat) (xs : List (NestedKey × Addr × Value)), H a = some (.ext fun h => h.get? a = some oe) ∧ (a == sysModules) = false ∧ oe.ExactDict ∧ oe.data = .dict es ep ∧
      es.toList = xs.map (fun x => ⟨x.1.hash N.w, .ref x.2.1, x.2.2⟩) ∧ (xs.map (·.1)).Nodup ∧ xs.length ≤ sizeLine ∧ RT K H m xs kvs
  | .gone => True
structure RH (K : PySem.W.Frag) (N : Nm) (H : Hp) (m : List Addr) (h : AH) : Prop where
  len : m.length = h.length
  nd : m.Nodup
  th : ∀ (n : Nat) (a : Addr), m[n]? = some a → ∃ o, H a = some o ∧ (∀ xs, o ≠ .tup xs) ∧ (∀ ob u, Sqy u → o ≠ .frz ob u)
  ob : ∀ (n : Nat) (a : Addr) (o : O), m[n]? = some a → h[n]? = some o → RO K H m N a o
theorem RO.at0 {K : PySem.W.Frag} {H H' : Hp} {m m' : List Addr} {N : Nm} {a : Addr} {o : O} (x : Ext0 H m H' m') (e : H' a = H a) (h : RO K H m N a o) : RO K H' m' N a o := by
  cases o with
  | lst ds => obtain ⟨xs, h1, h2⟩ := h; exact ⟨xs, e.trans h1, h2.ext0 x⟩
  | dk ds => obtain ⟨xs, h1, h2⟩ := h; exact ⟨xs, e.trans h1, h2.ext0 x⟩
  | lk ds => obtain ⟨o, xs, h1, h2⟩ := h; exact ⟨o, xs, e.trans h1, h2.ext0 x⟩
  | ins c fs => obtain ⟨dx, xs, h1, h2, h3⟩ := h; exact ⟨dx, xs, e.trans h1, h2.ext0 x, h3⟩
  | exc c => obtain ⟨oe, h1, h2⟩ := h; exact ⟨oe, e.trans h1, h2⟩
  | dt kvs => obtain ⟨oe, es, ep, xs, h1, h2, h3, h4, h5, h6, h7, h8⟩ := h; exact ⟨oe, es, ep, xs, e.trans h1, h2, h3, h4, h5, h6, h7, h8.ext0 x⟩
  | gone => trivial
theorem RO.at {K : PySem.W.Frag} {H H' : Hp} {m m' : List Addr} {N : Nm} {a : Addr} {o : O} (x : Ext H m H' m') (e : H' a = H a) (h : RO K H m N a o) : RO K H' m' N a o := h.at0 x.to0 e
section
variable {K : PySem.W.Frag} {N : Nm} {H : Hp} {m : List Addr} {h : AH} {p : Addr} {o : HO}
theorem Ext.upd (hp : H p = none) : Ext H m (upd H p o) m :=
  have k : ∀ b w, H b = some w → L2.upd H p o b = some w := fun b w e => by rw [upd_ne (ne_of_none e hp)]; exact e
  ⟨⟨[], by simp⟩, fun b w _ e => k b w e, fun b e => by
    by_cases hb : b = p
    · subst hb; exact hp
    · rw [upd_ne hb] at e; exact e, fun b xs e => k b _ e, fun b ob u e => k b _ e⟩
theorem RH.upd (r : RH K N H m h) (hp : H p = none) : RH K N (upd H p o) m h where
  len := r.len
  nd := r.nd
  th := fun n a e => by
    obtain ⟨u, h1, h2⟩ := r.th n a e
    exact ⟨u, by rw [upd_ne (ne_of_none h1 hp)]; exact h1, h2⟩
  ob := fun n a u e1 e2 => by
    obtain ⟨v, h1, _⟩ := r.th n a e1
    exact (r.ob n a u e1 e2).at (Ext.upd hp) (upd_ne (ne_of_none h1 hp))
theorem RH.fresh (r : RH K N H m h) (hp : H p = none) : p ∉ m := fun hm => by
  obtain ⟨n, e⟩ := List.getElem?_of_mem hm
  obtain ⟨u, h1, _⟩ := r.th n p e
  rw [hp] at h1; cases h1
theorem Ext.new (hp : H p = none) : Ext H m (L2.upd H p o) (m ++ [p]) := by
  have x : Ext H m (L2.upd H p o) m := Ext.upd hp
  exact ⟨⟨[p], rfl, fun b hb => by
    have : b = p := by simpa using hb
    subst this; exact hp⟩, x.keep, x.alive, x.tups, x.frzs⟩
theorem RH.new (r : RH K N H m h) (hp : H p = none) {ao : O} (ho : (∀ xs, o ≠ .tup xs) ∧ (∀ ob u, Sqy u → o ≠ .frz ob u)) (hr : RO K (L2.upd H p o) (m ++ [p]) N p ao) : RH K N (L2.upd H p o) (m ++ [p]) (h ++ [ao]) where
  len := by simp [r.len]
  nd := by
    rw [List.nodup_append]
    refine ⟨r.nd, by simp, fun a ha b hb e => ?_⟩
    have : b = p := by simpa using hb
    subst this
    exact r.fresh hp (e ▸ ha)
  th := fun n a e => by
    by_cases hn : n < m.length
    · rw [List.getElem?_append_left hn] at e
      obtain ⟨u, h1, h2⟩ := r.th n a e
      exact ⟨u, by rw [upd_ne (ne_of_none h1 hp)]; exact h1, h2⟩
    · rw [List.getElem?_append_right (by omega)] at e
      have : a = p := by
        cases q : n - m.length with
        | zero => rw [q] at e; simpa using e.symm
        | succ k => rw [q] at e; simp at e
      subst this
      exact ⟨o, upd_same, ho⟩
  ob := fun n a u e1 e2 => by
    by_cases hn : n < m.length
    · rw [List.getElem?_append_left hn] at e1
      rw [List.getElem?_append_left (by rw [← r.len]; exact hn)] at e2
      obtain ⟨v, h1, _⟩ := r.th n a e1
      exact (r.ob n a u e1 e2).at (Ext.new hp) (upd_ne (ne_of_none h1 hp))
    · rw [List.getElem?_append_right (by omega)] at e1
      rw [List.getElem?_append_right (by rw [← r.len]; omega), ← r.len] at e2
      cases q : n - m.length with
      | zero =>
        rw [q] at e1 e2
        have a1 : p = a := by simpa using e1
        have a2 : ao = u := by simpa using e2
        subst a1 a2
        exact hr
      | succ k => rw [q] at e1; simp at e1
theorem RH.nth (r : RH K N H m h) {n : Nat} {ao : O} (e : h[n]? = some ao) : ∃ a, m[n]? = some a ∧ RO K H m N a ao := by
  have hn : n < m.length := by rw [r.len]; exact (List.getElem?_eq_some_iff.mp e).1
  exact ⟨m[n], List.getElem?_eq_getElem hn, r.ob n _ ao (List.getElem?_eq_getElem hn) e⟩
theorem Ext.write {a : Addr} {u : HO} (hm : a ∈ m) (hu : H a = some u) (h1 : ∀ xs, u ≠ .tup xs) (h2 : ∀ ob w, u ≠ .frz ob w) : Ext H m (L2.upd H a o) m :=
  ⟨⟨[], by simp⟩, fun b w hb e => by rw [upd_ne (show b ≠ a from fun z => hb (by rw [z]; exact hm))]; exact e, fun b e => by
    by_cases hb : b = a
    · subst hb; rw [upd_same] at e; cases e
    · rw [upd_ne hb] at e; exact e,
    fun b xs e => by rw [upd_ne (fun z => by subst z; rw [hu] at e; exact h1 xs (Option.some.inj e))]; exact e,
    fun b ob w e => by rw [upd_ne (fun z => by subst z; rw [hu] at e; exact h2 ob w (Option.some.inj e))]; exact e⟩
theorem nodup_at {l : List Addr} (hd : l.Nodup) {i j : Nat} {x : Addr} (a : l[i]? = some x) (b : l[j]? = some x) : i = j := by
  obtain ⟨h1, e1⟩ := List.getElem?_eq_some_iff.mp a
  obtain ⟨h2, e2⟩ := List.getElem?_eq_some_iff.mp b
  exact (List.getElem_inj hd).mp (e1.trans e2.symm)
theorem RH.write (r : RH K N H m h) {n : Nat} {a : Addr} (e : m[n]? = some a) (hf : ∀ ob w, H a ≠ some (.frz ob w)) {ao : O} (ho : (∀ xs, o ≠ .tup xs) ∧ (∀ ob u, Sqy u → o ≠ .frz ob u)) (hr : RO K (L2.upd H a o) m N a ao) : RH K N (L2.upd H a o) m (h.set n ao) ∧ Ext H m (L2.upd H a o) m := by
  obtain ⟨u, h1, h2, h3⟩ := r.th n a e
  have x : Ext H m (L2.upd H a o) m := Ext.write (List.mem_of_getElem? e) h1 h2 (fun ob w z => hf ob w (by rw [h1, z]))
  refine ⟨⟨by simp [r.len], r.nd, fun i b eb => ?_, fun i b w eb ew => ?_⟩, x⟩
  · by_cases hb : b = a
    · subst hb; exact ⟨o, upd_same, ho⟩
    · obtain ⟨v, q1, q2⟩ := r.th i b eb
      exact ⟨v, by rw [upd_ne hb]; exact q1, q2⟩
  · by_cases hi : i = n
    · subst hi
      rw [e] at eb; cases eb
      have hlt : i < h.length := by rw [← r.len]; exact (List.getElem?_eq_some_iff.mp e).1
      rw [List.getElem?_set_self hlt] at ew
      cases ew
      exact hr
    · rw [List.getElem?_set_ne (Ne.symm hi)] at ew
      have hb : b ≠ a := fun z => hi (nodup_at r.nd eb (z ▸ e))
      exact (r.ob i b w eb ew).at x (upd_ne hb)
theorem Ext0.side {p : Addr} {u : HO} (hu : H p = some u) (h1 : ∀ xs, u ≠ .tup xs) (h2 : ∀ ob w, u ≠ .frz ob w) : Ext0 H m (L2.upd H p o) m :=
  ⟨⟨[], by simp⟩, fun b xs e => by rw [upd_ne (fun z => by subst z; rw [hu] at e; exact h1 xs (Option.some.inj e))]; exact e,
    fun b ob w _ e => by rw [upd_ne (fun z => by subst z; rw [hu] at e; exact h2 ob w (Option.some.inj e))]; exact e⟩
theorem RH.side {p : Addr} {u : HO} (r : RH K N H m h) (hp : p ∉ m) (hu : H p = some u) (h1 : ∀ xs, u ≠ .tup xs) (h2 : ∀ ob w, u ≠ .frz ob w) : RH K N (L2.upd H p o) m h where
  len := r.len
  nd := r.nd
  th := fun n a e => by
    obtain ⟨v, q1, q2⟩ := r.th n a e
    exact ⟨v, by rw [upd_ne (fun z => hp (by rw [← z]; exact List.mem_of_getElem? e))]; exact q1, q2⟩
  ob := fun n a w e1 e2 => (r.ob n a w e1 e2).at0 (Ext0.side hu h1 h2) (upd_ne (fun z => hp (by rw [← z]; exact List.mem_of_getElem? e1)))
theorem Ext.side {H0 : Hp} {m0 : List Addr} {p : Addr} (x : Ext H0 m0 H m) (hp : H0 p = none) : Ext H0 m0 (L2.upd H p o) m :=
  have ne : ∀ b w, H0 b = some w → b ≠ p := fun b w e z => by subst z; rw [hp] at e; cases e
  ⟨x.pre, fun b w hb e => by rw [upd_ne (ne b w e)]; exact x.keep b w hb e, fun b e => by
    by_cases hb : b = p
    · subst hb; exact hp
    · rw [upd_ne hb] at e; exact x.alive b e, fun b xs e => by rw [upd_ne (ne b _ e)]; exact x.tups b xs e, fun b ob w e => by rw [upd_ne (ne b _ e)]; exact x.frzs b ob w e⟩
theorem RH.join {p : Addr} {xs : List V} {ds : List D} (r : RH K N H m h) (hp : p ∉ m) (hu : H p = some (.lst xs)) (rs : RVs K H m xs ds) : RH K N H (m ++ [p]) (h ++ [.lst ds]) := by
  have x : Ext0 H m H (m ++ [p]) := ⟨⟨[p], rfl⟩, fun _ _ e => e, fun _ _ _ _ e => e⟩
  refine ⟨by simp [r.len], ?_, fun n a e => ?_, fun n a u e1 e2 => ?_⟩
  · rw [List.nodup_append]
    refine ⟨r.nd, by simp, fun a ha b hb e => ?_⟩
    have : b = p := by simpa using hb
    subst this
    exact hp (e ▸ ha)
  · by_cases hn : n < m.length
    · rw [List.getElem?_append_left hn] at e
      exact r.th n a e
    · rw [List.getElem?_append_right (by omega)] at e
      have : a = p := by
        cases q : n - m.length with
        | zero => rw [q] at e; simpa using e.symm
        | succ k => rw [q] at e; simp at e
      subst this
      exact ⟨_, hu, (fun _ z => nomatch z), (fun _ _ _ z => nomatch z)⟩
  · by_cases hn : n < m.length
    · rw [List.getElem?_append_left hn] at e1
      rw [List.getElem?_append_left (by rw [← r.len]; exact hn)] at e2
      exact (r.ob n a u e1 e2).at0 x rfl
    · rw [List.getElem?_append_right (by omega)] at e1
      rw [List.getElem?_append_right (by rw [← r.len]; omega), ← r.len] at e2
      cases q : n - m.length with
      | zero =>
        rw [q] at e1 e2
        have a1 : p = a := by simpa using e1
        have a2 : O.lst ds = u := by simpa using e2
        subst a1 a2
        exact ⟨xs, hu, rs.ext0 x⟩
      | succ k => rw [q] at e1; simp at e1
theorem Ext.join {H0 : Hp} {m0 : List Addr} {p : Addr} (x : Ext H0 m0 H m) (hp : H0 p = none) : Ext H0 m0 H (m ++ [p]) :=
  ⟨let ⟨t, e, ht⟩ := x.pre; ⟨t ++ [p], by rw [e, List.append_assoc], fun b hb => by
    rcases List.mem_append.mp hb with z | z
    · exact ht b z
    · have : b = p := by simpa using z
      subst this; exact hp⟩, x.keep, x.alive, x.tups, x.frzs⟩
end
section
variable {K : PySem.W.Frag} {N : Nm} {H : Hp} {m : List Addr} {h : AH}
theorem RH.lock (r : RH K N H m h) {n : Nat} {a : Addr} {od : Obj} {xs : List (Key × V)} {ds : List (Kd × D)} (e : m[n]? = some a) (hH : H a = some (.dK xs)) (rk : RK K H m xs ds) :
    RH K N (L2.upd H a (.frz od (.dK xs))) m (h.set n (.lk ds)) ∧ Ext H m (L2.upd H a (.frz od (.dK xs))) m := by
  have ex : Ext H m (L2.upd H a (.frz od (.dK xs))) m := Ext.write (List.mem_of_getElem? e) hH (fun _ z => nomatch z) (fun _ _ z => nomatch z)
  exact r.write e (fun ob w z => by rw [hH] at z; cases z) ⟨(fun _ z => nomatch z), fun ob u q z => by cases z; exact q.elim⟩ ⟨od, xs, upd_same, rk.ext ex⟩
theorem Ext0.unlock {a : Addr} {od : Obj} {xs : List (Key × V)} (hH : H a = some (.frz od (.dK xs))) : Ext0 H m (L2.upd H a (.dK xs)) m :=
  ⟨⟨[], by simp⟩, fun b ys q => by rw [upd_ne (fun z => by subst z; rw [hH] at q; cases q)]; exact q,
    fun b o u sq q => by rw [upd_ne (fun z => by subst z; rw [hH] at q; cases q; exact sq.elim)]; exact q⟩
theorem RH.unlock (r : RH K N H m h) {n : Nat} {a : Addr} {od : Obj} {xs : List (Key × V)} {ds : List (Kd × D)} (e : m[n]? = some a) (hH : H a = some (.frz od (.dK xs))) (rk : RK K H m xs ds) :
    RH K N (L2.upd H a (.dK xs)) m (h.set n (.dk ds)) := by
  have x : Ext0 H m (L2.upd H a (.dK xs)) m := Ext0.unlock hH
  refine ⟨by simp [r.len], r.nd, fun i b eb => ?_, fun i b w eb ew => ?_⟩
  · by_cases hb : b = a
    · subst hb; exact ⟨_, upd_same, (fun _ z => nomatch z), (fun _ _ _ z => nomatch z)⟩
    · obtain ⟨v, q1, q2⟩ := r.th i b eb
      exact ⟨v, by rw [upd_ne hb]; exact q1, q2⟩
  · by_cases hi : i = n
    · subst hi
      rw [e] at eb; cases eb
      have hlt : i < h.length := by rw [← r.len]; exact (List.getElem?_eq_some_iff.mp e).1
      rw [List.getElem?_set_self hlt] at ew
      cases ew
      exact ⟨xs, upd_same, rk.ext0 x⟩
    · rw [List.getElem?_set_ne (Ne.symm hi)] at ew
      have hb : b ≠ a := fun z => hi (nodup_at r.nd eb (z ▸ e))
      exact (r.ob i b w eb ew).at0 x (upd_ne hb)
theorem Ext.unlock {H' : Hp} {m' : List Addr} {a : Addr} {od : Obj} {xs : List (Key × V)} (x : Ext (L2.upd H a (.frz od (.dK xs))) m H' m') (hm : a ∈ m) (hH : H a = some (.dK xs)) : Ext H m (L2.upd H' a (.dK xs)) m' := by
  have ex : Ext H m (L2.upd H a (.frz od (.dK xs))) m := Ext.write hm hH (fun _ z => nomatch z) (fun _ _ z => nomatch z)
  have ex2 := ex.trans x
  refine ⟨ex2.pre, fun b o hb q => ?_, fun b q => ?_, fun b ys q => ?_, fun b o u q => ?_⟩
  · rw [upd_ne (fun z => hb (by rw [z]; exact hm))]; exact ex2.keep b o hb q
  · by_cases hb : b = a
    · subst hb; rw [upd_same] at q; cases q
    · rw [upd_ne hb] at q; exact ex2.alive b q
  · rw [upd_ne (fun z => by subst z; rw [hH] at q; cases q)]; exact ex2.tups b ys q
  · rw [upd_ne (fun z => by subst z; rw [hH] at q; cases q)]; exact ex2.frzs b o u q
end
end Rf
namespace Rf
open PySem PySem.Spec PyProof.Rows L2
inductive Bop | add | sub | mul | fdiv | mod | pow
  deriving DecidableEq
inductive Cop | lt | le | gt | ge | eq | ne | isin | notin | isN | notN | eqd | ned | ins | notins | tin | tnotin | ind | notind | eqe | nee | net | eqx | nex
  deriving DecidableEq
inductive Ty1 | int | bool | str | tuple | list | dict
  deriving DecidableEq
inductive Bf | len | abs | min2 | max2 | minl | maxl | int | str | tuple | list | sorted | all | any | sum | dnew | lenT | repr
  deriving DecidableEq
inductive Bm | append | extend | pop | index | remove | get | popk | getT | join | split | count | upper
  deriving DecidableEq
inductive Tg | one (i : Nat) | many (is : List Nat)
  deriving DecidableEq
inductive M where
  | nil
  | cons (a r : M)
  | var (i : Nat)
  | k (d : D)
  | glb (x : Nat) (d : D)
  | bin (op : Bop) (a b : M)
  | neg (a : M)
  | cmp (op : Cop) (a b : M)
  | ch (o1 o2 : Cop) (a b c : M)
  | and (a b : M)
  | or (a b : M)
  | not (a : M)
  | ite (c a b : M)
  | tup (as : M)
  | lst (as : M)
  | idx (a i : M)
  | slc (a lo hi : M)
  | slst (a st : M)
  | call (f : Nat) (as : M)
  | bf (f : Bf) (as : M)
  | bm (f : Bm) (o as : M)
  | isi (t : Ty1) (a : M)
  | lrng (a : M)
  | lc (e : M) (tg : Tg) (src : M) (c : M) (own : List Nat)
  | lcK (e : M) (tg : Tg) (i : Nat) (c : M) (own : List Nat)
  | dnew
  | tnew
  | tidx (a i : M)
  /-- NAME[e], NAME a dict of the module -/
  | kdx (i : Nat) (kvs : List (List Nat × D)) (e : M)
  | kdg (i : Nat) (kvs : List (List Nat × D)) (e : M)
  | kdi (i : Nat) (kvs : List (List Nat × D)) (e : M)
  | ddisp (a b : M)
  /-- {k: v, ..}: its pairs are kv's -/
  | disp (r : M)
  | kv (a b r : M)
  | lvals (a : M)
  | attr (a : M) (f : Nat)
  | meth (tb : List (Nat × Nat)) (o as : M)
  | make (c f : Nat) (as : M)
  | nset (a : M)
  /-- sorted(set(a)), texts -/
  | sset (a : M)
  | isx (sb : Sb) (c : Nat) (a : M)
  | isxv (sb : Sb) (a : M)
  | rng1 (a : M)
  | rng2 (a b : M)
  | rng3 (a b c : M)
  | enum (a : M)
  | zip (a b : M)
  | tv (a : M)
  | itv (a : M)
inductive XE
  | var (j : Nat)
  | isi (c : Nat)
  | isv
  | isn (cs : List Nat)
  | and (a b : XE)
  | not (a : XE)
  | fld (f : Nat)
  | tfld (f : Nat)
  | intx (a : XE)
def sbL (sb : Sb) (a b : Nat) : Option Bool := (sb.find? fun t => t.1 == a && t.2.1 == b).map (·.2.2)
def anyO : List (Option Bool) → Option Bool
  | [] => some false
  | o :: r => match o with
    | some true => some true
    | some false => anyO r
    | none => none
def evX (sb : Sb) (xc : Nat) (rd : Nat → Option Bool) : XE → Option Bool
  | .var j => rd j
  | .isi c => sbL sb xc c
  | .isv => some true
  | .isn cs => anyO (cs.map (sbL sb xc))
  | .and a b => match evX sb xc rd a with
    | some true => evX sb xc rd b
    | some false => some false
    | none => none
  | .not a => (evX sb xc rd a).map (!·)
  | .fld _ => none
  | .tfld _ => none
  | .intx _ => none
inductive MS where
  | nil
  | seq (s r : MS)
  | set (i : Nat) (e : M)
  | setT (is : List Nat) (e : M)
  | setI (o i e : M)
  | tset (o i e : M)
  | setA (o : M) (f : Nat) (e : M)
  | augA (o : M) (f : Nat) (op : Bop) (e : M)
  | aug (i : Nat) (op : Bop) (e : M)
  | expr (e : M)
  | ret (e : M)
  | ret0
  | cond (c : M) (a b : MS)
  | while_ (c : M) (b : MS)
  | for_ (tg : Tg) (src : M) (b : MS)
  | forK (tg : Tg) (i : Nat) (b : MS)
  | pass_
  | brk
  | cont
  | raise_ (c : Nat) (as : M)
  | raiseF (c f : Nat) (e : M)
  | tryK (b : MS) (sb : Sb) (c i j : Nat)
  | tryX (b : MS) (sb : Sb) (c i : Nat) (hs : List (Nat × XE))
  /-- try: b; except C as e: return (w, e.f) -/
  | tryR (b : MS) (sb : Sb) (c i : Nat) (w : List Nat) (f : Nat)
  /-- try: b; except C as e: g and same(e.f, y) is returned -/
  | tryN (b : MS) (sb : Sb) (c i : Nat) (g : XE) (f : Nat) (lc : List Nat) (fn : Nat) (j : Option Nat) (k : Int)
  /-- try: b; except C as e: x_j = (w, isinstance(e, D), fn(e)), for each C; fn tells of cs -/
  | try2 (b : MS) (sb : Sb) (i j fn : Nat) (cs : List Nat) (hs : List (Nat × List Nat × Nat))
  /-- return isinstance(e, (cs)), e an exception: called in handlers only -/
  | retI (cs : List Nat)
  | never
  /-- one text read in two ways -/
  | alt (a b : MS)
  /-- a, b = a list -/
  | setU (is : List Nat) (e : M)
structure Exc where
  cls : Nat
  fs : List (Nat × D)
abbrev Sa := List (Option D)
def rdA (s : Sa) (j : Nat) : Option Bool := match s[j]? with
  | some (some (.bl b)) => some b
  | _ => none
def fldE (x : Exc) (f : Nat) : Option D := match x.fs with
  | [(g, d)] => if g = f then some d else none
  | _ => none
def evH (sb : Sb) (x : Exc) (rd : Nat → Option Bool) : XE → Option D
  | .fld f => fldE x f
  | .tfld f => (fldE x f).map fun d => .tup [d]
  | .intx a => (evX sb x.cls rd a).map fun b => .int (if b then 1 else 0)
  | e => (evX sb x.cls rd e).map .bl
def hsW (sb : Sb) (x : Exc) : List (Nat × XE) → Sa → Option Sa
  | [], s => some s
  | (j, e) :: r, s => match evH sb x (rdA s) e with
    | some d => hsW sb x r (s.set j (some d))
    | none => none
abbrev QD := D → AH → Prop
abbrev QL := List D → AH → Prop
abbrev EK := Exc → Sa → AH → Prop
abbrev EC := Exc → AH → Prop
abbrev CT := Nat → List D → AH → QD → EC → Prop
structure En where
  nx : Sa → AH → Prop
  rt : QD
  bk : Sa → AH → Prop
  ct : Sa → AH → Prop
def tryE (sb : Sb) (c i : Nat) (hs : List (Nat × XE)) (Z : En) (E : EK) (x : Exc) (s' : Sa) (h' : AH) : Prop := match sbL sb x.cls c with
  | some true => i < s'.length ∧ ∃ s2, hsW sb x hs (s'.set i none) = some s2 ∧ Z.nx (s2.set i none) h'
  | some false => E x s' h'
  | none => False
def tryRE (sb : Sb) (c i : Nat) (w : List Nat) (f : Nat) (Z : En) (E : EK) (x : Exc) (s' : Sa) (h' : AH) : Prop := match sbL sb x.cls c with
  | some true => i < s'.length ∧ ∃ d, fldE x f = some d ∧ Z.rt (.tup [.str w, d]) h'
  | some false => E x s' h'
  | none => False
def yN (s : Sa) (j : Option Nat) (k : Int) : Option Int := match j with
  | none => some k
  | some j => (match s[j]? with
    | some (some (.int i)) => some i
    | _ => none)
def tryNE (sb : Sb) (c i : Nat) (g : XE) (f : Nat) (lc : List Nat) (j : Option Nat) (k : Int) (Z : En) (E : EK) (x : Exc) (s' : Sa) (h' : AH) : Prop := match sbL sb x.cls c with
  | some true => i < s'.length ∧ ∃ t, evX sb x.cls (rdA (s'.set i none)) g = some t ∧ (t = true → x.cls ∈ lc ∧ ∃ a b, fldE x f = some (.int a) ∧ yN (s'.set i none) j k = some b ∧ Z.rt (.bl (decide (a = b))) h') ∧ (t = false → Z.rt (.bl false) h')
  | some false => E x s' h'
  | none => False
def try2E (sb : Sb) (i j : Nat) (cs : List Nat) (Z : En) (E : EK) (x : Exc) (s' : Sa) (h' : AH) : List (Nat × List Nat × Nat) → Prop
  | [] => E x s' h'
  | (c, w, dd) :: r => match sbL sb x.cls c with
    | some true => i < s'.length ∧ ∃ b1 b2, sbL sb x.cls dd = some b1 ∧ anyO (cs.map (sbL sb x.cls)) = some b2 ∧ Z.nx (((s'.set i none).set j (some (.tup [.str w, .bl b1, .bl b2]))).set i none) h'
    | some false => try2E sb i j cs Z E x s' h' r
    | none => False
def tryKE (sb : Sb) (c i j : Nat) (Z : En) (E : EK) (x : Exc) (s' : Sa) (h' : AH) : Prop := match sbL sb x.cls c with
  | some true => i < s'.length ∧ x.fs = [] ∧ Z.nx ((s'.set j (some (.ref h'.length))).set i none) (h' ++ [.exc x.cls])
  | some false => E x s' h'
  | none => False
def ddK (ks : List Kd) : List Kd := ks.foldl (fun acc k => if (acc.any fun z => decide (z = k)) = true then acc else acc ++ [k]) []
def SZ : Nat := 16777216
mutual
def D.eqv : D → D → Bool
  | .non, .non => true
  | .bl a, .bl b => a == b
  | .bl a, .int j => (if a then (1 : Int) else 0) == j
  | .int i, .bl b => i == (if b then (1 : Int) else 0)
  | .int i, .int j => i == j
  | .str x, .str y => decide (x = y)
  | .tup xs, .tup ys => D.eqvs xs ys
  | .rol xs, .rol ys => D.eqvs xs ys
  | _, _ => false
def D.eqvs : List D → List D → Bool
  | [], [] => true
  | x :: xs, y :: ys => D.eqv x y && D.eqvs xs ys
  | _, _ => false
end
mutual
def D.same : D → D → Bool
  | .non, .non => true
  | .bl a, .bl b => a == b
  | .int a, .int b => decide (a = b)
  | .str a, .str b => decide (a = b)
  | .tup a, .tup b => D.sames a b
  | .wtup a, .wtup b => D.sames a b
  | .rol a, .rol b => D.sames a b
  | .ref a, .ref b => decide (a = b)
  | _, _ => false
def D.sames : List D → List D → Bool
  | [], [] => true
  | x :: xs, y :: ys => D.same x y && D.sames xs ys
  | _, _ => false
end
mutual
theorem D.same_eq : ∀ {a b : D}, D.same a b = true → a = b
  | .non, b, h => by cases b <;> simp [D.same] at h <;> rfl
  | .bl _, b, h => by cases b <;> simp [D.same] at h; rw [h]
  | .int _, b, h => by cases b <;> simp [D.same] at h; rw [h]
  | .str _, b, h => by cases b <;> simp [D.same] at h; rw [h]
  | .tup _, b, h => by cases b <;> simp [D.same] at h; rw [D.sames_eq h]
  | .wtup _, b, h => by cases b <;> simp [D.same] at h; rw [D.sames_eq h]
  | .rol _, b, h => by cases b <;> simp [D.same] at h; rw [D.sames_eq h]
  | .ref _, b, h => by cases b <;> simp [D.same] at h; rw [h]
theorem D.sames_eq : ∀ {a b : List D}, D.sames a b = true → a = b
  | [], b, h => by cases b <;> simp [D.sames] at h; rfl
  | x :: xs, b, h => by
    cases b with
    | nil => simp [D.sames] at h
    | cons y ys =>
      simp only [D.sames, Bool.and_eq_true] at h
      rw [D.same_eq h.1, D.sames_eq h.2]
end
def sameK : List (List Nat × D) → List (List Nat × D) → Bool
  | [], [] => true
  | x :: xs, y :: ys => decide (x.1 = y.1) && (D.same x.2 y.2 && sameK xs ys)
  | _, _ => false
theorem sameK_ok : ∀ {a b : List (List Nat × D)}, sameK a b = true → a = b
  | [], [], _ => rfl
  | [], _ :: _, h => by simp [sameK] at h
  | _ :: _, [], h => by simp [sameK] at h
  | (x1, x2) :: xs, (y1, y2) :: ys, h => by
    simp only [sameK, Bool.and_eq_true, decide_eq_true_eq] at h
    obtain ⟨h1, h2, h3⟩ := h
    rw [h1, D.same_eq h2, sameK_ok h3]
mutual
def D.py : D → PyData
  | .non => .none
  | .bl b => .bool b
  | .int i => .int i
  | .str x => .str (mkS x)
  | .tup xs => .tuple (D.pys xs)
  | .rol xs => .list (D.pys xs)
  | .wtup _ => .none
  | .ref _ => .none
def D.pys : List D → List PyData
  | [] => []
  | x :: xs => D.py x :: D.pys xs
end
def strOkL (x : List Nat) : Bool := x.all (· < 0x110000)
mutual
def D.ok : Nat → D → Bool
  | _, .non => true
  | _, .bl _ => true
  | _, .int _ => true
  | _, .str x => strOkL x
  | n, .tup xs => (match n with | 0 => false | n + 1 => D.oks n xs)
  | n, .rol xs => (match n with | 0 => false | n + 1 => D.oks n xs)
  | _, .wtup _ => false
  | _, .ref _ => false
def D.oks : Nat → List D → Bool
  | _, [] => true
  | n, x :: xs => D.ok n x && D.oks n xs
end
def unl (h : AH) : D → D
  | .ref n => (match h[n]? with | some (.lst xs) => .rol xs | _ => .ref n)
  | d => d
def eqW (h : AH) (x y : D) (Q : Bool → Prop) : Prop := D.ok 60 (unl h x) = true ∧ D.ok 60 (unl h y) = true ∧ Q (D.eqv (unl h x) (unl h y))
def unlA (h : AH) : D → D
  | .ref n => (match h[n]? with | some (.lst xs) => .rol (xs.map (unl h)) | _ => .ref n)
  | d => d
def eqdW (h : AH) (x y : D) (Q : Bool → Prop) : Prop := D.ok 60 (unlA h x) = true ∧ D.ok 60 (unlA h y) = true ∧ Q (D.eqv (unlA h x) (unlA h y))
def unlB (h : AH) : D → D
  | .ref n => (match h[n]? with | some (.lst xs) => .rol (xs.map (unlA h)) | _ => .ref n)
  | d => d
def eqeW (h : AH) (x y : D) (Q : Bool → Prop) : Prop := D.ok 60 (unlB h x) = true ∧ D.ok 60 (unlB h y) = true ∧ Q (D.eqv (unlB h x) (unlB h y))
def keyOf : D → Option Kd
  | .int i => some (.inl i)
  | .str x => some (.inr x)
  | _ => none
def kD : Kd → D
  | .inl i => .int i
  | .inr x => .str x
def valD (kvs : List (Kd × D)) (k : Kd) : Option D := (kvs.find? fun kv => decide (kv.1 = k)).map (·.2)
def putD (kvs : List (Kd × D)) (k : Kd) (v : D) : List (Kd × D) :=
  if (kvs.any fun kv => decide (kv.1 = k)) = true then kvs.map (fun kv => if kv.1 = k then (kv.1, v) else kv) else kvs ++ [(k, v)]
def dropD (kvs : List (Kd × D)) (k : Kd) : List (Kd × D) := kvs.filter fun kv => decide (kv.1 ≠ k)
def mergeD (kvs more : List (Kd × D)) : List (Kd × D) := more.foldl (fun acc kv => putD acc kv.1 kv.2) kvs
def getK (h : AH) (n : Nat) : Option (List (Kd × D)) := match h[n]? with
  | some (.dk kvs) => some kvs
  | some (.lk kvs) => some kvs
  | _ => none
def getW (h : AH) (n : Nat) : Option (List (Kd × D)) := match h[n]? with
  | some (.dk kvs) => some kvs
  | _ => none
def lockA (h : AH) (n : Nat) : AH := match getW h n with
  | some kvs => h.set n (.lk kvs)
  | none => h
def unlockA (h0 : AH) (n : Nat) (h : AH) : AH := match getW h0 n with
  | some kvs => h.set n (.dk kvs)
  | none => h
def dictOf (h : AH) : D → Option (List (Kd × D))
  | .ref n => getK h n
  | _ => none
def pairsOf : List D → Option (List (Kd × D))
  | [] => some []
  | .tup [k, v] :: r => (match keyOf k, pairsOf r with | some k, some r => some ((k, v) :: r) | _, _ => none)
  | _ => none
def itemsOf (h : AH) : D → Option (List D)
  | .tup xs => some xs
  | .rol xs => some xs
  | .ref n => (match h[n]? with | some (.lst xs) => some xs | _ => none)
  | _ => none
def lstOf (h : AH) : D → Option (List D)
  | .rol xs => some xs
  | .ref n => (match h[n]? with | some (.lst xs) => some xs | _ => none)
  | _ => none
def extOf (h : AH) : D → Option (List D)
  | .tup xs => some xs
  | .ref n => (match h[n]? with | some (.lst xs) => some xs | _ => none)
  | _ => none
def D.mem (x : D) (xs : List D) : Bool := xs.any fun y => D.eqv y x
def inW (h : AH) (x y : D) (Q : Bool → Prop) : Prop :=
  match x, y with
  | .str [c], .str b => Q (decide (c ∈ b))
  | x, y => (match dictOf h y with
    | some kvs => ∃ k, keyOf x = some k ∧ Q (valD kvs k).isSome
    | none => ∃ ys, itemsOf h y = some ys ∧ D.ok 60 x = true ∧ D.oks 59 ys = true ∧ Q (D.mem x ys))
def bopW : Bop → D → D → AH → QD → Prop
  | .add, .int i, .int j, h, Q => Q (.int (i + j)) h
  | .add, .str a, .str b, h, Q => a.length + b.length ≤ SZ ∧ Q (.str (a ++ b)) h
  | .add, .tup a, .tup b, h, Q => a.length + b.length ≤ SZ ∧ Q (.tup (a ++ b)) h
  | .add, .ref a, .ref b, h, Q => ∃ xs ys, h[a]? = some (.lst xs) ∧ h[b]? = some (.lst ys) ∧ xs.length + ys.length ≤ SZ ∧ Q (.ref h.length) (h ++ [.lst (xs ++ ys)])
  | .sub, .int i, .int j, h, Q => Q (.int (i - j)) h
  | .mul, .int i, .int j, h, Q => ((-(2 ^ 64) < i ∧ i < 2 ^ 64) ∨ (-(2 ^ 64) < j ∧ j < 2 ^ 64)) ∧ Q (.int (i * j)) h
  | .mul, .ref a, .int k, h, Q => ∃ xs, h[a]? = some (.lst xs) ∧ -(2 ^ 63) ≤ k ∧ k < 2 ^ 63 ∧ xs.length * k.toNat ≤ SZ ∧ Q (.ref h.length) (h ++ [.lst (List.replicate k.toNat xs).flatten])
  | .mul, .str a, .int j, h, Q => 0 ≤ j ∧ j ≤ 1000 ∧ a.length ≤ 1000 ∧ Q (.str (List.replicate j.toNat a).flatten) h
  | .fdiv, .int i, .int j, h, Q => 0 < j ∧ j.natAbs < 2 ^ 200 ∧ Q (.int (i / j)) h
  | .mod, .int i, .int j, h, Q => 0 < j ∧ Q (.int (i % j)) h
  | .pow, .int i, .int j, h, Q => (0 ≤ j ∧ j ≤ 1000000 ∧ i.natAbs < 2 ^ 64) ∧ Q (.int (i ^ j.toNat)) h
  | _, _, _, _, _ => False
def D.isN : D → Bool
  | .non => true
  | _ => false
def nonStr (h : AH) : D → Prop
  | .non => True
  | .bl _ => True
  | .int _ => True
  | .tup _ => True
  | .ref n => (∃ xs, h[n]? = some (.lst xs)) ∨ ∃ kvs, h[n]? = some (.dk kvs)
  | _ => False
def mapO {α β : Type} (f : α → Option β) : List α → Option (List β)
  | [] => some []
  | x :: xs => match f x, mapO f xs with
    | some y, some ys => some (y :: ys)
    | _, _ => none
mutual
def noL : PyData → Bool
  | .list _ => false
  | .tuple xs => noLs xs
  | .dict kvs => noLk kvs
  | _ => true
def noLs : List PyData → Bool
  | [] => true
  | x :: xs => noL x && noLs xs
def noLk : List (PyData × PyData) → Bool
  | [] => true
  | (a, b) :: r => noL a && (noL b && noLk r)
end
def datA (h : AH) : Nat → D → Option PyData
  | _, .non => some .none
  | _, .bl b => some (.bool b)
  | _, .int i => some (.int i)
  | _, .str x => some (.str (mkS x))
  | n + 1, .tup xs => (mapO (datA h n) xs).map .tuple
  | n + 1, .rol xs => (mapO (datA h n) xs).map .list
  | n + 1, .ref a => match h[a]? with
    | some (.lst xs) => (mapO (datA h n) xs).map .list
    | some (.dk kvs) => (mapO (fun kv => (datA h n kv.2).map fun y => ((kD kv.1).py, y)) kvs).map .dict
    | _ => none
  | _, _ => none
def ssetW (x : D) (h : AH) (Q : QD) : Prop := ∃ ks : List (List Nat), itemsOf h x = some (ks.map D.str) ∧ ks.length ≤ 4000 ∧ ∀ bs : List (List Nat), bs.Nodup → (∀ z, z ∈ bs ↔ z ∈ ks) → Q (.ref h.length) (h ++ [.lst ((bs.mergeSort (PySem.W.dataLe false fun x => PyData.str (mkS x))).map D.str)])
def AE (h : AH) : Nat → D → D → Bool → Prop
  | 0, _, _, _ => False
  | n + 1, x, y, b =>
    (∃ px py, datA h (n + 1) x = some px ∧ datA h (n + 1) y = some py ∧ px.plain = true ∧ py.plain = true ∧ b = PyData.eqv px py) ∨
    (∃ xs ys e, ((x = .tup xs ∧ y = .tup ys) ∨ ∃ a c, x = .ref a ∧ y = .ref c ∧ h[a]? = some (.lst xs) ∧ h[c]? = some (.lst ys) ∧ xs.length = ys.length) ∧ (∀ j x' y', xs[j]? = some x' → ys[j]? = some y' → AE h n x' y' (e j)) ∧ b = ((List.range (min xs.length ys.length)).all e && xs.length == ys.length)) ∨
    (∃ a c, x = .ref a ∧ y = .ref c ∧ ((h[a]? = some (.dk []) ∧ h[c]? = some (.dk []) ∧ b = true) ∨ ∃ k v w, h[a]? = some (.dk [(k, v)]) ∧ h[c]? = some (.dk [(k, w)]) ∧ AE h n v w b)) ∨
    (b = false ∧ ∃ a kvs, x = .ref a ∧ h[a]? = some (.dk kvs) ∧ ((∃ w, y = .str w) ∨ ∃ ys, y = .tup ys)) ∨
    (b = false ∧ ∃ xs, x = .tup xs ∧ ((∃ w, y = .str w) ∨ y = .non)) ∨
    (b = false ∧ ∃ a xs, x = .ref a ∧ h[a]? = some (.lst xs) ∧ ((∃ w, y = .str w) ∨ ∃ ys, y = .tup ys))
def eqxW (h : AH) (x y : D) (Q : Bool → Prop) : Prop := ∃ b, AE h 40 x y b ∧ Q b
def insW (h : AH) (x y : D) (Q : Bool → Prop) : Prop := ∃ ys : List (List Nat), (y = .tup (ys.map .str) ∨ ∃ n, y = .ref n ∧ h[n]? = some (.lst (ys.map .str))) ∧ ((∃ w, x = .str w ∧ Q (decide (w ∈ ys))) ∨ (nonStr h x ∧ Q false))
def tinW (h : AH) (x y : D) (Q : Bool → Prop) : Prop := ∃ ds nk n kvs, x = .tup ds ∧ nkOf x = some nk ∧ nk.depth ≤ 8 ∧ y = .ref n ∧ h[n]? = some (.dt kvs) ∧ Q (valT kvs nk).isSome
def indW (h : AH) (x y : D) (Q : Bool → Prop) : Prop := ∃ ys, itemsOf h y = some ys ∧ D.ok 60 (unl h x) = true ∧ D.oks 59 (ys.map (unl h)) = true ∧ Q (D.mem (unl h x) (ys.map (unl h)))
def cmpW : Cop → D → D → AH → (Bool → Prop) → Prop
  | .lt, .int i, .int j, _, Q => Q (decide (i < j))
  | .lt, .str a, .str b, _, Q => Q (decide (a < b))
  | .le, .int i, .int j, _, Q => Q (decide (i ≤ j))
  | .gt, .int i, .int j, _, Q => Q (decide (j < i))
  | .ge, .int i, .int j, _, Q => Q (decide (j ≤ i))
  | .eq, x, y, h, Q => eqW h x y Q
  | .ne, x, y, h, Q => eqW h x y fun b => Q (!b)
  | .isin, x, y, h, Q => inW h x y Q
  | .notin, x, y, h, Q => inW h x y fun b => Q (!b)
  | .eqd, x, y, h, Q => eqdW h x y Q
  | .ned, x, y, h, Q => eqdW h x y fun b => Q (!b)
  | .ins, x, y, h, Q => insW h x y Q
  | .notins, x, y, h, Q => insW h x y fun b => Q (!b)
  | .tin, x, y, h, Q => tinW h x y Q
  | .tnotin, x, y, h, Q => tinW h x y fun b => Q (!b)
  | .eqe, x, y, h, Q => eqeW h x y Q
  | .nee, x, y, h, Q => eqeW h x y fun b => Q (!b)
  | .eqx, x, y, h, Q => eqxW h x y Q
  | .nex, x, y, h, Q => eqxW h x y fun b => Q (!b)
  | .ind, x, y, h, Q => indW h x y Q
  | .notind, x, y, h, Q => indW h x y fun b => Q (!b)
  | .net, .str a, .str b, _, Q => Q (decide (a ≠ b))
  | .isN, x, .non, _, Q => Q x.isN
  | .notN, x, .non, _, Q => Q (!x.isN)
  | .isN, .bl a, .bl b, _, Q => Q (decide (a = b))
  | .notN, .bl a, .bl b, _, Q => Q (!decide (a = b))
  | _, _, _, _, _ => False
def boolOf (x : D) (K : Bool → Prop) : Prop := match x with | .bl b => K b | _ => False
def intOf (x : D) (K : Int → Prop) : Prop := match x with | .int i => K i | _ => False
def slot (s : Sa) (i : Nat) (K : D → Prop) : Prop := match s[i]? with | some (some d) => K d | _ => False
def truW (h : AH) (d : D) (Q : Bool → Prop) : Prop :=
  match d with
  | .bl b => Q b
  | .non => Q false
  | .int i => Q (i != 0)
  | .str x => x.length ≤ SZ ∧ Q (!x.isEmpty)
  | .tup xs => Q (!xs.isEmpty)
  | .wtup _ => False
  | .rol xs => Q (!xs.isEmpty)
  | .ref n => (match h[n]? with | some (.lst xs) => Q (!xs.isEmpty) | some (.dk kvs) => Q (!kvs.isEmpty) | _ => False)
def cut {α : Type} (xs : List α) (lo hi : Option Int) : List α := (xs.drop (HT.sIx xs.length 0 lo)).take (HT.sIx xs.length xs.length hi - HT.sIx xs.length 0 lo)
def stepL {α : Type} (xs : List α) (k : Int) : List α := if k = 1 then xs else if k = -1 then xs.reverse else []
def idxW (h : AH) (x i : D) (Q : D → Prop) : Prop :=
  match x, i with
  | .tup xs, .int i => ∃ d, atI xs i = some d ∧ Q d
  | .rol xs, .int i => ∃ d, atI xs i = some d ∧ Q d
  | .str xs, .int i => xs.length ≤ SZ ∧ ∃ c, atI xs i = some c ∧ Q (.str [c])
  | .ref n, y => (match getK h n with
    | some kvs => ∃ k d, keyOf y = some k ∧ valD kvs k = some d ∧ Q d
    | none => ∃ xs i d, h[n]? = some (.lst xs) ∧ y = .int i ∧ atI xs i = some d ∧ Q d)
  | _, _ => False
def tidxW (h : AH) (x y : D) (Q : D → Prop) : Prop := ∃ ds nk n kvs d, y = .tup ds ∧ nkOf y = some nk ∧ nk.depth ≤ 8 ∧ x = .ref n ∧ h[n]? = some (.dt kvs) ∧ valT kvs nk = some d ∧ Q d
def slcW (h : AH) (x : D) (lo hi : Option Int) (Q : QD) : Prop :=
  match x with
  | .tup xs => Q (.tup (cut xs lo hi)) h
  | .str xs => xs.length ≤ SZ ∧ Q (.str (cut xs lo hi)) h
  | .rol xs => Q (.ref h.length) (h ++ [.lst (cut xs lo hi)])
  | .ref n => ∃ xs, h[n]? = some (.lst xs) ∧ Q (.ref h.length) (h ++ [.lst (cut xs lo hi)])
  | _ => False
def slstW (h : AH) (x : D) (st : Int) (Q : QD) : Prop :=
  (st = 1 ∨ st = -1) ∧ match x with
  | .ref n => ∃ xs, h[n]? = some (.lst xs) ∧ Q (.ref h.length) (h ++ [.lst (stepL xs st)])
  | .rol xs => Q (.ref h.length) (h ++ [.lst (stepL xs st)])
  | .tup xs => Q (.tup (stepL xs st)) h
  | _ => False
def D.isTy : Ty1 → D → Option Bool
  | .int, .int _ => some true
  | .int, .bl _ => some true
  | .int, .non => some false
  | .int, .str _ => some false
  | .int, .tup _ => some false
  | .bool, .bl _ => some true
  | .bool, .int _ => some false
  | .bool, .non => some false
  | .bool, .str _ => some false
  | .bool, .tup _ => some false
  | .str, .str _ => some true
  | .str, .int _ => some false
  | .str, .bl _ => some false
  | .str, .non => some false
  | .str, .tup _ => some false
  | .tuple, .tup _ => some true
  | .tuple, .int _ => some false
  | .tuple, .bl _ => some false
  | .tuple, .str _ => some false
  | .tuple, .non => some false
  | .list, .non => some false
  | .list, .bl _ => some false
  | .list, .int _ => some false
  | .list, .str _ => some false
  | .list, .tup _ => some false
  | .dict, .non => some false
  | .dict, .bl _ => some false
  | .dict, .int _ => some false
  | .dict, .str _ => some false
  | .dict, .tup _ => some false
  | _, _ => none
def isTyW (h : AH) (t : Ty1) : D → Option Bool
  | .ref n => (match h[n]? with
    | some (.lst _) => some (decide (t = .list))
    | some (.dk _) => some (decide (t = .dict))
    | _ => none)
  | d => D.isTy t d
def lenW (h : AH) (x : D) (Q : QD) : Prop :=
  match x with
  | .str x => x.length ≤ SZ ∧ Q (.int x.length) h
  | x => (match dictOf h x with
    | some kvs => Q (.int kvs.length) h
    | none => ∃ xs, itemsOf h x = some xs ∧ Q (.int xs.length) h)
def sortOk (xs : List D) : Prop := (∀ x ∈ xs, ∀ y ∈ xs, PySem.W.alike x.py y.py = true) ∧ ((∀ x ∈ xs, ∃ y r, x = .tup (y :: r)) ∨ ∀ x ∈ xs, x ≠ .non ∧ ∀ ys, x ≠ .tup ys) ∧ (∃ k, k ≤ 60 ∧ D.oks k xs = true)
def sortD (xs : List D) : List D := xs.mergeSort (PySem.W.dataLe false D.py)
def keysD (kvs : List (Kd × D)) : List D := kvs.map fun kv => kD kv.1
def decL (i : Int) : List Nat := (Str.ofString (toString i)).cps.toList
def bfW (h : AH) : Bf → List D → QD → Prop
  | .len, [x], Q => lenW h x Q
  | .abs, [.int i], Q => Q (.int (if i < 0 then -i else i)) h
  | .min2, [.int i, .int j], Q => Q (.int (if j < i then j else i)) h
  | .max2, [.int i, .int j], Q => Q (.int (if j > i then j else i)) h
  | .minl, [x], Q => (∃ ns : List Int, lstOf h x = some (ns.map D.int) ∧ ns ≠ [] ∧ ∀ k, k ∈ ns → (∀ a ∈ ns, k ≤ a) → Q (.int k) h) ∨ ∃ ns : List (List Nat), lstOf h x = some (ns.map D.str) ∧ ns ≠ [] ∧ ∀ k, k ∈ ns → (∀ a ∈ ns, k ≤ a) → Q (.str k) h
  | .maxl, [x], Q => ∃ ns : List Int, lstOf h x = some (ns.map D.int) ∧ ns ≠ [] ∧ ∀ k, k ∈ ns → (∀ a ∈ ns, a ≤ k) → Q (.int k) h
  | .int, [.int i], Q => Q (.int i) h
  | .str, [.int i], Q => i.natAbs.log2 < 1920 ∧ Q (.str (decL i)) h
  | .int, [.bl b], Q => Q (.int (if b then 1 else 0)) h
  | .int, [.str w], Q => ∃ n, PySem.intText? (mkS w) = some n ∧ w.length ≤ 640 ∧ Q (.int n) h
  | .tuple, [x], Q => ∃ xs, itemsOf h x = some xs ∧ Q (.tup xs) h
  | .list, [.str w], Q => w.length ≤ SZ ∧ Q (.ref h.length) (h ++ [.lst (w.map fun x => .str [x])])
  | .list, [x], Q => (match dictOf h x with
    | some kvs => (∃ n, x = .ref n ∧ getW h n = some kvs) ∧ Q (.ref h.length) (h ++ [.lst (keysD kvs)])
    | none => ∃ xs, itemsOf h x = some xs ∧ Q (.ref h.length) (h ++ [.lst xs]))
  | .sorted, [x], Q => (match dictOf h x with
    | some kvs => kvs.length < 64 ∧ ((∃ ks : List (List Nat), kvs.map (·.1) = ks.map Sum.inr ∧ ∀ ks' : List (List Nat), ks'.Perm ks → ks'.Pairwise (· ≤ ·) → Q (.ref h.length) (h ++ [.lst (ks'.map .str)])) ∨
      ∃ ks : List Int, kvs.map (·.1) = ks.map Sum.inl ∧ ∀ ks' : List Int, ks'.Perm ks → ks'.Pairwise (· ≤ ·) → Q (.ref h.length) (h ++ [.lst (ks'.map .int)]))
    | none => ∃ xs, itemsOf h x = some xs ∧ xs.length ≤ SZ ∧ sortOk xs ∧ Q (.ref h.length) (h ++ [.lst (sortD xs)]))
  | .dnew, [x], Q => (match dictOf h x with
    | some kvs => Q (.ref h.length) (h ++ [.dk kvs])
    | none => ∃ xs kvs, itemsOf h x = some xs ∧ pairsOf xs = some kvs ∧ Q (.ref h.length) (h ++ [.dk (mergeD [] kvs)]))
  | .all, [x], Q => ∃ bs : List Bool, lstOf h x = some (bs.map D.bl) ∧ Q (.bl (bs.all id)) h
  | .any, [x], Q => ∃ bs : List Bool, lstOf h x = some (bs.map D.bl) ∧ Q (.bl (bs.any id)) h
  | .sum, [x], Q => (∃ ns : List Int, lstOf h x = some (ns.map D.int) ∧ Q (.int ns.sum) h) ∨ ∃ ns : List Int, x = .tup (ns.map D.int) ∧ Q (.int ns.sum) h
  | .repr, [x], Q => ∃ pd, datA h 40 x = some pd ∧ pd.showable = true ∧ (pd.hasDict = false ∨ noL pd = true) ∧ pd.shown.length ≤ SZ ∧ Q (.str pd.shown.cps.toList) h
  | .lenT, [.ref n], Q => ∃ kvs, h[n]? = some (.dt kvs) ∧ Q (.int kvs.length) h
  | _, _, _ => False
def joinT (a : List Nat) : List (List Nat) → List Nat
  | [] => []
  | [p] => p
  | p :: q :: r => p ++ (a ++ joinT a (q :: r))
def splT (c : Nat) : List Nat → List Nat → List (List Nat)
  | acc, [] => [acc]
  | acc, x :: r => if x = c then acc :: splT c [] r else splT c (acc ++ [x]) r
def bmW (h : AH) : Bm → D → List D → QD → Prop
  | .append, .ref n, [y], Q => ∃ xs, h[n]? = some (.lst xs) ∧ xs.length < SZ ∧ Q .non (h.set n (.lst (xs ++ [y])))
  | .extend, .ref n, [y], Q => ∃ xs ys, h[n]? = some (.lst xs) ∧ extOf h y = some ys ∧ xs.length + ys.length ≤ SZ ∧ Q .non (h.set n (.lst (xs ++ ys)))
  | .pop, .ref n, [], Q => ∃ xs y, h[n]? = some (.lst xs) ∧ xs[xs.length - 1]? = some y ∧ Q y (h.set n (.lst xs.dropLast))
  | .remove, .ref n, [.str w], Q => ∃ (xs : List (List Nat)) (j : Nat), h[n]? = some (.lst (xs.map .str)) ∧ xs.findIdx? (fun z => decide (z = w)) = some j ∧ Q .non (h.set n (.lst ((xs.eraseIdx j).map .str)))
  | .get, x, [y], Q => ∃ kvs k, dictOf h x = some kvs ∧ keyOf y = some k ∧ Q ((valD kvs k).getD .non) h
  | .get, x, [y, z], Q => ∃ kvs k, dictOf h x = some kvs ∧ keyOf y = some k ∧ Q ((valD kvs k).getD z) h
  | .getT, .ref n, [y, z], Q => ∃ ds nk kvs, y = .tup ds ∧ nkOf y = some nk ∧ nk.depth ≤ 8 ∧ h[n]? = some (.dt kvs) ∧ Q ((valT kvs nk).getD z) h
  | .popk, .ref n, [y], Q => ∃ kvs k d, h[n]? = some (.dk kvs) ∧ keyOf y = some k ∧ valD kvs k = some d ∧ Q d (h.set n (.dk (dropD kvs k)))
  | .join, .str a, [y], Q => ∃ ys : List (List Nat), itemsOf h y = some (ys.map .str) ∧ (ys.map (·.length)).sum + ys.length * a.length ≤ SZ ∧ Q (.str (joinT a ys)) h
  | .count, .str a, [.str [c]], Q => c < 256 ∧ Q (.int (((splT c [] a).length - 1 : Nat) : Int)) h
  | .upper, .str a, [], Q => a.length ≤ 5000000 ∧ a.all (· < 128) = true ∧ Q (.str (a.map PyProof.Rows.up1)) h
  | .split, .str a, [.str [c]], Q => c < 256 ∧ a.length + 2 ≤ SZ ∧ Q (.ref h.length) (h ++ [.lst ((splT c [] a).map .str)])
  | .index, x, [y], Q => ∃ xs, itemsOf h x = some xs ∧ D.ok 59 y = true ∧ D.oks 59 xs = true ∧ ∃ j : Nat, xs.findIdx? (fun z => D.eqv z y) = some j ∧ Q (.int j) h
  | _, _, _, _ => False
def bmT (h : AH) : Bm → D → Prop
  | .join, x => ∃ a, x = .str a
  | .split, x => ∃ a, x = .str a
  | .count, x => ∃ a, x = .str a
  | .upper, x => ∃ a, x = .str a
  | .index, x => ∃ xs, itemsOf h x = some xs
  | .get, x => ∃ kvs, dictOf h x = some kvs
  | .popk, x => ∃ kvs, dictOf h x = some kvs
  | .getT, x => ∃ n kvs, x = .ref n ∧ h[n]? = some (.dt kvs)
  | _, .ref n => ∃ xs, h[n]? = some (.lst xs)
  | _, _ => False
def setAll : Sa → List Nat → List D → Sa
  | s, i :: is, d :: ds => setAll (s.set i (some d)) is ds
  | s, _, _ => s
def tgW : Tg → D → Sa → (Sa → Prop) → Prop
  | .one i, d, s, Q => Q (s.set i (some d))
  | .many is, .tup ds, s, Q => ds.length = is.length ∧ Q (setAll s is ds)
  | .many is, .wtup ds, s, Q => ds.length = is.length ∧ Q (setAll s is ds)
  | _, _, _, _ => False
def wipeA (s : Sa) : List Nat → Sa
  | [] => s
  | v :: vs => (wipeA s vs).set v none
structure It where
  xs : List D
  ck : AH → Prop
def itW (h : AH) (d : D) (Q : It → Prop) : Prop :=
  match d with
  | .tup xs => Q ⟨xs, fun _ => True⟩
  | .rol xs => Q ⟨xs, fun _ => True⟩
  | .str xs => Q ⟨xs.map fun c => .str [c], fun _ => True⟩
  | .ref n => (match h[n]? with | some (.lst xs) => Q ⟨xs, fun h' => h'[n]? = some (.lst xs)⟩ | some (.lk kvs) => Q ⟨keysD kvs, fun _ => True⟩ | _ => False)
  | _ => False
def seqW (h : AH) (d : D) (Q : It → Prop) : Prop :=
  match d with
  | .tup xs => Q ⟨xs, fun _ => True⟩
  | .rol xs => Q ⟨xs, fun _ => True⟩
  | .ref n => (match h[n]? with | some (.lst xs) => Q ⟨xs, fun h' => h'[n]? = some (.lst xs)⟩ | _ => False)
  | _ => False
def enumL (xs : List D) : List D := xs.zipIdx.map fun p => D.wtup [.int (p.2 : Int), p.1]
def zipL (xs ys : List D) : List D := (xs.zip ys).map fun p => D.wtup [p.1, p.2]
def forW (ck : AH → Prop) (tg : Tg) (body : Sa → AH → En → EK → Prop) : List D → Sa → AH → En → EK → Prop
  | [], s, h, Z, _ => ck h ∧ Z.nx s h
  | x :: xs, s, h, Z, E => ck h ∧ tgW tg x s fun s1 => body s1 h { nx := fun s' h' => forW ck tg body xs s' h' Z E, rt := Z.rt, bk := Z.nx, ct := fun s' h' => forW ck tg body xs s' h' Z E } E
def whileW (c : Sa → AH → (Bool → AH → Prop) → EK → Prop) (body : Sa → AH → En → EK → Prop) : Nat → Sa → AH → En → EK → Prop
  | 0, _, _, _, _ => False
  | n + 1, s, h, Z, E => c s h (fun b h1 => if b = true then body s h1 { nx := fun s' h' => whileW c body n s' h' Z E, rt := Z.rt, bk := Z.nx, ct := fun s' h' => whileW c body n s' h' Z E } E else Z.nx s h1) E
def lcW (ck : AH → Prop) (tg : Tg) (c : Sa → AH → (Bool → AH → Prop) → Prop) (e : Sa → AH → QD → Prop) : List D → List D → Sa → AH → QL → Prop
  | [], acc, _, h, Q => ck h ∧ Q acc h
  | x :: xs, acc, s, h, Q => ck h ∧ tgW tg x s fun s1 => c s1 h fun b h1 => if b = true then e s1 h1 fun d h2 => acc.length < SZ ∧ lcW ck tg c e xs (acc ++ [d]) s h2 Q else lcW ck tg c e xs acc s h1 Q
def putFd (f : Nat) (v : D) : List (Nat × D) → List (Nat × D)
  | [] => [(f, v)]
  | (g, x) :: r => if g = f then (g, v) :: r else (g, x) :: putFd f v r
def instW (h : AH) (x : D) (Q : Nat → Nat → List (Nat × D) → Prop) : Prop := match x with
  | .ref n => (match h[n]? with
    | some (.ins c fs) => Q n c fs
    | _ => False)
  | _ => False
def noE : EK := fun _ _ _ => False
def kvOf : List (D × D) → Option (List (Kd × D))
  | [] => some []
  | (k, v) :: r => (match keyOf k, kvOf r with | some k, some r => some ((k, v) :: r) | _, _ => none)
mutual
def wE (C : CT) : M → Sa → AH → QD → EK → Prop
  | .var i, s, h, Q, _ => slot s i fun d => Q d h
  | .k d, _, h, Q, _ => Q d h
  | .glb _ d, _, h, Q, _ => Q d h
  | .bin op a b, s, h, Q, E => wE C a s h (fun x h1 => wE C b s h1 (fun y h2 => bopW op x y h2 Q) E) E
  | .neg a, s, h, Q, E => wE C a s h (fun x h1 => intOf x fun i => Q (.int (-i)) h1) E
  | .cmp op a b, s, h, Q, E => wE C a s h (fun x h1 => wE C b s h1 (fun y h2 => cmpW op x y h2 fun b => Q (.bl b) h2) E) E
  | .ch o1 o2 a b c, s, h, Q, E => wE C a s h (fun x h1 => wE C b s h1 (fun y h2 => cmpW o1 x y h2 fun k => if k = true then wE C c s h2 (fun z h3 => cmpW o2 y z h3 fun k' => Q (.bl k') h3) E else Q (.bl false) h2) E) E
  | .and a b, s, h, Q, E => wE C a s h (fun x h1 => boolOf x fun t => if t = true then wE C b s h1 Q E else Q (.bl false) h1) E
  | .or a b, s, h, Q, E => wE C a s h (fun x h1 => boolOf x fun t => if t = true then Q (.bl true) h1 else wE C b s h1 Q E) E
  | .not a, s, h, Q, E => wE C a s h (fun x h1 => boolOf x fun b => Q (.bl (!b)) h1) E
  | .ite c a b, s, h, Q, E => wT C c s h (fun t h1 => if t = true then wE C a s h1 Q E else wE C b s h1 Q E) E
  | .tup as, s, h, Q, E => wA C as s h (fun ds h1 => ds.length ≤ SZ ∧ Q (.tup ds) h1) E
  | .lst as, s, h, Q, E => wA C as s h (fun ds h1 => ds.length ≤ SZ ∧ Q (.ref h1.length) (h1 ++ [.lst ds])) E
  | .idx a i, s, h, Q, E => wE C a s h (fun x h1 => wE C i s h1 (fun y h2 => idxW h2 x y fun d => Q d h2) E) E
  | .slc a lo hi, s, h, Q, E => wE C a s h (fun x h1 => wO C lo s h1 (fun l h2 => wO C hi s h2 (fun u h3 => slcW h3 x l u Q) E) E) E
  | .slst a st, s, h, Q, E => wE C a s h (fun x h1 => wE C st s h1 (fun y h2 => intOf y fun k => slstW h2 x k Q) E) E
  | .call f as, s, h, Q, E => wA C as s h (fun ds h1 => C f ds h1 Q fun x h' => E x s h') E
  | .bf f as, s, h, Q, E => wA C as s h (fun ds h1 => bfW h1 f ds Q) E
  | .bm f o as, s, h, Q, E => wE C o s h (fun x h1 => bmT h1 f x ∧ wA C as s h1 (fun ds h2 => bmW h2 f x ds Q) E) E
  | .isi t a, s, h, Q, E => wE C a s h (fun x h1 => ∃ b, isTyW h1 t x = some b ∧ Q (.bl b) h1) E
  | .lrng a, s, h, Q, E => wE C a s h (fun x h1 => intOf x fun n => (-(2 ^ 62) ≤ n ∧ n ≤ 2 ^ 24) ∧ Q (.ref h1.length) (h1 ++ [.lst ((List.range n.toNat).map fun (i : Nat) => .int (0 + (i : Int)))])) E
  | .dnew, _, h, Q, _ => Q (.ref h.length) (h ++ [.dk []])
  | .tnew, _, h, Q, _ => Q (.ref h.length) (h ++ [.dk []]) ∨ Q (.ref h.length) (h ++ [.dt []])
  | .tidx a i, s, h, Q, E => wE C a s h (fun x h1 => wE C i s h1 (fun y h2 => tidxW h2 x y fun d => Q d h2) E) E
  | .kdx _ kvs e, s, h, Q, E => wE C e s h (fun x h1 => ∃ w d, x = .str w ∧ kvs.lookup w = some d ∧ Q d h1) E
  | .kdg _ kvs e, s, h, Q, E => wE C e s h (fun x h1 => ∃ w, x = .str w ∧ Q ((kvs.lookup w).getD .non) h1) E
  | .kdi _ kvs e, s, h, Q, E => wE C e s h (fun x h1 => ∃ w, x = .str w ∧ Q (.bl (kvs.lookup w).isSome) h1) E
  | .ddisp a b, s, h, Q, E => wE C a s (h ++ [.dk []]) (fun x h1 => wE C b s h1 (fun y h2 => ∃ k, keyOf x = some k ∧ h2[h.length]? = some (.dk []) ∧ Q (.ref h.length) (h2.set h.length (.dk [(k, y)]))) E) E
  | .disp r, s, h, Q, E => wD C r s (h ++ [.dk []]) (fun ps h1 => ∃ kvs, kvOf ps = some kvs ∧ ps.length ≤ 15 ∧ h1[h.length]? = some (.dk []) ∧ Q (.ref h.length) (h1.set h.length (.dk (mergeD [] kvs)))) E
  | .lvals a, s, h, Q, E => wE C a s h (fun x h1 => ∃ n kvs, x = .ref n ∧ h1[n]? = some (.dk kvs) ∧ Q (.ref h1.length) (h1 ++ [.lst (kvs.map (·.2))])) E
  | .attr a f, s, h, Q, E => wE C a s h (fun x h1 => instW h1 x fun _ _ fs => ∃ d, fs.lookup f = some d ∧ Q d h1) E
  | .meth tb o as, s, h, Q, E => wE C o s h (fun x h1 => instW h1 x fun _ c _ => ∃ f, tb.lookup c = some f ∧ wA C as s h1 (fun ds h2 => C f (x :: ds) h2 Q fun x h' => E x s h') E) E
  | .make c f as, s, h, Q, E => wA C as s h (fun ds h1 => C f (.ref h1.length :: ds) (h1 ++ [.ins c []]) (fun v h2 => v = .non ∧ Q (.ref h1.length) h2) fun x h' => E x s h') E
  | .nset a, s, h, Q, E => wE C a s h (fun x h1 => ∃ ks : List Kd, itemsOf h1 x = some (ks.map kD) ∧ ks.length ≤ 4000 ∧ Q (.int ((ddK ks).length : Int)) h1) E
  | .sset a, s, h, Q, E => wE C a s h (fun x h1 => ssetW x h1 Q) E
  | .isx sb c a, s, h, Q, E => wE C a s h (fun x h1 => ∃ n xc b, x = .ref n ∧ h1[n]? = some (.exc xc) ∧ sbL sb xc c = some b ∧ Q (.bl b) h1) E
  | .isxv sb a, s, h, Q, E => wE C a s h (fun x h1 => ∃ n xc c b, x = .ref n ∧ h1[n]? = some (.exc xc) ∧ sbL sb xc c = some b ∧ Q (.bl true) h1) E
  | .lcK e tg i c own, s, h, Q, _ => slot s i fun d => ∃ n kvs, d = .ref n ∧ getK h n = some kvs ∧ lcW (fun _ => True) tg (fun s1 h2 Q1 => wT C c s1 h2 Q1 noE) (fun s1 h2 Q1 => wE C e s1 h2 Q1 noE) (keysD kvs) [] (wipeA s own) (lockA h n) fun ds h3 => Q (.ref h3.length) (unlockA h n (h3 ++ [O.lst ds]))
  | .lc e tg src c own, s, h, Q, E => wI C src s h (fun it h1 => lcW it.ck tg (fun s1 h2 Q1 => wT C c s1 h2 Q1 noE) (fun s1 h2 Q1 => wE C e s1 h2 Q1 noE) it.xs [] (wipeA s own) h1 fun ds h3 => Q (.ref h3.length) (h3 ++ [.lst ds])) E
  | _, _, _, _, _ => False
def wA (C : CT) : M → Sa → AH → QL → EK → Prop
  | .nil, _, h, Q, _ => Q [] h
  | .cons a r, s, h, Q, E => wE C a s h (fun x h1 => wA C r s h1 (fun xs h2 => Q (x :: xs) h2) E) E
  | _, _, _, _, _ => False
def wD (C : CT) : M → Sa → AH → (List (D × D) → AH → Prop) → EK → Prop
  | .nil, _, h, Q, _ => Q [] h
  | .kv a b r, s, h, Q, E => wE C a s h (fun x h1 => wE C b s h1 (fun y h2 => wD C r s h2 (fun ps h3 => Q ((x, y) :: ps) h3) E) E) E
  | _, _, _, _, _ => False
def wO (C : CT) : M → Sa → AH → (Option Int → AH → Prop) → EK → Prop
  | .nil, _, h, Q, _ => Q none h
  | .cons a _, s, h, Q, E => wE C a s h (fun x h1 => intOf x fun i => Q (some i) h1) E
  | _, _, _, _, _ => False
def wT (C : CT) : M → Sa → AH → (Bool → AH → Prop) → EK → Prop
  | .nil, _, h, Q, _ => Q true h
  | .not a, s, h, Q, E => wT C a s h (fun b h1 => Q (!b) h1) E
  | .and a b, s, h, Q, E => wT C a s h (fun t h1 => if t = true then wT C b s h1 Q E else Q false h1) E
  | .or a b, s, h, Q, E => wT C a s h (fun t h1 => if t = true then Q true h1 else wT C b s h1 Q E) E
  | .cmp op a b, s, h, Q, E => wE C a s h (fun x h1 => wE C b s h1 (fun y h2 => cmpW op x y h2 fun t => boolOf (.bl t) fun t => Q t h2) E) E
  | .ch o1 o2 a b c, s, h, Q, E => wE C a s h (fun x h1 => wE C b s h1 (fun y h2 => cmpW o1 x y h2 fun k => if k = true then wE C c s h2 (fun z h3 => cmpW o2 y z h3 fun t => boolOf (.bl t) fun t => Q t h3) E else boolOf (.bl false) fun t => Q t h2) E) E
  | .kdi _ kvs e, s, h, Q, E => wE C e s h (fun x h1 => ∃ w, x = .str w ∧ Q (kvs.lookup w).isSome h1) E
  | .tv a, s, h, Q, E => wE C a s h (fun d h1 => truW h1 d fun b => Q b h1) E
  | _, _, _, _, _ => False
def wI (C : CT) : M → Sa → AH → (It → AH → Prop) → EK → Prop
  | .rng1 a, s, h, Q, E => wE C a s h (fun x h1 => intOf x fun n => (-(2 ^ 62) ≤ n ∧ n < 2 ^ 62) ∧ Q ⟨(List.range n.toNat).map fun (i : Nat) => .int (0 + (i : Int)), fun _ => True⟩ h1) E
  | .rng2 a b, s, h, Q, E => wE C a s h (fun x h1 => wE C b s h1 (fun y h2 => intOf x fun i => intOf y fun j => (-(2 ^ 62) ≤ i ∧ i < 2 ^ 62 ∧ -(2 ^ 62) ≤ j ∧ j < 2 ^ 62) ∧ Q ⟨(List.range (j - i).toNat).map fun (k : Nat) => .int (i + (k : Int)), fun _ => True⟩ h2) E) E
  | .rng3 a b c, s, h, Q, E => wE C a s h (fun x h1 => wE C b s h1 (fun y h2 => wE C c s h2 (fun z h3 => intOf x fun i => intOf y fun j => intOf z fun k => ∃ n : Nat, L2.RgC i j k n ∧ Q ⟨(List.range n).map fun (t : Nat) => .int (i + (t : Int) * k), fun _ => True⟩ h3) E) E) E
  | .enum a, s, h, Q, E => wE C a s h (fun x h1 => seqW h1 x fun it => Q ⟨enumL it.xs, it.ck⟩ h1) E
  | .zip a b, s, h, Q, E => wE C a s h (fun x h1 => wE C b s h1 (fun y h2 => seqW h2 x fun i1 => seqW h2 y fun i2 => Q ⟨zipL i1.xs i2.xs, fun h' => i1.ck h' ∧ i2.ck h'⟩ h2) E) E
  | .itv a, s, h, Q, E => wE C a s h (fun d h1 => itW h1 d fun it => Q it h1) E
  | _, _, _, _, _ => False
end
def setIW (h : AH) (o i v : D) (Q : AH → Prop) : Prop :=
  match o with
  | .ref n => (match h[n]? with
    | some (.lst xs) => ∃ k j, i = .int k ∧ ixN xs.length k = some j ∧ Q (h.set n (.lst (xs.set j v)))
    | some (.dk kvs) => ∃ k, keyOf i = some k ∧ kvs.length < SZ ∧ Q (h.set n (.dk (putD kvs k v)))
    | _ => False)
  | _ => False
def tsetW (h : AH) (x y v : D) (Q : AH → Prop) : Prop := ∃ ds nk n kvs, y = .tup ds ∧ nkOf y = some nk ∧ nk.depth ≤ 8 ∧ x = .ref n ∧ h[n]? = some (.dt kvs) ∧ kvs.length < 2 ^ 20 ∧ Q (h.set n (.dt (putT kvs nk y v)))
def wS (C : CT) : MS → Sa → AH → En → EK → Prop
  | .nil, s, h, Z, _ => Z.nx s h
  | .seq a r, s, h, Z, E => wS C a s h { nx := fun s' h' => wS C r s' h' Z E, rt := Z.rt, bk := Z.bk, ct := Z.ct } E
  | .set i e, s, h, Z, E => wE C e s h (fun d h1 => Z.nx (s.set i (some d)) h1) E
  | .setT is e, s, h, Z, E => wE C e s h (fun d h1 => tgW (.many is) d s fun s1 => Z.nx s1 h1) E
  | .setI o i e, s, h, Z, E => wE C e s h (fun v h1 => wE C o s h1 (fun x h2 => wE C i s h2 (fun y h3 => setIW h3 x y v fun h4 => Z.nx s h4) E) E) E
  | .tset o i e, s, h, Z, E => wE C e s h (fun v h1 => wE C o s h1 (fun x h2 => wE C i s h2 (fun y h3 => tsetW h3 x y v fun h4 => Z.nx s h4) E) E) E
  | .setA o f e, s, h, Z, E => wE C e s h (fun v h1 => wE C o s h1 (fun x h2 => instW h2 x fun n c fs => fs.length < 1000 ∧ Z.nx s (h2.set n (.ins c (putFd f v fs)))) E) E
  | .augA o f op e, s, h, Z, E => wE C o s h (fun x h1 => instW h1 x fun n c fs => ∃ d, fs.lookup f = some d ∧ wE C e s h1 (fun y h2 => (∃ a b, d = .int a ∧ y = .int b) ∧ bopW op d y h2 fun z h3 => instW h3 (.ref n) fun _ c' fs' => c' = c ∧ fs'.length < 1000 ∧ Z.nx s (h3.set n (.ins c (putFd f z fs')))) E) E
  | .aug i op e, s, h, Z, E => slot s i fun x => wE C e s h (fun y h1 => (∃ a b, x = .int a ∧ y = .int b) ∧ bopW op x y h1 fun z h2 => Z.nx (s.set i (some z)) h2) E
  | .expr e, s, h, Z, E => wE C e s h (fun _ h1 => Z.nx s h1) E
  | .ret e, s, h, Z, E => wE C e s h Z.rt E
  | .ret0, _, h, Z, _ => Z.rt .non h
  | .cond c a b, s, h, Z, E => wT C c s h (fun t h1 => if t = true then wS C a s h1 Z E else wS C b s h1 Z E) E
  | .while_ c b, s, h, Z, E => ∃ n, whileW (wT C c) (wS C b) n s h Z E
  | .for_ tg src b, s, h, Z, E => wI C src s h (fun it h1 => forW it.ck tg (wS C b) it.xs s h1 Z E) E
  | .forK tg i b, s, h, Z, E => slot s i fun d => ∃ n kvs, d = .ref n ∧ getK h n = some kvs ∧ forW (fun _ => True) tg (wS C b) (keysD kvs) s (lockA h n) { nx := fun s' h' => Z.nx s' (unlockA h n h'), rt := fun v h' => Z.rt v (unlockA h n h'), bk := fun _ _ => False, ct := fun _ _ => False } E
  | .pass_, s, h, Z, _ => Z.nx s h
  | .brk, s, h, Z, _ => Z.bk s h
  | .cont, s, h, Z, _ => Z.ct s h
  | .raise_ c as, s, h, Z, E => wA C as s h (fun _ h1 => E ⟨c, []⟩ s h1) E
  | .raiseF c f e, s, h, Z, E => wE C e s h (fun d h1 => E ⟨c, [(f, d)]⟩ s h1) E
  | .tryK b sb c i j, s, h, Z, E => wS C b s h Z fun x s' h' => tryKE sb c i j Z E x s' h'
  | .tryX b sb c i hs, s, h, Z, E => wS C b s h Z fun x s' h' => tryE sb c i hs Z E x s' h'
  | .tryR b sb c i w f, s, h, Z, E => wS C b s h Z fun x s' h' => tryRE sb c i w f Z E x s' h'
  | .tryN b sb c i g f lc fn j k, s, h, Z, E => wS C b s h Z fun x s' h' => tryNE sb c i g f lc j k Z E x s' h'
  | .try2 b sb i j fn cs hs, s, h, Z, E => wS C b s h Z fun x s' h' => try2E sb i j cs Z E x s' h' hs
  | .retI _, _, _, _, _ => False
  | .never, _, _, _, _ => False
  | .alt a b, s, h, Z, E => wS C a s h Z E ∨ wS C b s h Z E
  | .setU is e, s, h, Z, E => wE C e s h (fun d h1 => ∃ n xs, d = .ref n ∧ h1[n]? = some (.lst xs) ∧ xs.length = is.length ∧ Z.nx (setAll s is xs) h1) E
structure Def where
  np : Nat
  nv : Nat
  body : MS
abbrev Prg := List Def
def startA (d : Def) (as : List D) : Sa := as.map some ++ List.replicate (d.nv - as.length) none
def wC (P : Prg) : Nat → CT
  | 0, _, _, _, _, _ => False
  | n + 1, f, as, h, Q, E => (match P[f]? with
    | some d => as.length = d.np ∧ wS (wC P n) d.body (startA d as) h { nx := fun _ h' => Q .non h', rt := Q, bk := fun _ _ => False, ct := fun _ _ => False } fun x _ h' => E x h'
    | none => False)
end Rf
namespace Rf
open PySem PySem.Spec PyProof.Rows L2
def RS (K : PySem.W.Frag) (H : Hp) (m : List Addr) (σ : L2.St) (s : Sa) : Prop :=
  σ.length = s.length ∧ ∀ (i : Nat) (d : D), s[i]? = some (some d) → ∃ v, σ[i]? = some (some v) ∧ RV K H m v d
def RX (K : PySem.W.Frag) (nm : Nm) (H : Hp) (m : List Addr) (cls : Value) (d : Option Addr) (x : Exc) : Prop :=
  cls = .ref (nm.cls x.cls) ∧ ((x.fs = [] ∧ d = none) ∨ (x.fs ≠ [] ∧ ∃ dx fs, d = some dx ∧ dx ∉ m ∧ H dx = some (.xd fs) ∧ RF K H m nm fs x.fs))
def LW (K : PySem.W.Frag) (nm : Nm) (H : Hp) (m : List Addr) (Ea : EK) : WX := fun cls d σ' H' =>
  ∃ x sa' m' h', RX K nm H' m' cls d x ∧ RS K H' m' σ' sa' ∧ RH K nm H' m' h' ∧ Ext H m H' m' ∧ Ea x sa' h'
section
variable {K : PySem.W.Frag} {nm : Nm} {H H' : Hp} {m m' : List Addr} {σ : L2.St} {s : Sa}
theorem RS.ext (x : Ext H m H' m') (r : RS K H m σ s) : RS K H' m' σ s := ⟨r.1, fun i d e => let ⟨v, h1, h2⟩ := r.2 i d e; ⟨v, h1, h2.ext x⟩⟩
theorem RS.set {i : Nat} {v : V} {d : D} (r : RS K H m σ s) (h : RV K H m v d) : RS K H m (σ.set i (some v)) (s.set i (some d)) := by
  refine ⟨by simp [r.1], fun j e q => ?_⟩
  by_cases hj : i = j
  · subst hj
    by_cases hi : i < s.length
    · rw [List.getElem?_set_self hi] at q
      cases q
      exact ⟨v, by rw [List.getElem?_set_self (by rw [r.1]; exact hi)], h⟩
    · rw [List.getElem?_eq_none (by simpa using hi)] at q; cases q
  · rw [List.getElem?_set_ne hj] at q
    obtain ⟨w, h1, h2⟩ := r.2 j e q
    exact ⟨w, by rw [List.getElem?_set_ne hj]; exact h1, h2⟩
theorem LW.imp {Ea Ea' : EK} (h : ∀ x s h, Ea' x s h → Ea x s h) (x : Ext H m H' m') : ∀ c d σ H1, LW K nm H' m' Ea' c d σ H1 → LW K nm H m Ea c d σ H1 := fun _ _ _ _ ⟨e, sa, m1, h1, rx, rs, rh, ex, q⟩ => ⟨e, sa, m1, h1, rx, rs, rh, x.trans ex, h _ _ _ q⟩
end
section
variable {X : Cx} {nm : Nm} {H H' : Hp} {m m' : List Addr}
theorem tk_ext {Ea : EK} (t : Takes X (LW X.K nm H m Ea)) (x : Ext H m H' m') : Takes X (LW X.K nm H' m' Ea) := t.imp (LW.imp (fun _ _ _ q => q) x)
theorem tk_no : Takes X (LW X.K nm H m noE) := fun u s' ⟨a, B, sI, pins, σ, H, cls, d, e, I, nb, up, sky, na, os, ag, x, sa, m', h', _, _, _, _, q⟩ => q.elim
end
def liftE (K : PySem.W.Frag) (nm : Nm) (tk : Hp → List Addr → EK → Prop) (w : Sa → AH → QD → EK → Prop) : TE := fun σ H Q =>
  ∃ sa m h Qa Ea, RS K H m σ sa ∧ RH K nm H m h ∧ w sa h Qa Ea ∧ tk H m Ea ∧ ∀ v H' m' d h', RV K H' m' v d → RH K nm H' m' h' → Ext H m H' m' → Qa d h' → Q v H'
abbrev TKs (X : Cx) (nm : Nm) : Hp → List Addr → EK → Prop := fun H m Ea => Takes X (LW X.K nm H m Ea)
abbrev LE (X : Cx) (nm : Nm) (w : Sa → AH → QD → EK → Prop) : TE := liftE X.K nm (TKs X nm) w
abbrev DE (X : Cx) (nm : Nm) (e : Expr) (w : Sa → AH → QD → EK → Prop) : Prop := PE X e (LE X nm w)
def LT (X : Cx) (nm : Nm) (w : Sa → AH → (Bool → AH → Prop) → EK → Prop) : TT := fun σ H Q =>
  ∃ sa m h Qa Ea, RS X.K H m σ sa ∧ RH X.K nm H m h ∧ w sa h Qa Ea ∧ TKs X nm H m Ea ∧ ∀ b H' m' h', RH X.K nm H' m' h' → Ext H m H' m' → Qa b h' → Q b H'
def LA (X : Cx) (nm : Nm) (w : Sa → AH → QL → EK → Prop) : TA := fun σ H Q =>
  ∃ sa m h Qa Ea, RS X.K H m σ sa ∧ RH X.K nm H m h ∧ w sa h Qa Ea ∧ TKs X nm H m Ea ∧ ∀ vs H' m' ds h', RVs X.K H' m' vs ds → RH X.K nm H' m' h' → Ext H m H' m' → Qa ds h' → Q vs H'
def LO (X : Cx) (nm : Nm) (w : Sa → AH → (Option Int → AH → Prop) → EK → Prop) : TO := fun σ H Q =>
  ∃ sa m h Qa Ea, RS X.K H m σ sa ∧ RH X.K nm H m h ∧ w sa h Qa Ea ∧ TKs X nm H m Ea ∧ ∀ o H' m' h', RH X.K nm H' m' h' → Ext H m H' m' → Qa o h' → Q o H'
theorem PE.imp {X : Cx} {e : Expr} {t t' : TE} (h : PE X e t) (i : ∀ σ H Q, t' σ H Q → t σ H Q) : PE X e t' := ⟨fun pins s σ H Q I q => h.run pins s σ H Q I (i σ H Q q)⟩
theorem PT.imp {X : Cx} {e : Expr} {t t' : TT} (h : PT X e t) (i : ∀ σ H Q, t' σ H Q → t σ H Q) : PT X e t' := ⟨fun pins s σ H Q I q => h.run pins s σ H Q I (i σ H Q q)⟩
theorem PW.imp {X : Cx} {e : Expr} {t t' : TT} (h : PW X e t) (i : ∀ σ H Q, t' σ H Q → t σ H Q) : PW X e t' := ⟨fun wh pins s σ H Q I q => h.run wh pins s σ H Q I (i σ H Q q)⟩
theorem PA.imp {X : Cx} {e : List Expr} {t t' : TA} (h : PA X e t) (i : ∀ σ H Q, t' σ H Q → t σ H Q) : PA X e t' := ⟨fun pos pins s σ H Q I q => h.run pos pins s σ H Q I (i σ H Q q)⟩
theorem PS.imp {X : Cx} {e : Stmt} {t t' : TS} (h : PS X e t) (i : ∀ D σ H, t' D σ H → t D σ H) : PS X e t' := ⟨fun pins s σ H D I q => h.run pins s σ H D I (i D σ H q)⟩
theorem PSs.imp {X : Cx} {e : List Stmt} {t t' : TS} (h : PSs X e t) (i : ∀ D σ H, t' D σ H → t D σ H) : PSs X e t' := ⟨fun pins s σ H D I q => h.run pins s σ H D I (i D σ H q)⟩
section
variable {X : Cx} {nm : Nm} {σ : L2.St} {H : Hp}
def L1 (X : Cx) (nm : Nm) (r : D → AH → QD → Prop) : V → Hp → VK → Prop := fun x H Q =>
  ∃ m h d Qa, RV X.K H m x d ∧ RH X.K nm H m h ∧ r d h Qa ∧ ∀ v H' m' d' h', RV X.K H' m' v d' → RH X.K nm H' m' h' → Ext H m H' m' → Qa d' h' → Q v H'
def L2' (X : Cx) (nm : Nm) (r : D → D → AH → QD → Prop) : R2 := fun x y H Q =>
  ∃ m h d e Qa, RV X.K H m x d ∧ RV X.K H m y e ∧ RH X.K nm H m h ∧ r d e h Qa ∧ ∀ v H' m' d' h', RV X.K H' m' v d' → RH X.K nm H' m' h' → Ext H m H' m' → Qa d' h' → Q v H'
theorem LE.op {wa wb : Sa → AH → QD → EK → Prop} {r : D → D → AH → QD → Prop} {Q : VK}
    (h : LE X nm (fun s h Q E => wa s h (fun x h1 => wb s h1 (fun y h2 => r x y h2 Q) E) E) σ H Q) : tOp (L2' X nm r) (LE X nm wa) (LE X nm wb) σ H Q := by
  obtain ⟨sa, m, h, Qa, Ea, rs, rh, w, tk, fin⟩ := h
  exact ⟨sa, m, h, _, Ea, rs, rh, w, tk, fun v H1 m1 d h1 rv rh1 ex1 q1 => ⟨sa, m1, h1, _, Ea, rs.ext ex1, rh1, q1, tk_ext tk ex1, fun v2 H2 m2 d2 h2 rv2 rh2 ex2 q2 =>
    ⟨m2, h2, d, d2, Qa, rv.ext ex2, rv2, rh2, q2, fun v' H' m' d' h' r r' ex q => fin _ _ _ _ _ r r' ((ex1.trans ex2).trans ex) q⟩⟩⟩
theorem LE.un {wa : Sa → AH → QD → EK → Prop} {r : D → AH → QD → Prop} {Q : VK}
    (h : LE X nm (fun s h Q E => wa s h (fun x h1 => r x h1 Q) E) σ H Q) : tUn (L1 X nm r) (LE X nm wa) σ H Q := by
  obtain ⟨sa, m, h, Qa, Ea, rs, rh, w, tk, fin⟩ := h
  exact ⟨sa, m, h, _, Ea, rs, rh, w, tk, fun v H1 m1 d h1 rv rh1 ex1 q1 => ⟨m1, h1, d, Qa, rv, rh1, q1, fun v' H' m' d' h' r r' ex q => fin _ _ _ _ _ r r' (ex1.trans ex) q⟩⟩
end
section
variable {X : Cx} {nm : Nm} {H : Hp} {m : List Addr} {h : AH} {p : Addr}
theorem new_lst {xs : List V} {ds : List D} (rh : RH X.K nm H m h) (hp : H p = none) (r : RVs X.K H m xs ds) :
    RV X.K (upd H p (.lst xs)) (m ++ [p]) (.ref p) (.ref h.length) ∧ RH X.K nm (upd H p (.lst xs)) (m ++ [p]) (h ++ [.lst ds]) ∧ Ext H m (upd H p (.lst xs)) (m ++ [p]) := by
  have ex : Ext H m (upd H p (.lst xs)) (m ++ [p]) := Ext.new hp
  refine ⟨.ref ?_, rh.new hp ⟨(fun _ z => nomatch z), (fun _ _ _ z => nomatch z)⟩ ⟨xs, upd_same, r.ext ex⟩, ex⟩
  rw [← rh.len, List.getElem?_append_right (Nat.le_refl _)]
  simp
theorem new_tup {xs : List V} {ds : List D} (its : List Value) (rh : RH X.K nm H m h) (hp : H p = none) (r : RVs X.K H m xs ds) :
    RV X.K (upd H p (.frz (tO its) (.tup xs))) m (.ref p) (.tup ds) ∧ RH X.K nm (upd H p (.frz (tO its) (.tup xs))) m h ∧ Ext H m (upd H p (.frz (tO its) (.tup xs))) m :=
  ⟨.tup (.inl ⟨_, upd_same, rfl⟩) (r.ext (Ext.upd hp)), rh.upd hp, Ext.upd hp⟩
theorem new_wtup {xs : List V} {ds : List D} (rh : RH X.K nm H m h) (hp : H p = none) (r : RVs X.K H m xs ds) :
    RV X.K (upd H p (.tup xs)) m (.ref p) (.wtup ds) ∧ RH X.K nm (upd H p (.tup xs)) m h ∧ Ext H m (upd H p (.tup xs)) m :=
  ⟨.wtup (SqT.of upd_same) (r.ext (Ext.upd hp)), rh.upd hp, Ext.upd hp⟩
theorem set_lst {n : Nat} {a : Addr} {xs xs0 : List V} {ds : List D} (rh : RH X.K nm H m h) (e : m[n]? = some a) (hH : H a = some (.lst xs0)) (r : RVs X.K H m xs ds) :
    RH X.K nm (upd H a (.lst xs)) m (h.set n (.lst ds)) ∧ Ext H m (upd H a (.lst xs)) m := by
  have ex : Ext H m (upd H a (.lst xs)) m := Ext.write (List.mem_of_getElem? e) hH (fun _ z => nomatch z) (fun _ _ z => nomatch z)
  exact rh.write e (fun _ _ z => by rw [hH] at z; cases z) ⟨(fun _ z => nomatch z), (fun _ _ _ z => nomatch z)⟩ ⟨xs, upd_same, r.ext ex⟩
theorem the_lst {n : Nat} {v : V} {ds : List D} (rh : RH X.K nm H m h) (r : RV X.K H m v (.ref n)) (e : h[n]? = some (.lst ds)) : ∃ a xs, v = .ref a ∧ m[n]? = some a ∧ H a = some (.lst xs) ∧ RVs X.K H m xs ds := by
  cases r with
  | ref q =>
    obtain ⟨xs, h1, h2⟩ := rh.ob n _ _ q e
    exact ⟨_, xs, rfl, q, h1, h2⟩
end
theorem SZ_line : SZ = sizeLine := by rw [sizeLine_eq]; rfl
mutual
theorem dp_of {K : PySem.W.Frag} {H : Hp} {m : List Addr} : ∀ (d : D) {v : V} {n : Nat}, D.ok n d = true → RV K H m v d → Dp K H v d.py
  | .non, _, _, _, r => by cases r; simp only [D.py]; exact .non
  | .bl b, _, _, _, r => by cases r; simp only [D.py]; exact .bl b
  | .int i, _, _, _, r => by cases r; simp only [D.py]; exact .int i
  | .str x, _, _, _, r => by cases r; simp only [D.py]; exact .str _
  | .tup xs, _, 0, h, _ => by simp [D.ok] at h
  | .tup xs, _, n + 1, h, r => by
    cases r with
    | tup h1 h2 =>
      simp only [D.py]
      exact .tup h1.sqT (dps_of xs (by simpa [D.ok] using h) h2)
  | .rol xs, _, 0, h, _ => by simp [D.ok] at h
  | .rol xs, _, n + 1, h, r => by
    cases r with
    | rol h1 h2 =>
      simp only [D.py]
      exact .lst h1.sq (dps_of xs (by simpa [D.ok] using h) h2)
  | .wtup _, _, _, h, _ => by simp [D.ok] at h
  | .ref _, _, _, h, _ => by simp [D.ok] at h
theorem dps_of {K : PySem.W.Frag} {H : Hp} {m : List Addr} : ∀ (ds : List D) {vs : List V} {n : Nat}, D.oks n ds = true → RVs K H m vs ds → DpAll K H vs (D.pys ds)
  | [], _, _, _, r => by cases r; simp only [D.pys]; exact .nil
  | d :: ds, _, n, h, r => by
    cases r with
    | cons h1 h2 =>
      simp only [D.oks, Bool.and_eq_true] at h
      simp only [D.pys]
      exact .cons (dp_of d h.1 h1) (dps_of ds h.2 h2)
end
mutual
theorem ok_lay : ∀ (d : D) {n : Nat}, D.ok n d = true → d.py.canLay0 = true ∧ d.py.depth ≤ n
  | .non, _, _ => by simp [D.py, PyData.canLay0, PyData.depth]
  | .bl b, _, _ => by simp [D.py, PyData.canLay0, PyData.depth]
  | .int i, _, _ => by simp [D.py, PyData.canLay0, PyData.depth]
  | .str x, _, h => by
    simp only [D.ok, strOkL] at h
    simp [D.py, PyData.canLay0, PyData.depth, PyData.strOk, mkS]
    simpa using h
  | .tup xs, 0, h => by simp [D.ok] at h
  | .tup xs, n + 1, h => by
    obtain ⟨h1, h2⟩ := oks_lay xs (n := n) (by simpa [D.ok] using h)
    simp only [D.py, PyData.canLay0, PyData.depth]
    exact ⟨h1, by omega⟩
  | .rol xs, 0, h => by simp [D.ok] at h
  | .rol xs, n + 1, h => by
    obtain ⟨h1, h2⟩ := oks_lay xs (n := n) (by simpa [D.ok] using h)
    simp only [D.py, PyData.canLay0, PyData.depth]
    exact ⟨h1, by omega⟩
  | .wtup _, _, h => by simp [D.ok] at h
  | .ref _, _, h => by simp [D.ok] at h
theorem oks_lay : ∀ (ds : List D) {n : Nat}, D.oks n ds = true → PyData.canLayAll0 (D.pys ds) = true ∧ PyData.depthAll (D.pys ds) ≤ n
  | [], _, _ => by simp [D.pys, PyData.canLayAll0, PyData.depthAll]
  | d :: ds, n, h => by
    simp only [D.oks, Bool.and_eq_true] at h
    obtain ⟨a1, a2⟩ := ok_lay d h.1
    obtain ⟨b1, b2⟩ := oks_lay ds h.2
    simp only [D.pys, PyData.canLayAll0, PyData.depthAll, Bool.and_eq_true]
    exact ⟨⟨a1, b1⟩, by omega⟩
end
theorem shaped_of {d : D} {n : Nat} (hn : n ≤ 64) (h : D.ok n d = true) : SeqAt.shaped d.py = true := by
  obtain ⟨a, b⟩ := ok_lay d h
  unfold SeqAt.shaped
  rw [a]
  simp
  omega
theorem mkS_inj {x y : List Nat} : mkS x = mkS y ↔ x = y := by
  constructor
  · intro h
    have : (mkS x).cps = (mkS y).cps := by rw [h]
    simpa [mkS] using this
  · intro h; rw [h]
mutual
theorem eqv_py : ∀ (d e : D) {n k : Nat}, D.ok n d = true → D.ok k e = true → PyData.eqv d.py e.py = D.eqv d e
  | .non, e, _, _, _, he => by cases e <;> simp [D.py, PyData.eqv, D.eqv, D.ok] at he ⊢
  | .bl b, e, _, _, _, he => by cases e <;> simp [D.py, PyData.eqv, D.eqv, D.ok] at he ⊢
  | .int i, e, _, _, _, he => by cases e <;> simp [D.py, PyData.eqv, D.eqv, D.ok] at he ⊢
  | .str x, e, _, _, _, he => by
    cases e <;> simp [D.py, PyData.eqv, D.eqv, D.ok] at he ⊢
    rename_i y
    rw [Bool.eq_iff_iff]
    simp [mkS_inj]
  | .tup xs, e, n, k, hd, he => by
    cases e with
    | tup ys =>
      cases n with
      | zero => simp [D.ok] at hd
      | succ n =>
        cases k with
        | zero => simp [D.ok] at he
        | succ k =>
          simp only [D.py, PyData.eqv, D.eqv]
          exact eqvs_py xs ys (n := n) (k := k) (by simpa [D.ok] using hd) (by simpa [D.ok] using he)
    | _ => simp [D.py, PyData.eqv, D.eqv, D.ok] at he ⊢
  | .rol xs, e, n, k, hd, he => by
    cases e with
    | rol ys =>
      cases n with
      | zero => simp [D.ok] at hd
      | succ n =>
        cases k with
        | zero => simp [D.ok] at he
        | succ k =>
          simp only [D.py, PyData.eqv, D.eqv]
          exact eqvs_py xs ys (n := n) (k := k) (by simpa [D.ok] using hd) (by simpa [D.ok] using he)
    | _ => simp [D.py, PyData.eqv, D.eqv, D.ok] at he ⊢
  | .wtup _, _, _, _, hd, _ => by simp [D.ok] at hd
  | .ref _, _, _, _, hd, _ => by simp [D.ok] at hd
theorem eqvs_py : ∀ (ds es : List D) {n k : Nat}, D.oks n ds = true → D.oks k es = true → PyData.eqvAll (D.pys ds) (D.pys es) = D.eqvs ds es
  | [], es, _, _, _, _ => by cases es <;> simp [D.pys, PyData.eqvAll, D.eqvs]
  | d :: ds, es, _, _, hd, he => by
    cases es with
    | nil => simp [D.pys, PyData.eqvAll, D.eqvs]
    | cons e es =>
      simp only [D.oks, Bool.and_eq_true] at hd he
      simp only [D.pys, PyData.eqvAll, D.eqvs]
      rw [eqv_py d e hd.1 he.1, eqvs_py ds es hd.2 he.2]
end
theorem mem_py (x : D) {n k : Nat} (hx : D.ok n x = true) : ∀ (ys : List D), D.oks k ys = true → ((D.pys ys).any fun y => PyData.eqv y x.py) = D.mem x ys
  | [], _ => by simp [D.pys, D.mem]
  | y :: ys, h => by
    simp only [D.oks, Bool.and_eq_true] at h
    have ih := mem_py x hx ys h.2
    simp only [D.mem] at ih
    simp only [D.pys, List.any_cons, D.mem, eqv_py y x h.1 hx, ih]
section
variable {X : Cx} {nm : Nm} {H : Hp} {m : List Addr} {h : AH}
theorem dp_unl {v : V} {d : D} {n : Nat} (rh : RH X.K nm H m h) (r : RV X.K H m v d) (o : D.ok n (unl h d) = true) : Dp X.K H v (unl h d).py := by
  cases d with
  | ref k =>
    cases e : h[k]? with
    | none => simp [unl, e, D.ok] at o
    | some ob =>
      cases ob with
      | lst xs =>
        have eu : unl h (.ref k) = .rol xs := by simp [unl, e]
        rw [eu] at o ⊢
        obtain ⟨a, vs, rfl, h1, h2, h3⟩ := the_lst rh r e
        cases n with
        | zero => simp [D.ok] at o
        | succ n =>
          simp only [D.py]
          exact .lst (SqL.of h2) (dps_of xs (by simpa [D.ok] using o) h3)
      | dk _ => simp [unl, e, D.ok] at o
      | lk _ => simp [unl, e, D.ok] at o
      | ins _ _ => simp [unl, e, D.ok] at o
      | exc _ => simp [unl, e, D.ok] at o
      | dt _ => simp [unl, e, D.ok] at o
      | gone => simp [unl, e, D.ok] at o
  | _ => exact dp_of _ o r
theorem dps_unl (rh : RH X.K nm H m h) : ∀ (ds : List D) {vs : List V} {n : Nat}, D.oks n (ds.map (unl h)) = true → RVs X.K H m vs ds → DpAll X.K H vs (D.pys (ds.map (unl h)))
  | [], _, _, _, r => by cases r; simp only [List.map_nil, D.pys]; exact .nil
  | d :: ds, _, n, o, r => by
    cases r with
    | cons h1 h2 =>
      simp only [List.map_cons, D.oks, Bool.and_eq_true] at o
      simp only [List.map_cons, D.pys]
      exact .cons (dp_unl rh h1 o.1) (dps_unl rh ds o.2 h2)
theorem dp_unlA {v : V} {d : D} {n : Nat} (rh : RH X.K nm H m h) (r : RV X.K H m v d) (o : D.ok n (unlA h d) = true) : Dp X.K H v (unlA h d).py := by
  cases d with
  | ref k =>
    cases e : h[k]? with
    | none => simp [unlA, e, D.ok] at o
    | some ob =>
      cases ob with
      | lst xs =>
        have eu : unlA h (.ref k) = .rol (xs.map (unl h)) := by simp [unlA, e]
        rw [eu] at o ⊢
        obtain ⟨a, vs, rfl, h1, h2, h3⟩ := the_lst rh r e
        cases n with
        | zero => simp [D.ok] at o
        | succ n =>
          simp only [D.py]
          exact .lst (SqL.of h2) (dps_unl rh xs (by simpa [D.ok] using o) h3)
      | dk _ => simp [unlA, e, D.ok] at o
      | lk _ => simp [unlA, e, D.ok] at o
      | ins _ _ => simp [unlA, e, D.ok] at o
      | exc _ => simp [unlA, e, D.ok] at o
      | dt _ => simp [unlA, e, D.ok] at o
      | gone => simp [unlA, e, D.ok] at o
  | _ => exact dp_of _ o r
theorem dps_unlA (rh : RH X.K nm H m h) : ∀ (ds : List D) {vs : List V} {n : Nat}, D.oks n (ds.map (unlA h)) = true → RVs X.K H m vs ds → DpAll X.K H vs (D.pys (ds.map (unlA h)))
  | [], _, _, _, r => by cases r; simp only [List.map_nil, D.pys]; exact .nil
  | d :: ds, _, n, o, r => by
    cases r with
    | cons h1 h2 =>
      simp only [List.map_cons, D.oks, Bool.and_eq_true] at o
      simp only [List.map_cons, D.pys]
      exact .cons (dp_unlA rh h1 o.1) (dps_unlA rh ds o.2 h2)
theorem dp_unlB {v : V} {d : D} {n : Nat} (rh : RH X.K nm H m h) (r : RV X.K H m v d) (o : D.ok n (unlB h d) = true) : Dp X.K H v (unlB h d).py := by
  cases d with
  | ref k =>
    cases e : h[k]? with
    | none => simp [unlB, e, D.ok] at o
    | some ob =>
      cases ob with
      | lst xs =>
        have eu : unlB h (.ref k) = .rol (xs.map (unlA h)) := by simp [unlB, e]
        rw [eu] at o ⊢
        obtain ⟨a, vs, rfl, h1, h2, h3⟩ := the_lst rh r e
        cases n with
        | zero => simp [D.ok] at o
        | succ n =>
          simp only [D.py]
          exact .lst (SqL.of h2) (dps_unlA rh xs (by simpa [D.ok] using o) h3)
      | dk _ => simp [unlB, e, D.ok] at o
      | lk _ => simp [unlB, e, D.ok] at o
      | ins _ _ => simp [unlB, e, D.ok] at o
      | exc _ => simp [unlB, e, D.ok] at o
      | dt _ => simp [unlB, e, D.ok] at o
      | gone => simp [unlB, e, D.ok] at o
  | _ => exact dp_of _ o r
theorem items_of {v : V} {d : D} {ds : List D} (rh : RH X.K nm H m h) (r : RV X.K H m v d) (e : itemsOf h d = some ds) : ∃ a xs, v = .ref a ∧ (SqL X.K H a xs ∨ SqT X.K H a xs) ∧ RVs X.K H m xs ds := by
  cases d with
  | tup xs =>
    have : xs = ds := by simpa [itemsOf] using e
    subst this
    cases r with
    | tup h1 h2 => exact ⟨_, _, rfl, .inr h1.sqT, h2⟩
  | rol xs =>
    have : xs = ds := by simpa [itemsOf] using e
    subst this
    cases r with
    | rol h1 h2 => exact ⟨_, _, rfl, .inl h1.sq, h2⟩
  | ref k =>
    cases q : h[k]? with
    | none => simp [itemsOf, q] at e
    | some ob =>
      cases ob with
      | lst xs =>
        have : xs = ds := by simpa [itemsOf, q] using e
        subst this
        obtain ⟨a, vs, rfl, h1, h2, h3⟩ := the_lst rh r q
        exact ⟨a, vs, rfl, .inl (SqL.of h2), h3⟩
      | _ => simp [itemsOf, q] at e
  | _ => simp [itemsOf] at e
end
section
variable {K : PySem.W.Frag} {H : Hp} {m : List Addr} {nm : Nm}
theorem toK_inj {a b : Kd} : toK a = toK b ↔ a = b := by
  have inj : ∀ {x y : List Nat}, mkS x = mkS y → x = y := fun {x y} h => by
    have : (mkS x).cps = (mkS y).cps := by rw [h]
    simpa [mkS] using this
  constructor
  · intro h
    cases a <;> cases b <;> simp only [toK, Sum.inl.injEq, Sum.inr.injEq, reduceCtorEq] at h <;> first | (rw [h]; done) | (rw [inj h]; done) | contradiction
  · rintro rfl; rfl
theorem key_rv {v : V} {d : D} {k : Kd} (r : RV K H m v d) (e : keyOf d = some k) : v = kV (toK k) := by
  cases r <;> simp only [keyOf] at e <;> first | (cases e; done) | (cases e; rfl)
theorem RK.length : ∀ {vs : List (Key × V)} {ds : List (Kd × D)}, RK K H m vs ds → vs.length = ds.length
  | _, _, .nil => rfl
  | _, _, .cons _ r => by simp [RK.length r]
theorem RK.any (k : Kd) : ∀ {vs : List (Key × V)} {ds : List (Kd × D)}, RK K H m vs ds → (vs.any fun kv => decide (kv.1 = toK k)) = ds.any fun kv => decide (kv.1 = k)
  | _, _, .nil => rfl
  | _, _, .cons _ r => by simp only [List.any_cons, RK.any k r, toK_inj]
theorem RK.val (k : Kd) : ∀ {vs : List (Key × V)} {ds : List (Kd × D)}, RK K H m vs ds →
    (valV vs (toK k) = none ∧ valD ds k = none) ∨ ∃ v d, valV vs (toK k) = some v ∧ valD ds k = some d ∧ RV K H m v d
  | _, _, .nil => .inl ⟨rfl, rfl⟩
  | _, _, .cons (k := k') (v := v) (d := d) h r => by
    unfold valV valD
    by_cases e : k' = k
    · exact .inr ⟨v, d, by simp [List.find?_cons, e], by simp [List.find?_cons, e], h⟩
    · simp only [List.find?_cons, e, toK_inj, decide_false]
      exact RK.val k r
theorem RK.append : ∀ {vs ws : List (Key × V)} {ds es : List (Kd × D)}, RK K H m vs ds → RK K H m ws es → RK K H m (vs ++ ws) (ds ++ es)
  | _, _, _, _, .nil, r => r
  | _, _, _, _, .cons h q, r => .cons h (RK.append q r)
theorem RK.repl {v : V} {d : D} (h : RV K H m v d) (k : Kd) : ∀ {vs : List (Key × V)} {ds : List (Kd × D)}, RK K H m vs ds →
    RK K H m (vs.map fun kv => if kv.1 = toK k then (kv.1, v) else kv) (ds.map fun kv => if kv.1 = k then (kv.1, d) else kv)
  | _, _, .nil => .nil
  | _, _, .cons (k := k') h' r => by
    simp only [List.map_cons]
    by_cases e : k' = k
    · simp only [e, if_true]
      exact .cons h (RK.repl h k r)
    · simp only [e, toK_inj, if_false]
      exact .cons h' (by simpa only [toK_inj] using RK.repl h k r)
theorem RK.put {v : V} {d : D} {vs : List (Key × V)} {ds : List (Kd × D)} (r : RK K H m vs ds) (h : RV K H m v d) (k : Kd) : RK K H m (putK vs (toK k) v) (putD ds k d) := by
  unfold putK putD
  rw [r.any k]
  split
  · exact r.repl h k
  · exact r.append (.cons h .nil)
theorem RK.keys : ∀ {vs : List (Key × V)} {ds : List (Kd × D)}, RK K H m vs ds → vs.map (·.1) = ds.map fun p => toK p.1
  | _, _, .nil => rfl
  | _, _, .cons _ r => by simp only [List.map_cons, RK.keys r]
end
section
variable {X : Cx} {nm : Nm} {H : Hp} {m : List Addr} {h : AH} {p : Addr}
theorem new_dk {kvs : List (Key × V)} {ds : List (Kd × D)} (rh : RH X.K nm H m h) (hp : H p = none) (r : RK X.K H m kvs ds) :
    RV X.K (upd H p (.dK kvs)) (m ++ [p]) (.ref p) (.ref h.length) ∧ RH X.K nm (upd H p (.dK kvs)) (m ++ [p]) (h ++ [.dk ds]) ∧ Ext H m (upd H p (.dK kvs)) (m ++ [p]) := by
  have ex : Ext H m (upd H p (.dK kvs)) (m ++ [p]) := Ext.new hp
  refine ⟨.ref ?_, rh.new hp ⟨(fun _ z => nomatch z), (fun _ _ _ z => nomatch z)⟩ ⟨kvs, upd_same, r.ext ex⟩, ex⟩
  rw [← rh.len, List.getElem?_append_right (Nat.le_refl _)]
  simp
theorem set_dk {n : Nat} {a : Addr} {kvs kvs0 : List (Key × V)} {ds : List (Kd × D)} (rh : RH X.K nm H m h) (e : m[n]? = some a) (hH : H a = some (.dK kvs0)) (r : RK X.K H m kvs ds) :
    RH X.K nm (upd H a (.dK kvs)) m (h.set n (.dk ds)) ∧ Ext H m (upd H a (.dK kvs)) m := by
  have ex : Ext H m (upd H a (.dK kvs)) m := Ext.write (List.mem_of_getElem? e) hH (fun _ z => nomatch z) (fun _ _ z => nomatch z)
  exact rh.write e (fun _ _ z => by rw [hH] at z; cases z) ⟨(fun _ z => nomatch z), (fun _ _ _ z => nomatch z)⟩ ⟨kvs, upd_same, r.ext ex⟩
theorem the_dk {n : Nat} {v : V} {ds : List (Kd × D)} (rh : RH X.K nm H m h) (r : RV X.K H m v (.ref n)) (e : h[n]? = some (.dk ds)) : ∃ a kvs, v = .ref a ∧ m[n]? = some a ∧ H a = some (.dK kvs) ∧ RK X.K H m kvs ds := by
  cases r with
  | ref q =>
    obtain ⟨xs, h1, h2⟩ := rh.ob n _ _ q e
    exact ⟨_, xs, rfl, q, h1, h2⟩
end
section
variable {X : Cx} {nm : Nm} {H : Hp} {m : List Addr} {h : AH}
theorem RK.drop {K : PySem.W.Frag} (k : Kd) : ∀ {vs : List (Key × V)} {ds : List (Kd × D)}, RK K H m vs ds → RK K H m (dropK vs (toK k)) (dropD ds k)
  | _, _, .nil => .nil
  | _, _, .cons (k := k') h r => by
    have ih := RK.drop k r
    unfold dropK dropD at ih ⊢
    by_cases e : k' = k
    · simpa only [List.filter_cons, e, ne_eq, not_true_eq_false, decide_false, Bool.false_eq_true, if_false] using ih
    · simpa only [List.filter_cons, e, toK_inj, ne_eq, not_false_eq_true, decide_true, if_true] using RK.cons h ih
theorem RK.vals {K : PySem.W.Frag} : ∀ {vs : List (Key × V)} {ds : List (Kd × D)}, RK K H m vs ds → RVs K H m (vs.map (·.2)) (ds.map (·.2))
  | _, _, .nil => .nil
  | _, _, .cons h r => .cons h r.vals
theorem kD_rv {K : PySem.W.Frag} (k : Kd) : RV K H m (kV (toK k)) (kD k) := by cases k <;> first | exact .int _ | exact .str _
theorem RK.keysV {K : PySem.W.Frag} : ∀ {vs : List (Key × V)} {ds : List (Kd × D)}, RK K H m vs ds → RVs K H m (vs.map fun p => kV p.1) (keysD ds)
  | _, _, .nil => .nil
  | _, _, .cons (k := k) h r => .cons (kD_rv k) r.keysV
theorem RK.merge {K : PySem.W.Frag} {ms : List (Key × V)} {es : List (Kd × D)} (q : RK K H m ms es) : ∀ {vs : List (Key × V)} {ds : List (Kd × D)}, RK K H m vs ds → RK K H m (mergeK vs ms) (mergeD ds es) := by
  induction q with
  | nil => intro vs ds r; exact r
  | cons h _ ih => intro vs ds r; exact ih (r.put h _)
theorem getW_iff {n : Nat} {kvs : List (Kd × D)} : getW h n = some kvs ↔ h[n]? = some (.dk kvs) := by
  unfold getW
  split
  · rename_i ys e; rw [e]; constructor <;> (intro z; cases z; rfl)
  · rename_i e; constructor
    · intro z; cases z
    · intro z; exact absurd z (e kvs)
theorem getK_or {n : Nat} {kvs : List (Kd × D)} (e : getK h n = some kvs) : h[n]? = some (.dk kvs) ∨ h[n]? = some (.lk kvs) := by
  unfold getK at e
  split at e
  · rename_i ys q; cases e; exact .inl q
  · rename_i ys q; cases e; exact .inr q
  · cases e
theorem rd_dk {n : Nat} {v : V} {kvs : List (Kd × D)} (rh : RH X.K nm H m h) (r : RV X.K H m v (.ref n)) (e : getK h n = some kvs) : ∃ a vs, v = .ref a ∧ m[n]? = some a ∧ Rd H a (.dK vs) ∧ RK X.K H m vs kvs := by
  cases r with
  | ref q =>
    rcases getK_or e with e | e
    · obtain ⟨xs, h1, h2⟩ := rh.ob n _ _ q e
      exact ⟨_, xs, rfl, q, .inl h1, h2⟩
    · obtain ⟨o, xs, h1, h2⟩ := rh.ob n _ _ q e
      exact ⟨_, xs, rfl, q, .inr ⟨o, h1⟩, h2⟩
theorem dict_rd {v : V} {d : D} {kvs : List (Kd × D)} (rh : RH X.K nm H m h) (r : RV X.K H m v d) (e : dictOf h d = some kvs) : ∃ a vs, v = .ref a ∧ Rd H a (.dK vs) ∧ RK X.K H m vs kvs := by
  cases d with
  | ref n =>
    obtain ⟨a, vs, h1, _, h2, h3⟩ := rd_dk rh r e
    exact ⟨a, vs, h1, h2, h3⟩
  | _ => simp [dictOf] at e
theorem DGet.rd {a : Addr} {kvs : List (Key × V)} {k : Key} (e : Rd H a (.dK kvs)) : DGet H a (kV k) (valV kvs k) := .inl ⟨kvs, k, e, rfl, rfl⟩
end
end Rf
namespace Rf
open PySem PySem.Spec PyProof.Rows L2 PySem.MeetsSeq PySem.Calls
theorem str_declines_dict (b : Str) (u : Tok) (l : Addr) (es : Array DictEntry) (ep : Nat) (dd : Option Addr) (sl : Array (Option Value)) :
    Meets (Builtin.«str.__eq__» ⟨[.str b u, .ref l], []⟩) (fun _ R s => s.heap.get? l = some { cls := .type "dict", dict := dd, data := .dict es ep, slots := sl } ∧ R (.ok (.ret .notImplemented)) s) :=
  .of_wp fun prog w A R s h => by obtain ⟨hp, g, d, tk, os⟩ := s; obtain ⟨hl, h⟩ := h; wp_walk using wpAny_loadPart' hl, wpAny_load hl; exact ⟨_, rfl, h⟩
theorem dict_declines_str (b : Str) (u : Tok) (l : Addr) (es : Array DictEntry) (ep : Nat) (dd : Option Addr) (sl : Array (Option Value)) :
    Meets (Builtin.«dict.__eq__» ⟨[.ref l, .str b u], []⟩) (fun _ R s => s.heap.get? l = some { cls := .type "dict", dict := dd, data := .dict es ep, slots := sl } ∧ R (.ok (.ret .notImplemented)) s) :=
  .of_wp fun prog w A R s h => by obtain ⟨hp, g, d, tk, os⟩ := s; obtain ⟨hl, h⟩ := h; have f1 := PySem.F.sub_str_dict; wp_walk using wpAny_loadPart' hl, wpAny_load hl; exact ⟨_, rfl, h⟩
section
variable {A : Around} {s : Shared}
theorem rcat_str_dict {l : Addr} {o : Obj} (b : Str) (u : Tok) (ho : s.heap.get? l = some o) (hc : o.cls = .type "dict") (hd : ∃ es ep, o.data = .dict es ep) (hu : A.units < cLine) : SeqAt.RcAt A s (.str b u) (.ref l) false := fun prog w E Q h => by
  obtain ⟨cls, dd, data, sl⟩ := o
  obtain ⟨es, ep, hd⟩ := hd
  simp only at hc hd
  subst hc hd
  exact SeqAt.rc_eq_decline_or (k := false) (typeIs_str s b u) ⟨_, ho, rfl⟩ (by decide) PySem.F.sub_dict_str PySem.F.slot_str_eq PySem.F.slot_dict_eq_refl
    (fun _ hq => call_meets PySem.F.slot_str_eq (typeIs_str s b u) PySem.F.entry_str_eq (PySem.F.args_str_eq_2 _ _) (str_declines_dict b u l es ep dd sl) ⟨ho, hq⟩)
    (fun _ hq => call_meets PySem.F.slot_dict_eq_refl ⟨_, ho, rfl⟩ PySem.F.entry_dict_eq (PySem.F.args_dict_eq_2 _ _) (dict_declines_str b u l es ep dd sl) ⟨ho, hq⟩)
    (fun _ hq => wpAny_of_eq (rfl : isSame (.str b u) (.ref l) = pure false) hq) (.inr hu) h
theorem eqat_str_dict {l : Addr} {o : Obj} (b : Str) (u : Tok) (ho : s.heap.get? l = some o) (hc : o.cls = .type "dict") (hd : ∃ es ep, o.data = .dict es ep) (hu : A.units < cLine) : SeqAt.EqAt A s (.str b u) (.ref l) false := fun prog w E Q h => by
  unfold eqBool
  refine wpAny_holding ?_
  refine wpAny_ite_split (fun hab => absurd (eq_of_beq hab) nofun) (fun _ => ?_)
  exact wpAny_bind (rcat_str_dict b u ho hc hd hu prog w E _ (wpAny_truthy_bool h))
end
end Rf
namespace Rf
open PySem PySem.Spec PyProof.Rows L2 PySem.MeetsSeq PySem.Calls
section
variable {X : Cx} {nm : Nm}
theorem insW_mono {h : AH} {x y : D} {P P' : Bool → Prop} (hp : ∀ b, P b → P' b) : insW h x y P → insW h x y P' := fun ⟨ys, e, z⟩ => ⟨ys, e, z.imp (fun ⟨w, a, b⟩ => ⟨w, a, hp _ b⟩) (fun ⟨a, b⟩ => ⟨a, hp _ b⟩)⟩
theorem insW_items {K : PySem.W.Frag} {H : Hp} {m : List Addr} : ∀ {ys : List (List Nat)} {xs : List V}, RVs K H m xs (ys.map .str) → xs = ys.map fun y => V.str (mkS y)
  | [], _, r => by cases r; rfl
  | y :: ys, _, r => by
    cases r with
    | cons h r => cases h; rw [insW_items r]; rfl
theorem vals_strs : ∀ {ys : List (List Nat)} {its : List Value}, Vals (ys.map fun y => V.str (mkS y)) its → ∀ v ∈ its, ∃ y ∈ ys, ∃ t, v = .str (mkS y) t
  | [], _, r => by cases r; intro v hv; cases hv
  | y :: ys, _, r => by
    cases r with
    | cons h r =>
      obtain ⟨t, rfl⟩ := h
      intro v hv
      rcases List.mem_cons.mp hv with rfl | hv
      · exact ⟨y, List.mem_cons_self, t, rfl⟩
      · obtain ⟨z, hz, t', e⟩ := vals_strs r v hv
        exact ⟨z, List.mem_cons_of_mem _ hz, t', e⟩
def eqB (w : List Nat) : Value → Bool
  | .str z _ => z == mkS w
  | _ => false
theorem mkS_beq (a b : List Nat) : (mkS a == mkS b) = decide (a = b) := by
  rw [Bool.eq_iff_iff, beq_iff_eq, decide_eq_true_iff]
  unfold mkS
  simp
theorem any_eqB (w : List Nat) : ∀ {ys : List (List Nat)} {its : List Value}, Vals (ys.map fun y => V.str (mkS y)) its → its.any (eqB w) = decide (w ∈ ys)
  | [], _, r => by cases r; simp
  | y :: ys, _, r => by
    cases r with
    | cons h r =>
      obtain ⟨t, rfl⟩ := h
      rw [List.any_cons, any_eqB w r]
      show ((mkS y == mkS w) || _) = _
      rw [mkS_beq]
      by_cases h1 : y = w
      · simp [h1]
      · have h2 : ¬ w = y := fun e => h1 e.symm
        simp [h1, h2]
theorem ins_go {neg : Bool} {o : CmpOp} (ho : o = if neg then .NotIn else .In) (hu : X.A.units + 65 < cLine) {pins : List (Addr × Obj)} {s : Shared} {σ : L2.St} {H : Hp} {x : V} {v u : Value} {Q : VK} {m : List Addr} {h : AH} {d : D} {ys : List (List Nat)} {its : List Value} {Qa : QD}
    (I : Inv X pins σ H s) (rx : RelV x v) (r1 : RV X.K H m x d) (rh : RH X.K nm H m h) (w : (∃ w, d = .str w ∧ Qa (.bl (if neg then !(decide (w ∈ ys)) else decide (w ∈ ys))) h) ∨ (nonStr h d ∧ Qa (.bl (if neg then !false else false)) h)) (vs : Vals (ys.map fun y => V.str (mkS y)) its)
    (go : ∀ (g : Value → Bool) (b : Bool), (∀ z ∈ its.toArray, SeqAt.EqAt X.A.in1 s z v (g z)) → its.toArray.any g = b → Qa (.bl (if neg then !b else b)) h → wpAny (model X.prog X.w) X.A (compareOp o v u) (EP X pins σ Q) X.xe s) :
    wpAny (model X.prog X.w) X.A (compareOp o v u) (EP X pins σ Q) X.xe s := by
  have hu1 : X.A.in1.units < cLine := by show X.A.units + 1 < cLine; omega
  have anyF : its.toArray.any (fun _ => false) = false := by simp
  have st : ∀ z ∈ its.toArray, ∃ y t, z = .str (mkS y) t := fun z hz => by
    obtain ⟨y, _, t, e⟩ := vals_strs vs z (by simpa using hz)
    exact ⟨y, t, e⟩
  rcases w with ⟨w, rfl, q⟩ | ⟨ns, q⟩
  · cases r1
    obtain ⟨t, rfl⟩ := rx
    refine go (eqB w) _ (fun z hz => ?_) (by rw [List.any_toArray]; exact any_eqB w vs) q
    obtain ⟨y, t', rfl⟩ := st z hz
    exact SeqAt.EqAt.str_str _ _ _ _
  · cases r1 with
    | non =>
      cases rx
      refine go (fun _ => false) false (fun z hz => ?_) anyF q
      obtain ⟨y, t', rfl⟩ := st z hz
      exact SeqAt.EqAt.str_none _ _
    | bl b =>
      cases rx
      refine go (fun _ => false) false (fun z hz => ?_) anyF q
      obtain ⟨y, t', rfl⟩ := st z hz
      exact SeqAt.EqAt.str_bool _ _ _
    | int b =>
      obtain ⟨t, rfl⟩ := rx
      refine go (fun _ => false) false (fun z hz => ?_) anyF q
      obtain ⟨y, t', rfl⟩ := st z hz
      exact SeqAt.EqAt.str_int _ _ _ _
    | @tup a2 xs2 ds2 hs2 rv2 =>
      cases rx
      obtain ⟨its2, vs2, p2, hz2⟩ := I.tuple hs2.sqT
      refine go (fun _ => false) false (fun z hz => ?_) anyF q
      obtain ⟨y, t', rfl⟩ := st z hz
      exact SeqAt.EqAt.str_tuple _ _ p2 hu1
    | @ref a2 n hm =>
      cases rx
      rcases ns with ⟨xs, e⟩ | ⟨kvs, e⟩
      · obtain ⟨a', vs', e1, hm', hH, rk⟩ := the_lst rh (.ref hm) e
        cases e1
        obtain ⟨its2, vs2, p2, hz2⟩ := I.list (.inl (.inl hH))
        refine go (fun _ => false) false (fun z hz => ?_) anyF q
        obtain ⟨y, t', rfl⟩ := st z hz
        exact SeqAt.EqAt.str_list _ _ p2.isList hu1
      · obtain ⟨a', vs', e1, hm', hH, rk⟩ := the_dk rh (.ref hm) e
        cases e1
        obtain ⟨_, _, vs0, _, dd⟩ := I.hok _ _ hH
        refine go (fun _ => false) false (fun z hz => ?_) anyF q
        obtain ⟨y, t', rfl⟩ := st z hz
        obtain ⟨o', es, ep, ho', hc', hdt, _⟩ := dd
        exact eqat_str_dict _ _ ho' hc'.1 ⟨es, ep, hdt⟩ hu1
    | _ => exact ns.elim
theorem op_ins_ok {neg : Bool} {o : CmpOp} (ho : o = if neg then .NotIn else .In) (hu : X.A.units + 65 < cLine) : OpR X (compareOp o) (L2' X nm (fun x y h Q => insW h x y fun b => Q (.bl (if neg then !b else b)) h)) := by
  intro pins s σ H x y v u Q I rx ry hq
  obtain ⟨m, h, d, e, Qa, r1, r2, rh, ⟨ys, hy, w⟩, fin⟩ := hq
  rcases hy with rfl | ⟨n, rfl, hn⟩
  · cases r2 with
    | @tup a xs ds hs rv =>
      have ex := insW_items rv
      subst ex
      cases ry
      obtain ⟨its, vs, p, hz⟩ := I.tuple hs.sqT
      refine ins_go (nm := nm) (Qa := Qa) ho hu I rx r1 rh w vs fun g b hg hb q => ?_
      have fin' : EP X pins σ Q (.bool (if neg then !b else b)) s := ⟨.bl _, H, I, rfl, fin _ _ _ _ _ (.bl _) rh .refl q⟩
      cases neg with
      | false =>
        have eo : o = .In := ho
        subst eo
        exact SeqAt.in_tupleAt g p hg (by rw [hb]; exact fin')
      | true =>
        have eo : o = .NotIn := ho
        subst eo
        exact SeqAt.notIn_tupleAt g p hg (by rw [hb]; exact fin')
  · obtain ⟨a, xs, rfl, hm, hH, rv⟩ := the_lst rh r2 hn
    have ex := insW_items rv
    subst ex
    cases ry
    obtain ⟨its, vs, p, hz⟩ := I.list (.inl (.inl hH))
    refine ins_go (nm := nm) (Qa := Qa) ho hu I rx r1 rh w vs fun g b hg hb q => ?_
    have fin' : EP X pins σ Q (.bool (if neg then !b else b)) s := ⟨.bl _, H, I, rfl, fin _ _ _ _ _ (.bl _) rh .refl q⟩
    cases neg with
    | false =>
      have eo : o = .In := ho
      subst eo
      exact SeqAt.in_listAt g p.isList hg (by rw [hb]; exact fin')
    | true =>
      have eo : o = .NotIn := ho
      subst eo
      exact SeqAt.notIn_listAt g p.isList hg (by rw [hb]; exact fin')
end
end Rf
namespace Rf
open PySem PySem.Spec PyProof.Rows L2 PySem.MeetsSeq PySem.Calls PySem.SeqAt
open AutoSeq1 (wpAny_loadPart')
open MeetsSeq MeetsSeq2 MeetsSeq3
section
variable {prog : Program} {w : World}
theorem rf_tuple_eqIn (l b : Addr) (items items2 : Array Value) (n n2 : Nat) (dd dd2 : Option Addr) (sl sl2 : Array (Option Value)) (e : Nat → Bool) :
    MeetsIn prog w (Builtin.«tuple.__eq__» ⟨[.ref l, .ref b], []⟩)
      (fun A R s => s.heap.get? l = some { cls := .type "tuple", dict := dd, data := .seq items n, slots := sl } ∧ s.heap.get? b = some { cls := .type "tuple", dict := dd2, data := .seq items2 n2, slots := sl2 } ∧
        (∀ j (h1 : j < items.size) (h2 : j < items2.size), EqP prog w A.in1 s items[j] items2[j] (e j)) ∧
        R (.ok (.ret (.bool ((List.range (min items.size items2.size)).all e && items.size == items2.size)))) s) := by
    intro A R s h
    obtain ⟨hp, g, d, tk, os⟩ := s; obtain ⟨hl, hb, he, h⟩ := h
    have f2 := AutoSeq1.sub_tuple_tuple
    have hZ : (items.toList.zip items2.toList).length = min items.size items2.size := by simp
    wp_walk using wpAny_loadPart' hl, wpAny_loadPart' hb, wpAny_forIn_list _ (fun rest b s' => b.1 = none ∧ s' = ⟨hp, g, d, tk, os⟩ ∧ ∃ i, rest = (items.toList.zip items2.toList).drop i ∧
      R (.ok (.ret (.bool (((List.range (min items.size items2.size)).drop i).all e && items.size == items2.size)))) ⟨hp, g, d, tk, os⟩) _
    case turn =>
      rintro ⟨y, x⟩ rest b s' ⟨hb', rfl, i, hz, hR⟩
      have hlt : i < (items.toList.zip items2.toList).length := by
        rcases Nat.lt_or_ge i (items.toList.zip items2.toList).length with h' | h'
        · exact h'
        · rw [List.drop_of_length_le h'] at hz; cases hz
      have hm : i < min items.size items2.size := hZ ▸ hlt
      have h1 : i < items.size := Nat.lt_of_lt_of_le hm (Nat.min_le_left _ _)
      have h2 : i < items2.size := Nat.lt_of_lt_of_le hm (Nat.min_le_right _ _)
      rw [List.drop_eq_getElem_cons hlt] at hz
      injection hz with hyx hrest
      have hy : y = items[i] := by have := congrArg Prod.fst hyx; simpa using this
      have hx : x = items2[i] := by have := congrArg Prod.snd hyx; simpa using this
      subst hy hx
      have hd : (List.range (min items.size items2.size)).drop i = i :: (List.range (min items.size items2.size)).drop (i + 1) := by simp [List.drop_eq_getElem_cons, hm]
      rw [hd, List.all_cons] at hR
      refine wpAny_bind (he i h1 h2 _ _ ?_)
      cases hy : e i with
      | true =>
        rw [hy] at hR
        wp_walk
        exact ⟨rfl, rfl, i + 1, hrest, by simpa using hR⟩
      | false =>
        rw [hy] at hR
        wp_walk
        simpa using hR
    case fin =>
      rintro ⟨b1, b2⟩ s' ⟨hb', rfl, i, hz, hR⟩
      simp only at hb'
      subst hb'
      have hge : min items.size items2.size ≤ i := by
        rcases Nat.lt_or_ge i (items.toList.zip items2.toList).length with h' | h'
        · rw [List.drop_eq_getElem_cons h'] at hz; cases hz
        · exact hZ ▸ h'
      rw [List.drop_of_length_le (by simpa using hge)] at hR
      wp_walk
      simpa [Builtin.Tuple.tupleCompareSizes] using hR
    case h =>
      exact ⟨rfl, rfl, 0, rfl, by simpa using h⟩
theorem rf_tuple_neIn (l b : Addr) (items items2 : Array Value) (n n2 : Nat) (dd dd2 : Option Addr) (sl sl2 : Array (Option Value)) (e : Nat → Bool) :
    MeetsIn prog w (Builtin.«tuple.__ne__» ⟨[.ref l, .ref b], []⟩)
      (fun A R s => s.heap.get? l = some { cls := .type "tuple", dict := dd, data := .seq items n, slots := sl } ∧ s.heap.get? b = some { cls := .type "tuple", dict := dd2, data := .seq items2 n2, slots := sl2 } ∧
        (∀ j (h1 : j < items.size) (h2 : j < items2.size), EqP prog w A.in1 s items[j] items2[j] (e j)) ∧
        R (.ok (.ret (.bool (!((List.range (min items.size items2.size)).all e && items.size == items2.size))))) s) := by
    intro A R s h
    obtain ⟨hp, g, d, tk, os⟩ := s; obtain ⟨hl, hb, he, h⟩ := h
    have f2 := AutoSeq1.sub_tuple_tuple
    have hZ : (items.toList.zip items2.toList).length = min items.size items2.size := by simp
    wp_walk using wpAny_loadPart' hl, wpAny_loadPart' hb, wpAny_forIn_list _ (fun rest b s' => b.1 = none ∧ s' = ⟨hp, g, d, tk, os⟩ ∧ ∃ i, rest = (items.toList.zip items2.toList).drop i ∧
      R (.ok (.ret (.bool (!(((List.range (min items.size items2.size)).drop i).all e && items.size == items2.size))))) ⟨hp, g, d, tk, os⟩) _
    case turn =>
      rintro ⟨y, x⟩ rest b s' ⟨hb', rfl, i, hz, hR⟩
      have hlt : i < (items.toList.zip items2.toList).length := by
        rcases Nat.lt_or_ge i (items.toList.zip items2.toList).length with h' | h'
        · exact h'
        · rw [List.drop_of_length_le h'] at hz; cases hz
      have hm : i < min items.size items2.size := hZ ▸ hlt
      have h1 : i < items.size := Nat.lt_of_lt_of_le hm (Nat.min_le_left _ _)
      have h2 : i < items2.size := Nat.lt_of_lt_of_le hm (Nat.min_le_right _ _)
      rw [List.drop_eq_getElem_cons hlt] at hz
      injection hz with hyx hrest
      have hy : y = items[i] := by have := congrArg Prod.fst hyx; simpa using this
      have hx : x = items2[i] := by have := congrArg Prod.snd hyx; simpa using this
      subst hy hx
      have hd : (List.range (min items.size items2.size)).drop i = i :: (List.range (min items.size items2.size)).drop (i + 1) := by simp [List.drop_eq_getElem_cons, hm]
      rw [hd, List.all_cons] at hR
      refine wpAny_bind (he i h1 h2 _ _ ?_)
      cases hy : e i with
      | true =>
        rw [hy] at hR
        wp_walk
        exact ⟨rfl, rfl, i + 1, hrest, by simpa using hR⟩
      | false =>
        rw [hy] at hR
        wp_walk
        simpa using hR
    case fin =>
      rintro ⟨b1, b2⟩ s' ⟨hb', rfl, i, hz, hR⟩
      simp only at hb'
      subst hb'
      have hge : min items.size items2.size ≤ i := by
        rcases Nat.lt_or_ge i (items.toList.zip items2.toList).length with h' | h'
        · rw [List.drop_eq_getElem_cons h'] at hz; cases hz
        · exact hZ ▸ h'
      rw [List.drop_of_length_le (by simpa using hge)] at hR
      wp_walk
      simpa [Builtin.Tuple.tupleCompareSizes, bne] using hR
    case h =>
      exact ⟨rfl, rfl, 0, rfl, by simpa using h⟩
theorem rf_ne_loopIn (l b : Addr) (items items2 : Array Value) (n n2 : Nat) (dd dd2 : Option Addr) (sl sl2 : Array (Option Value)) (hsz : items.size = items2.size) (e : Nat → Bool) (k : Nat) :
    ∀ i : Nat, items.size - i = k → MeetsIn prog w (Builtin.«list.__eq__.loop» ⟨[.ref l, .ref b, rawInt i, rawInt 3], []⟩)
      (fun A R s => s.heap.get? l = some { cls := .type "list", dict := dd, data := .seq items n, slots := sl } ∧ s.heap.get? b = some { cls := .type "list", dict := dd2, data := .seq items2 n2, slots := sl2 } ∧
        (∀ j (h1 : j < items.size) (h2 : j < items2.size), EqP prog w A.in1 s items[j] items2[j] (e j)) ∧
        R (.ok (.ret (.bool (!((List.range items.size).drop i).all e)))) s) := by
  induction k with
  | zero =>
    intro i hk A R s h
    obtain ⟨hp, g, d, tk, os⟩ := s; obtain ⟨hl, hb, he, h⟩ := h
    wp_walk using wpAny_loadPart' hl, wpAny_loadPart' hb
    have hi1 : items[((i : Nat) : Int).toNat]? = none := by simp; omega
    have hi2 : items2[((i : Nat) : Int).toNat]? = none := by simp; omega
    have hd : (List.range items.size).drop i = [] := by simp; omega
    rw [hd] at h
    rw [hi1, hi2]
    wp_walk using wpAny_loadPart' hl, wpAny_loadPart' hb
    show R (.ok (.ret (.bool (items.size != items2.size)))) _
    rw [hsz]
    simpa using h
  | succ k ih =>
    intro i hk A R s h
    obtain ⟨hp, g, d, tk, os⟩ := s; obtain ⟨hl, hb, he, h⟩ := h
    wp_walk using wpAny_loadPart' hl, wpAny_loadPart' hb
    have hlt : i < items.size := by omega
    have hlt2 : i < items2.size := by omega
    have hi1 : items[((i : Nat) : Int).toNat]? = some items[i] := by simp [hlt]
    have hi2 : items2[((i : Nat) : Int).toNat]? = some items2[i] := by simp [hlt2]
    have hd : (List.range items.size).drop i = i :: (List.range items.size).drop (i + 1) := by simp [List.drop_eq_getElem_cons, hlt]
    have hc : ((i : Int) + 1) = ((i + 1 : Nat) : Int) := by push_cast; rfl
    rw [hd, List.all_cons] at h
    rw [hi1, hi2]
    refine wpAny_bind (he i hlt hlt2 _ _ ?_)
    cases hb' : e i with
    | true =>
      rw [hb'] at h
      wp_walk
      rw [hc]
      exact ⟨plainId_quiet plain_eq_loop _, codeAny_builtin entry_eq_loop (by
        rw [Around.under_plainId plain_eq_loop _]
        exact ih (i + 1) (by omega) A R _ ⟨hl, hb, he, by simpa using h⟩)⟩
    | false =>
      rw [hb'] at h
      wp_walk using wpAny_loadPart' hl, wpAny_loadPart' hb
      rw [hi1, hi2]
      wp_walk
      simpa using h
theorem rf_list_neIn (l b : Addr) (items items2 : Array Value) (n n2 : Nat) (dd dd2 : Option Addr) (sl sl2 : Array (Option Value)) (hsz : items.size = items2.size) (e : Nat → Bool) :
    MeetsIn prog w (Builtin.«list.__ne__» ⟨[.ref l, .ref b], []⟩)
      (fun A R s => s.heap.get? l = some { cls := .type "list", dict := dd, data := .seq items n, slots := sl } ∧ s.heap.get? b = some { cls := .type "list", dict := dd2, data := .seq items2 n2, slots := sl2 } ∧
        (∀ j (h1 : j < items.size) (h2 : j < items2.size), EqP prog w A.in1 s items[j] items2[j] (e j)) ∧
        R (.ok (.ret (.bool (!(List.range items.size).all e)))) s) := by
  intro A R s h
  obtain ⟨hp, g, d, tk, os⟩ := s; obtain ⟨hl, hb, he, h⟩ := h
  have f3 := AutoSeq1.sub_list_list
  have hne : ¬ (items.size != items2.size) = true := by simp [hsz]
  wp_walk using wpAny_loadPart' hl, wpAny_loadPart' hb
  exact ⟨plainId_quiet plain_eq_loop _, codeAny_builtin entry_eq_loop (by
    rw [Around.under_plainId plain_eq_loop _]
    exact rf_ne_loopIn l b items items2 n n2 dd dd2 sl sl2 hsz e _ 0 rfl A R _ ⟨hl, hb, he, by simpa using h⟩)⟩
def RcP (prog : Program) (w : World) (A : Around) (s : Shared) (a b : Value) (k : Bool) : Prop :=
  (∀ (E Q : Value → Shared → Prop), Q (.bool k) s → wpAny (model prog w) A (richCompare .Eq a b) Q E s) ∧ ∀ (E Q : Value → Shared → Prop), Q (.bool (!k)) s → wpAny (model prog w) A (richCompare .NotEq a b) Q E s
variable {A : Around} {s : Shared}
theorem rcP_tups {l b : Addr} {items items2 : Array Value} {e : Nat → Bool} (hl : s.heap.IsTuple l items) (hb : s.heap.IsTuple b items2) (hu : A.units < cLine)
    (he : ∀ j (h1 : j < items.size) (h2 : j < items2.size), EqP prog w A.in1 s items[j] items2[j] (e j)) : RcP prog w A s (.ref l) (.ref b) ((List.range (min items.size items2.size)).all e && items.size == items2.size) := by
  obtain ⟨⟨cls, dd, data, sl⟩, ho, hc, n, hd⟩ := id hl
  obtain ⟨⟨cls2, dd2, data2, sl2⟩, ho2, hc2, n2, hd2⟩ := id hb
  simp only at hc hd hc2 hd2
  subst hc hd hc2 hd2
  have ta : s.TypeIs (.ref l) "tuple" := ⟨_, ho, rfl⟩
  have tb : s.TypeIs (.ref b) "tuple" := ⟨_, ho2, rfl⟩
  refine ⟨fun E Q h => ?_, fun E Q h => ?_⟩
  · exact wpAny_richCompare_same_room (op := .Eq) ta tb F.slot_tuple_eq (call_meetsIn F.slot_tuple_eq ta F.entry_tuple_eq (F.args_tuple_eq_2 _ _) (rf_tuple_eqIn l b items items2 n n2 dd dd2 sl sl2 e)
      ⟨ho, ho2, he, show Value.bool _ ≠ Value.notImplemented ∧ Q (.bool _) s from ⟨(fun x => nomatch x), h⟩⟩) hu
  · exact wpAny_richCompare_same_room (op := .NotEq) ta tb F.slot_tuple_ne (call_meetsIn F.slot_tuple_ne ta F.entry_tuple_ne (F.args_tuple_ne_2 _ _) (rf_tuple_neIn l b items items2 n n2 dd dd2 sl sl2 e)
      ⟨ho, ho2, he, show Value.bool _ ≠ Value.notImplemented ∧ Q (.bool _) s from ⟨(fun x => nomatch x), h⟩⟩) hu
theorem rcP_lsts {l b : Addr} {items items2 : Array Value} {e : Nat → Bool} (hl : s.heap.IsList l items) (hb : s.heap.IsList b items2) (hsz : items.size = items2.size) (hu : A.units < cLine)
    (he : ∀ j (h1 : j < items.size) (h2 : j < items2.size), EqP prog w A.in1 s items[j] items2[j] (e j)) : RcP prog w A s (.ref l) (.ref b) ((List.range items.size).all e) := by
  refine ⟨fun E Q h => rcP_lists hl hb hsz hu he E Q h, fun E Q h => ?_⟩
  obtain ⟨⟨cls, dd, data, sl⟩, ho, hc, n, hd⟩ := id hl
  obtain ⟨⟨cls2, dd2, data2, sl2⟩, ho2, hc2, n2, hd2⟩ := id hb
  simp only at hc hd hc2 hd2
  subst hc hd hc2 hd2
  have ta : s.TypeIs (.ref l) "list" := ⟨_, ho, rfl⟩
  have tb : s.TypeIs (.ref b) "list" := ⟨_, ho2, rfl⟩
  exact wpAny_richCompare_same_room (op := .NotEq) ta tb F.slot_list_ne (call_meetsIn F.slot_list_ne ta F.entry_list_ne (F.args_list_ne_2 _ _) (rf_list_neIn l b items items2 n n2 dd dd2 sl sl2 hsz e)
    ⟨ho, ho2, he, show Value.bool _ ≠ Value.notImplemented ∧ Q (.bool _) s from ⟨(fun x => nomatch x), h⟩⟩) hu
theorem rcP_of {a b : Value} {k : Bool} (h1 : RcAt A s a b k) (h2 : RcNeAt A s a b (!k)) : RcP prog w A s a b k := ⟨fun E Q h => h1 prog w E Q h, fun E Q h => h2 prog w E Q h⟩
theorem tuple_declines_dict (l b : Addr) (items : Array Value) (n : Nat) (dd dd2 : Option Addr) (sl sl2 : Array (Option Value)) (es : Array DictEntry) (ep : Nat) :
    Meets (Builtin.«tuple.__eq__» ⟨[.ref l, .ref b], []⟩) (fun _ R s => s.heap.get? l = some { cls := .type "tuple", dict := dd, data := .seq items n, slots := sl } ∧ s.heap.get? b = some { cls := .type "dict", dict := dd2, data := .dict es ep, slots := sl2 } ∧ R (.ok (.ret .notImplemented)) s) :=
  .of_wp fun prog w A R s h => by obtain ⟨hp, g, d, tk, os⟩ := s; obtain ⟨hl, hb, h⟩ := h; have f1 := PySem.F.sub_dict_tuple; wp_walk using wpAny_loadPart' hl, wpAny_loadPart' hb, wpAny_load hb; exact ⟨_, rfl, h⟩
theorem dict_declines_tuple (l b : Addr) (items : Array Value) (n : Nat) (dd dd2 : Option Addr) (sl sl2 : Array (Option Value)) (es : Array DictEntry) (ep : Nat) :
    Meets (Builtin.«dict.__eq__» ⟨[.ref b, .ref l], []⟩) (fun _ R s => s.heap.get? l = some { cls := .type "tuple", dict := dd, data := .seq items n, slots := sl } ∧ s.heap.get? b = some { cls := .type "dict", dict := dd2, data := .dict es ep, slots := sl2 } ∧ R (.ok (.ret .notImplemented)) s) :=
  .of_wp fun prog w A R s h => by obtain ⟨hp, g, d, tk, os⟩ := s; obtain ⟨hl, hb, h⟩ := h; have f1 := PySem.F.sub_tuple_dict; wp_walk using wpAny_loadPart' hl, wpAny_loadPart' hb, wpAny_load hb, wpAny_load hl; exact ⟨_, rfl, h⟩
theorem rf_dict_ne_str (b : Str) (u : Tok) (l : Addr) (es : Array DictEntry) (ep : Nat) (dd : Option Addr) (sl : Array (Option Value)) :
    Meets (Builtin.«dict.__ne__» ⟨[.ref l, .str b u], []⟩) (fun _ R s => s.heap.get? l = some { cls := .type "dict", dict := dd, data := .dict es ep, slots := sl } ∧ R (.ok (.ret .notImplemented)) s) :=
  .of_wp fun prog w A R s h => by obtain ⟨hp, g, d, tk, os⟩ := s; obtain ⟨hl, h⟩ := h; have f1 := PySem.F.sub_str_dict; wp_walk using wpAny_loadPart' hl, wpAny_load hl; exact ⟨_, rfl, h⟩
theorem rf_str_ne_dict (b : Str) (u : Tok) (l : Addr) (es : Array DictEntry) (ep : Nat) (dd : Option Addr) (sl : Array (Option Value)) :
    Meets (Builtin.«str.__ne__» ⟨[.str b u, .ref l], []⟩) (fun _ R s => s.heap.get? l = some { cls := .type "dict", dict := dd, data := .dict es ep, slots := sl } ∧ R (.ok (.ret .notImplemented)) s) :=
  .of_wp fun prog w A R s h => by obtain ⟨hp, g, d, tk, os⟩ := s; obtain ⟨hl, h⟩ := h; wp_walk using wpAny_loadPart' hl, wpAny_load hl; exact ⟨_, rfl, h⟩
theorem rf_dict_ne_tuple (l b : Addr) (items : Array Value) (n : Nat) (dd dd2 : Option Addr) (sl sl2 : Array (Option Value)) (es : Array DictEntry) (ep : Nat) :
    Meets (Builtin.«dict.__ne__» ⟨[.ref b, .ref l], []⟩) (fun _ R s => s.heap.get? l = some { cls := .type "tuple", dict := dd, data := .seq items n, slots := sl } ∧ s.heap.get? b = some { cls := .type "dict", dict := dd2, data := .dict es ep, slots := sl2 } ∧ R (.ok (.ret .notImplemented)) s) :=
  .of_wp fun prog w A R s h => by obtain ⟨hp, g, d, tk, os⟩ := s; obtain ⟨hl, hb, h⟩ := h; have f1 := PySem.F.sub_tuple_dict; wp_walk using wpAny_loadPart' hl, wpAny_loadPart' hb, wpAny_load hb, wpAny_load hl; exact ⟨_, rfl, h⟩
theorem rf_tuple_ne_dict (l b : Addr) (items : Array Value) (n : Nat) (dd dd2 : Option Addr) (sl sl2 : Array (Option Value)) (es : Array DictEntry) (ep : Nat) :
    Meets (Builtin.«tuple.__ne__» ⟨[.ref l, .ref b], []⟩) (fun _ R s => s.heap.get? l = some { cls := .type "tuple", dict := dd, data := .seq items n, slots := sl } ∧ s.heap.get? b = some { cls := .type "dict", dict := dd2, data := .dict es ep, slots := sl2 } ∧ R (.ok (.ret .notImplemented)) s) :=
  .of_wp fun prog w A R s h => by obtain ⟨hp, g, d, tk, os⟩ := s; obtain ⟨hl, hb, h⟩ := h; have f1 := PySem.F.sub_dict_tuple; wp_walk using wpAny_loadPart' hl, wpAny_loadPart' hb, wpAny_load hb; exact ⟨_, rfl, h⟩
theorem rcP_dict_str {l : Addr} {o : Obj} (b : Str) (u : Tok) (ho : s.heap.get? l = some o) (hc : o.cls = .type "dict") (hd : ∃ es ep, o.data = .dict es ep) (hu : A.units < cLine) : RcP prog w A s (.ref l) (.str b u) false := by
  obtain ⟨cls, dd, data, sl⟩ := o
  obtain ⟨es, ep, hd⟩ := hd
  simp only at hc hd
  subst hc hd
  refine ⟨fun E Q h => ?_, fun E Q h => ?_⟩
  · exact SeqAt.rc_eq_decline_or (k := false) ⟨_, ho, rfl⟩ (typeIs_str s b u) (by decide) PySem.F.sub_str_dict PySem.F.slot_dict_eq PySem.F.slot_str_eq_refl
      (fun _ hq => call_meets PySem.F.slot_dict_eq ⟨_, ho, rfl⟩ PySem.F.entry_dict_eq (PySem.F.args_dict_eq_2 _ _) (dict_declines_str b u l es ep dd sl) ⟨ho, hq⟩)
      (fun _ hq => call_meets PySem.F.slot_str_eq_refl (typeIs_str s b u) PySem.F.entry_str_eq (PySem.F.args_str_eq_2 _ _) (str_declines_dict b u l es ep dd sl) ⟨ho, hq⟩)
      (fun _ hq => wpAny_of_eq (rfl : isSame (.ref l) (.str b u) = pure false) hq) (.inr hu) h
  · exact SeqAt.rc_ne_decline_or (k := false) ⟨_, ho, rfl⟩ (typeIs_str s b u) (by decide) PySem.F.sub_str_dict PySem.F.slot_dict_ne PySem.F.slot_str_ne_refl
      (fun _ hq => call_meets PySem.F.slot_dict_ne ⟨_, ho, rfl⟩ PySem.F.entry_dict_ne (PySem.F.args_dict_ne_2 _ _) (rf_dict_ne_str b u l es ep dd sl) ⟨ho, hq⟩)
      (fun _ hq => call_meets PySem.F.slot_str_ne_refl (typeIs_str s b u) PySem.F.entry_str_ne (PySem.F.args_str_ne_2 _ _) (rf_str_ne_dict b u l es ep dd sl) ⟨ho, hq⟩)
      (fun _ hq => wpAny_of_eq (rfl : isSame (.ref l) (.str b u) = pure false) hq) (.inr hu) h
theorem rcP_dict_tup {l b : Addr} {o : Obj} {items : Array Value} (ho : s.heap.get? b = some o) (hc : o.cls = .type "dict") (hd : ∃ es ep, o.data = .dict es ep) (hl : s.heap.IsTuple l items) (hu : A.units < cLine) : RcP prog w A s (.ref b) (.ref l) false ∧ b ≠ l := by
  obtain ⟨cls, dd, data, sl⟩ := o
  obtain ⟨es, ep, hd⟩ := hd
  simp only at hc hd
  subst hc hd
  obtain ⟨⟨cls2, dd2, data2, sl2⟩, ho2, hc2, n2, hd2⟩ := id hl
  simp only at hc2 hd2
  subst hc2 hd2
  have hne : b ≠ l := fun e => by
    subst e
    rw [ho] at ho2
    simp at ho2
  refine ⟨⟨fun E Q h => ?_, fun E Q h => ?_⟩, hne⟩
  · exact SeqAt.rc_eq_decline_or (k := false) ⟨_, ho, rfl⟩ ⟨_, ho2, rfl⟩ (by decide) PySem.F.sub_tuple_dict PySem.F.slot_dict_eq PySem.F.slot_tuple_eq_refl
      (fun _ hq => call_meets PySem.F.slot_dict_eq ⟨_, ho, rfl⟩ PySem.F.entry_dict_eq (PySem.F.args_dict_eq_2 _ _) (dict_declines_tuple l b items n2 dd2 dd sl2 sl es ep) ⟨ho2, ho, hq⟩)
      (fun _ hq => call_meets PySem.F.slot_tuple_eq_refl ⟨_, ho2, rfl⟩ PySem.F.entry_tuple_eq (PySem.F.args_tuple_eq_2 _ _) (tuple_declines_dict l b items n2 dd2 dd sl2 sl es ep) ⟨ho2, ho, hq⟩)
      (fun _ hq => wpAny_isSame_ref_other hne ho ho2 (by simp) hq) (.inr hu) h
  · exact SeqAt.rc_ne_decline_or (k := false) ⟨_, ho, rfl⟩ ⟨_, ho2, rfl⟩ (by decide) PySem.F.sub_tuple_dict PySem.F.slot_dict_ne PySem.F.slot_tuple_ne_refl
      (fun _ hq => call_meets PySem.F.slot_dict_ne ⟨_, ho, rfl⟩ PySem.F.entry_dict_ne (PySem.F.args_dict_ne_2 _ _) (rf_dict_ne_tuple l b items n2 dd2 dd sl2 sl es ep) ⟨ho2, ho, hq⟩)
      (fun _ hq => call_meets PySem.F.slot_tuple_ne_refl ⟨_, ho2, rfl⟩ PySem.F.entry_tuple_ne (PySem.F.args_tuple_ne_2 _ _) (rf_tuple_ne_dict l b items n2 dd2 dd sl2 sl es ep) ⟨ho2, ho, hq⟩)
      (fun _ hq => wpAny_isSame_ref_other hne ho ho2 (by simp) hq) (.inr hu) h
theorem rcP_dkts {K : Type} [DecidableEq K] {knd : PySem.KeyKind prog w K} {a b : Addr} {ka kb : List (K × Value)} {r : Bool} (ha : (a == sysModules) = false) (hb : (b == sysModules) = false)
    (da : s.heap.DictOf knd a ka) (db : s.heap.DictOf knd b kb) (hu : A.units < cLine) (hits : ka.length = kb.length → PySem.W.KeqHitsP prog w A.in1 s kb ka r) : RcP prog w A s (.ref a) (.ref b) (ka.length == kb.length && r) := by
  refine ⟨fun E Q h => PySem.W.rcP_dicts ha hb da db hu hits E Q h, fun E Q h => ?_⟩
  refine wpAny_richCompare_same_room (op := .NotEq) da.typeIs db.typeIs PySem.F.slot_dict_ne (wpAny_call_entry PySem.F.slot_dict_ne da.typeIs PySem.F.entry_dict_ne ?_ (PySem.F.args_dict_ne_2 _ _)) hu
  show wpAny _ _ (Builtin.Dict.dictSlotArgs "__ne__" ⟨[.ref a, .ref b], []⟩ >>= _) _ _ s
  refine wpAny_bind ?_
  unfold Builtin.Dict.dictSlotArgs
  refine wpAny_bind (wpAny_notOrdered_dict da.typeIs ?_)
  show wpAny _ _ (pure (Value.ref a, Value.ref b)) _ _ s
  refine wpAny_pure ?_
  refine wpAny_bind (wpAny_isInstance (T := "dict") db.typeIs PySem.F.sub_dict_dict ?_)
  simp only [Bool.not_true, Bool.false_eq_true, if_false]
  refine wpAny_bind (wpAny_pure (wpAny_bind (wpAny_pure ?_)))
  refine wpAny_bind (PySem.W.samePairsP ha hb da db hits ?_)
  refine wpAny_pure ⟨_, rfl, ?_, ?_⟩
  · exact fun x => nomatch x
  · simpa using h
theorem eqP_of_rc {l : Addr} {b : Value} {k : Bool} (h : RcP prog w A s (.ref l) b k) (hs : Value.ref l = b → k = true) : EqP prog w A s (.ref l) b k := by
  by_cases hb : Value.ref l = b
  · rw [hs hb, ← hb]
    exact (SeqAt.EqAt.same _).eqP
  · intro E Q hq
    unfold eqBool
    refine wpAny_holding ?_
    refine wpAny_ite_split (fun hab => absurd (eq_of_beq hab) hb) (fun _ => ?_)
    exact wpAny_bind (h.1 E _ (wpAny_truthy_bool hq))
end
end Rf
namespace Rf
open PySem PySem.Spec PyProof.Rows L2
theorem mapO_cons {α β : Type} {f : α → Option β} {x : α} {xs : List α} {z : List β} (e : mapO f (x :: xs) = some z) : ∃ y ys, f x = some y ∧ mapO f xs = some ys ∧ z = y :: ys := by
  simp only [mapO] at e
  split at e
  · rename_i y ys e1 e2
    cases e
    exact ⟨y, ys, e1, e2, rfl⟩
  · cases e
section
variable {X : Cx} {nm : Nm} {H : Hp} {m : List Addr} {h : AH} {pins : List (Addr × Obj)} {σ : L2.St} {s : Shared}
theorem rdA_list {n : Nat} (ih : ∀ (d : D) (v : V) (u : Value) (pd : PyData), RV X.K H m v d → RelV v u → datA h n d = some pd → ∃ as, Reads s.heap u pd as ∧ (noL pd = true → sysModules ∉ as)) :
    ∀ (ds : List D) (vs : List V) (us : List Value) (ps : List PyData), RVs X.K H m vs ds → Vals vs us → mapO (datA h n) ds = some ps → ∃ as, ReadsAll s.heap us ps as ∧ (noLs ps = true → sysModules ∉ as)
  | [], _, _, ps, r, rv, e => by
    cases r
    cases rv
    cases e
    exact ⟨[], .nil, fun _ z => nomatch z⟩
  | d :: ds, _, _, ps, r, rv, e => by
    obtain ⟨y, ys, e1, e2, rfl⟩ := mapO_cons e
    cases r with
    | cons r1 r2 =>
      cases rv with
      | cons q1 q2 =>
        obtain ⟨as, a1, a2⟩ := ih d _ _ _ r1 q1 e1
        obtain ⟨bs, b1, b2⟩ := rdA_list ih ds _ _ _ r2 q2 e2
        refine ⟨as ++ bs, .cons a1 b1, fun hn hm => ?_⟩
        simp only [noLs, Bool.and_eq_true] at hn
        rcases List.mem_append.mp hm with hm | hm
        · exact a2 hn.1 hm
        · exact b2 hn.2 hm
theorem rdA_dict {n : Nat} (ih : ∀ (d : D) (v : V) (u : Value) (pd : PyData), RV X.K H m v d → RelV v u → datA h n d = some pd → ∃ as, Reads s.heap u pd as ∧ (noL pd = true → sysModules ∉ as)) :
    ∀ (kvs : List (Kd × D)) (vs : List (Key × V)) (us : List (Key × Value)) (es : List DictEntry) (ps : List (PyData × PyData)), RK X.K H m vs kvs → KV vs us → PySem.Pairs (mixKind X.prog X.w) es us → mapO (fun kv : Kd × D => (datA h n kv.2).map fun y => ((kD kv.1).py, y)) kvs = some ps →
      ∃ as bs, ReadsAll s.heap (es.map (·.key)) (ps.map (·.1)) as ∧ ReadsAll s.heap (es.map (·.val)) (ps.map (·.2)) bs ∧ (noLk ps = true → sysModules ∉ as ∧ sysModules ∉ bs)
  | [], _, _, es, ps, r, rv, pr, e => by
    cases r
    cases rv
    cases pr
    cases e
    exact ⟨[], [], .nil, .nil, fun _ => ⟨(fun z => nomatch z), fun z => nomatch z⟩⟩
  | (k, d) :: kvs, _, _, es, ps, r, rv, pr, e => by
    obtain ⟨y, ys, e1, e2, rfl⟩ := mapO_cons e
    cases r with
    | cons r1 r2 =>
      cases rv with
      | cons q1 q2 =>
        obtain ⟨qk, qv⟩ := q1
        cases pr with
        | @cons eD _ _ _ p1 p2 p3 =>
          obtain ⟨as, bs, a1, b1, hn2⟩ := rdA_dict ih kvs _ _ _ _ r2 q2 p3 e2
          cases ed : datA h n d with
          | none => rw [ed] at e1; cases e1
          | some yd =>
            rw [ed] at e1
            cases e1
            obtain ⟨cs, c1, c2⟩ := ih d _ _ _ r1 qv ed
            have hk : Reads s.heap eD.key (kD k).py [] := by
              have p1' : keyIs (toK k) eD.key = true := by rw [← qk] at p1; exact p1
              rcases keyIs_shape p1' with ⟨j, t, e1, e2⟩ | ⟨x, t, e1, e2⟩
              · rw [e2]
                cases k with
                | inl i => cases e1; exact .int _ t
                | inr x => cases e1
              · rw [e2]
                cases k with
                | inl i => cases e1
                | inr x => cases e1; exact .str _ t
            refine ⟨[] ++ as, cs ++ bs, .cons hk a1, ?_, fun hn => ?_⟩
            · rw [List.map_cons, p2]
              exact .cons c1 b1
            · simp only [noLk, Bool.and_eq_true] at hn
              obtain ⟨h1, h2⟩ := hn2 hn.2.2
              refine ⟨by simpa using h1, fun hm => ?_⟩
              rcases List.mem_append.mp hm with hm | hm
              · exact c2 hn.2.1 hm
              · exact h2 hm
theorem rdDat (I : L2.Inv X pins σ H s) (rh : RH X.K nm H m h) : ∀ (n : Nat) (d : D) (v : V) (u : Value) (pd : PyData), RV X.K H m v d → RelV v u → datA h n d = some pd → ∃ as, Reads s.heap u pd as ∧ (noL pd = true → sysModules ∉ as)
  | n, .non, v, u, pd, r, q, e => by
    cases r
    obtain rfl : pd = .none := by cases n <;> simpa [datA] using e.symm
    obtain rfl : u = Value.none := q
    exact ⟨[], .none, fun _ z => nomatch z⟩
  | n, .bl b, v, u, pd, r, q, e => by
    cases r
    obtain rfl : pd = .bool b := by cases n <;> simpa [datA] using e.symm
    obtain rfl : u = Value.bool b := q
    exact ⟨[], .bool b, fun _ z => nomatch z⟩
  | n, .int i, v, u, pd, r, q, e => by
    cases r
    obtain rfl : pd = .int i := by cases n <;> simpa [datA] using e.symm
    obtain ⟨t, rfl⟩ := q
    exact ⟨[], .int i t, fun _ z => nomatch z⟩
  | n, .str x, v, u, pd, r, q, e => by
    cases r
    obtain rfl : pd = .str (mkS x) := by cases n <;> simpa [datA] using e.symm
    obtain ⟨t, rfl⟩ := q
    exact ⟨[], .str _ t, fun _ z => nomatch z⟩
  | 0, .tup _, _, _, _, _, _, e => by simp [datA] at e
  | 0, .rol _, _, _, _, _, _, e => by simp [datA] at e
  | 0, .ref _, _, _, _, _, _, e => by simp [datA] at e
  | n, .wtup _, _, _, _, _, _, e => by cases n <;> simp [datA] at e
  | n + 1, .tup xs, v, u, pd, r, q, e => by
    simp only [datA, Option.map_eq_some_iff] at e
    obtain ⟨ps, e1, rfl⟩ := e
    cases r with
    | tup h1 h2 =>
      obtain ⟨its, rv, ⟨o, ho, hc, k, hd⟩, _⟩ := I.tuple h1.sqT
      obtain rfl : u = Value.ref _ := q
      obtain ⟨as, a1, a2⟩ := rdA_list (fun d v u pd a b c => rdDat I rh n d v u pd a b c) xs _ _ ps h2 rv e1
      exact ⟨as, .tuple ho hc hd (by simpa using a1), fun hn => a2 (by simpa [noL] using hn)⟩
  | n + 1, .rol xs, v, u, pd, r, q, e => by
    simp only [datA, Option.map_eq_some_iff] at e
    obtain ⟨ps, e1, rfl⟩ := e
    cases r with
    | rol h1 h2 =>
      obtain ⟨its, rv, ⟨o, k, ho, hc, _, hd⟩, _⟩ := I.list h1.sq
      obtain rfl : u = Value.ref _ := q
      obtain ⟨as, a1, a2⟩ := rdA_list (fun d v u pd a b c => rdDat I rh n d v u pd a b c) xs _ _ ps h2 rv e1
      exact ⟨_, .list ho hc hd (by simpa using a1), fun hn => by simp [noL] at hn⟩
  | n + 1, .ref k, v, u, pd, r, q, e => by
    cases eo : h[k]? with
    | none => simp [datA, eo] at e
    | some ob =>
      cases ob with
      | lst xs =>
        simp only [datA, eo, Option.map_eq_some_iff] at e
        obtain ⟨ps, e1, rfl⟩ := e
        obtain ⟨a, vs, rfl, h1, h2, h3⟩ := the_lst rh r eo
        obtain rfl : u = Value.ref _ := q
        obtain ⟨its, rv, ⟨o, j, ho, hc, _, hd⟩, _⟩ := I.list (SqL.of h2)
        obtain ⟨as, a1, a2⟩ := rdA_list (fun d v u pd a b c => rdDat I rh n d v u pd a b c) xs _ _ ps h3 rv e1
        exact ⟨_, .list ho hc hd (by simpa using a1), fun hn => by simp [noL] at hn⟩
      | dk kvs =>
        simp only [datA, eo, Option.map_eq_some_iff] at e
        obtain ⟨ps, e1, rfl⟩ := e
        cases r with
        | ref hm =>
          obtain ⟨vs, h1, h2⟩ := rh.ob k _ _ hm eo
          obtain rfl : u = Value.ref _ := q
          obtain ⟨_, hS, us, rv, o, es, ep, ho, hx, hd, _, pr, _⟩ := dk_of I.hok h1
          obtain ⟨as, bs, a1, b1, hn2⟩ := rdA_dict (fun d v u pd a b c => rdDat I rh n d v u pd a b c) kvs _ _ _ ps h2 rv pr e1
          refine ⟨_, .dict ho hx.1 hd a1 b1, fun hn hmem => ?_⟩
          obtain ⟨z1, z2⟩ := hn2 (by simpa [noL] using hn)
          rcases List.mem_append.mp hmem with hmem | hmem
          · rcases List.mem_cons.mp hmem with e | hmem
            · rw [← e] at hS
              simp at hS
            · exact z1 hmem
          · exact z2 hmem
      | lk _ => simp [datA, eo] at e
      | ins _ _ => simp [datA, eo] at e
      | exc _ => simp [datA, eo] at e
      | dt _ => simp [datA, eo] at e
      | gone => simp [datA, eo] at e
theorem mapO_depth {α : Type} {f : α → Option PyData} {n : Nat} (hf : ∀ x y, f x = some y → y.depth ≤ n) : ∀ (xs : List α) (ys : List PyData), mapO f xs = some ys → PyData.depthAll ys ≤ n
  | [], _, e => by cases e; simp [PyData.depthAll]
  | x :: xs, _, e => by
    obtain ⟨y, ys, e1, e2, rfl⟩ := mapO_cons e
    have h1 := hf x y e1
    have h2 := mapO_depth hf xs ys e2
    simp only [PyData.depthAll]
    omega
theorem mapO_depthKv {α : Type} {f : α → Option (PyData × PyData)} {n : Nat} (hf : ∀ x y, f x = some y → y.1.depth ≤ n ∧ y.2.depth ≤ n) : ∀ (xs : List α) (ys : List (PyData × PyData)), mapO f xs = some ys → PyData.depthKv ys ≤ n
  | [], _, e => by cases e; simp [PyData.depthKv]
  | x :: xs, _, e => by
    obtain ⟨⟨y1, y2⟩, ys, e1, e2, rfl⟩ := mapO_cons e
    have h1 := hf x _ e1
    have h2 := mapO_depthKv hf xs ys e2
    simp only [PyData.depthKv] at *
    omega
theorem datA_depth (h : AH) : ∀ (n : Nat) (d : D) (pd : PyData), datA h n d = some pd → pd.depth ≤ n
  | n, .non, pd, e => by
    obtain rfl : pd = .none := by cases n <;> simpa [datA] using e.symm
    simp [PyData.depth]
  | n, .bl b, pd, e => by
    obtain rfl : pd = .bool b := by cases n <;> simpa [datA] using e.symm
    simp [PyData.depth]
  | n, .int i, pd, e => by
    obtain rfl : pd = .int i := by cases n <;> simpa [datA] using e.symm
    simp [PyData.depth]
  | n, .str x, pd, e => by
    obtain rfl : pd = .str (mkS x) := by cases n <;> simpa [datA] using e.symm
    simp [PyData.depth]
  | 0, .tup _, _, e => by simp [datA] at e
  | 0, .rol _, _, e => by simp [datA] at e
  | 0, .ref _, _, e => by simp [datA] at e
  | n, .wtup _, _, e => by cases n <;> simp [datA] at e
  | n + 1, .tup xs, pd, e => by
    simp only [datA, Option.map_eq_some_iff] at e
    obtain ⟨ps, e1, rfl⟩ := e
    have := mapO_depth (datA_depth h n) xs ps e1
    simp only [PyData.depth]
    omega
  | n + 1, .rol xs, pd, e => by
    simp only [datA, Option.map_eq_some_iff] at e
    obtain ⟨ps, e1, rfl⟩ := e
    have := mapO_depth (datA_depth h n) xs ps e1
    simp only [PyData.depth]
    omega
  | n + 1, .ref k, pd, e => by
    cases eo : h[k]? with
    | none => simp [datA, eo] at e
    | some ob =>
      cases ob with
      | lst xs =>
        simp only [datA, eo, Option.map_eq_some_iff] at e
        obtain ⟨ps, e1, rfl⟩ := e
        have := mapO_depth (datA_depth h n) xs ps e1
        simp only [PyData.depth]
        omega
      | dk kvs =>
        simp only [datA, eo, Option.map_eq_some_iff] at e
        obtain ⟨ps, e1, rfl⟩ := e
        have := mapO_depthKv (n := n) (fun (x : Kd × D) y e => by
          obtain ⟨z, e2, rfl⟩ := Option.map_eq_some_iff.mp e
          refine ⟨?_, datA_depth h n _ _ e2⟩
          cases x.1 <;> simp [kD, D.py, PyData.depth]) kvs ps e1
        simp only [PyData.depth]
        omega
      | lk _ => simp [datA, eo] at e
      | ins _ _ => simp [datA, eo] at e
      | exc _ => simp [datA, eo] at e
      | dt _ => simp [datA, eo] at e
      | gone => simp [datA, eo] at e
end
end Rf
namespace Rf
open PySem PySem.Spec PyProof.Rows L2 PySem.SeqAt
theorem eqxW_mono {h : AH} {x y : D} {P P' : Bool → Prop} (hp : ∀ b, P b → P' b) : eqxW h x y P → eqxW h x y P' := fun ⟨b, a1, a2⟩ => ⟨b, a1, hp _ a2⟩
section
variable {X : Cx} {nm : Nm} {H : Hp} {m : List Addr} {h : AH} {pins : List (Addr × Obj)} {σ : L2.St} {s : Shared}
theorem vals_at {vs : List V} {us : List Value} (r : Vals vs us) : ∀ {i : Nat} {v : V}, vs[i]? = some v → ∃ u, us[i]? = some u ∧ RelV v u := by
  induction r with
  | nil => intro i v e; simp at e
  | cons a b ih =>
    intro i v e
    cases i with
    | zero => simp at e; subst e; exact ⟨_, by simp, a⟩
    | succ i => simpa using ih (by simpa using e)
theorem rvs_len {vs : List V} {ds : List D} : RVs X.K H m vs ds → vs.length = ds.length
  | .nil => rfl
  | .cons _ r => by simp [rvs_len r]
theorem ae_items {n : Nat} {A : Around} (hA : A.units + n < cLine)
    (ih : ∀ x y b v w u1 u2, AE h n x y b → RV X.K H m v x → RV X.K H m w y → RelV v u1 → RelV w u2 → EqP X.prog X.w A s u1 u2 b ∧ (u1 = u2 → b = true))
    {xs ys : List D} {vs ws : List V} {us us' : List Value} {e : Nat → Bool} (rx : RVs X.K H m vs xs) (ry : RVs X.K H m ws ys) (qx : Vals vs us) (qy : Vals ws us')
    (he : ∀ j x' y', xs[j]? = some x' → ys[j]? = some y' → AE h n x' y' (e j)) : ∀ j (h1 : j < us.length) (h2 : j < us'.length), EqP X.prog X.w A s us[j] us'[j] (e j) ∧ (us[j] = us'[j] → e j = true) := by
  intro j h1 h2
  have l1 : us.length = xs.length := by rw [← qx.length, rvs_len rx]
  have l2 : us'.length = ys.length := by rw [← qy.length, rvs_len ry]
  have e1 : xs[j]? = some (xs[j]'(by omega)) := List.getElem?_eq_getElem _
  have e2 : ys[j]? = some (ys[j]'(by omega)) := List.getElem?_eq_getElem _
  obtain ⟨v, f1, r1⟩ := rx.get e1
  obtain ⟨w, f2, r2⟩ := ry.get e2
  obtain ⟨u1, g1, q1⟩ := vals_at qx f1
  obtain ⟨u2, g2, q2⟩ := vals_at qy f2
  rw [List.getElem?_eq_getElem h1] at g1
  rw [List.getElem?_eq_getElem h2] at g2
  cases g1
  cases g2
  exact ih _ _ _ _ _ _ _ (he j _ _ e1 e2) r1 r2 q1 q2
theorem ae_sound (I : L2.Inv X pins σ H s) (rh : RH X.K nm H m h) : ∀ (n : Nat) (A : Around), A.units + n < cLine → ∀ x y b v w u1 u2, AE h n x y b → RV X.K H m v x → RV X.K H m w y → RelV v u1 → RelV w u2 →
    RcP X.prog X.w A s u1 u2 b ∧ EqP X.prog X.w A s u1 u2 b ∧ (u1 = u2 → b = true)
  | 0, _, _, _, _, _, _, _, _, _, ae, _, _, _, _ => (show False from ae).elim
  | n + 1, A, hA, x, y, b, v, w, u1, u2, ae, rx, ry, qx, qy => by
    have hu : A.units < cLine := by omega
    have hn : A.in1.units + n < cLine := by show A.units + 1 + n < cLine; omega
    have IH := ae_sound I rh n A.in1 hn
    have IHe : ∀ x y b v w u1 u2, AE h n x y b → RV X.K H m v x → RV X.K H m w y → RelV v u1 → RelV w u2 → EqP X.prog X.w A.in1 s u1 u2 b ∧ (u1 = u2 → b = true) := fun x y b v w u1 u2 a1 a2 a3 a4 a5 => (IH x y b v w u1 u2 a1 a2 a3 a4 a5).2
    simp only [AE] at ae
    rcases ae with ⟨px, py, e1, e2, p1, p2, rfl⟩ | ⟨xs, ys, e, hxy, he, rfl⟩ | ⟨a, c, rfl, rfl, hd⟩ | ⟨rfl, a, kvs, rfl, hk, hy⟩ | ⟨rfl, xs, rfl, hy⟩ | ⟨rfl, a, xs, rfl, ha, hy⟩
    · obtain ⟨as, r1, _⟩ := rdDat I rh _ _ _ _ _ rx qx e1
      obtain ⟨bs, r2, _⟩ := rdDat I rh _ _ _ _ _ ry qy e2
      have d1 := datA_depth h _ _ _ e1
      have hm : A.units + min px.depth py.depth < cLine := by
        have := Nat.min_le_left px.depth py.depth
        omega
      refine ⟨rcP_of (rcAt_plain r1 r2 p1 p2 hm) (rcNe_plain r1 r2 p1 p2 hm), (eqAt_plain _ _ _ _ _ _ _ _ r1 r2 p1 p2 hm).eqP, fun z => ?_⟩
      subst z
      rw [plain_unique _ _ _ _ _ p1 r1 r2]
      exact eqv_refl_plain _ p2
    · rcases hxy with ⟨rfl, rfl⟩ | ⟨a, c, rfl, rfl, ha, hc, hl⟩
      · cases rx with
        | @tup a1 _ _ h1 h2 =>
        cases ry with
        | @tup a2 _ _ h3 h4 =>
        obtain ⟨its, rv, t1, _⟩ := I.tuple h1.sqT
        obtain ⟨its', rv', t2, _⟩ := I.tuple h3.sqT
        obtain rfl : u1 = Value.ref _ := qx
        obtain rfl : u2 = Value.ref _ := qy
        have it := ae_items hn IHe h2 h4 rv rv' he
        have l1 : its.length = xs.length := by rw [← rv.length, rvs_len h2]
        have l2 : its'.length = ys.length := by rw [← rv'.length, rvs_len h4]
        obtain ⟨o1, t1a, t1b, k1, t1c⟩ := t1
        obtain ⟨o2, t2a, t2b, k2, t2c⟩ := t2
        have T1 : s.heap.IsTuple _ its.toArray := ⟨o1, t1a, t1b, k1, t1c⟩
        have T2 : s.heap.IsTuple _ its'.toArray := ⟨o2, t2a, t2b, k2, t2c⟩
        have rc := rcP_tups (prog := X.prog) (w := X.w) T1 T2 hu (e := e) fun j j1 j2 => by
          have := (it j (by simpa using j1) (by simpa using j2)).1
          simpa using this
        have er : ((List.range (min its.toArray.size its'.toArray.size)).all e && its.toArray.size == its'.toArray.size) = ((List.range (min xs.length ys.length)).all e && xs.length == ys.length) := by
          simp [l1, l2]
        rw [er] at rc
        refine ⟨rc, ?_⟩
        have same : Value.ref a1 = Value.ref a2 → ((List.range (min xs.length ys.length)).all e && xs.length == ys.length) = true := fun z => by
          injection z with z
          subst z
          rw [t1a] at t2a
          cases t2a
          rw [t1c] at t2c
          injection t2c with t2c _
          have ei : its = its' := by simpa using t2c
          subst ei
          rw [Bool.and_eq_true]
          refine ⟨List.all_eq_true.mpr fun j hj => ?_, by rw [beq_iff_eq]; omega⟩
          have hj' := List.mem_range.mp hj
          exact (it j (by omega) (by omega)).2 rfl
        exact ⟨eqP_of_rc rc same, same⟩
      · obtain ⟨a1, vs, rfl, m1, g1, s1⟩ := the_lst rh rx ha
        obtain ⟨a2, ws, rfl, m2, g2, s2⟩ := the_lst rh ry hc
        obtain rfl : u1 = Value.ref _ := qx
        obtain rfl : u2 = Value.ref _ := qy
        obtain ⟨its, rv, t1, _⟩ := I.list (SqL.of g1)
        obtain ⟨its', rv', t2, _⟩ := I.list (SqL.of g2)
        have it := ae_items hn IHe s1 s2 rv rv' he
        have l1 : its.length = xs.length := by rw [← rv.length, rvs_len s1]
        have l2 : its'.length = ys.length := by rw [← rv'.length, rvs_len s2]
        have rc := rcP_lsts (prog := X.prog) (w := X.w) t1.isList t2.isList (by simp; omega) hu (e := e) fun j j1 j2 => by
          have := (it j (by simpa using j1) (by simpa using j2)).1
          simpa using this
        have er : (List.range its.toArray.size).all e = ((List.range (min xs.length ys.length)).all e && xs.length == ys.length) := by
          simp [l1, hl]
        rw [er] at rc
        have same : Value.ref a1 = Value.ref a2 → ((List.range (min xs.length ys.length)).all e && xs.length == ys.length) = true := fun z => by
          injection z with z
          subst z
          rw [g1] at g2
          cases g2
          obtain ⟨o1, k1, t1a, t1b, t1d, t1c⟩ := t1
          obtain ⟨o2, k2, t2a, t2b, t2d, t2c⟩ := t2
          rw [t1a] at t2a
          cases t2a
          rw [t1c] at t2c
          injection t2c with t2c _
          have ei : its = its' := by simpa using t2c
          subst ei
          rw [Bool.and_eq_true]
          refine ⟨List.all_eq_true.mpr fun j hj => ?_, by rw [beq_iff_eq]; omega⟩
          have hj' := List.mem_range.mp hj
          exact (it j (by omega) (by omega)).2 rfl
        exact ⟨rc, eqP_of_rc rc same, same⟩
    · cases rx with
      | @ref a1 _ m1 =>
      cases ry with
      | @ref a2 _ m2 =>
      obtain rfl : u1 = Value.ref _ := qx
      obtain rfl : u2 = Value.ref _ := qy
      rcases hd with ⟨ha, hc, rfl⟩ | ⟨k, vv, ww, ha, hc, hv⟩
      · obtain ⟨vs, g1, s1⟩ := rh.ob _ _ _ m1 ha
        obtain ⟨ws, g2, s2⟩ := rh.ob _ _ _ m2 hc
        cases s1
        cases s2
        obtain ⟨_, z1, kv1, r1, d1⟩ := dk_of I.hok g1
        obtain ⟨_, z2, kv2, r2, d2⟩ := dk_of I.hok g2
        cases r1
        cases r2
        have rc := rcP_dkts z1 z2 d1 d2 hu (r := true) fun _ => .nil
        exact ⟨rc, eqP_of_rc rc (fun _ => rfl), fun _ => rfl⟩
      · obtain ⟨vs, g1, s1⟩ := rh.ob _ _ _ m1 ha
        obtain ⟨ws, g2, s2⟩ := rh.ob _ _ _ m2 hc
        cases s1 with
        | cons s1 n1 =>
        cases n1
        cases s2 with
        | cons s2 n2 =>
        cases n2
        obtain ⟨_, z1, kv1, r1, d1⟩ := dk_of I.hok g1
        obtain ⟨_, z2, kv2, r2, d2⟩ := dk_of I.hok g2
        cases r1 with
        | cons r1 n1 =>
        cases n1
        cases r2 with
        | cons r2 n2 =>
        cases n2
        rename_i q1 q2
        obtain ⟨k1, c1⟩ := q1
        obtain ⟨k2, c2⟩ := q2
        obtain ⟨f1, f2⟩ := r1
        obtain ⟨f3, f4⟩ := r2
        simp only at f1 f2 f3 f4
        subst f1
        subst f3
        have it := IHe _ _ _ _ _ _ _ hv s1 s2 f2 f4
        have rc := rcP_dkts z1 z2 d1 d2 hu (r := b && true) fun _ => .hit (by simp [valueAt]) it.1 .nil
        have er : ([(toK k, c1)].length == [(toK k, c2)].length && (b && true)) = b := by simp
        rw [er] at rc
        have same : Value.ref a1 = Value.ref a2 → b = true := fun z => by
          injection z with z
          subst z
          rw [g1] at g2
          injection g2 with g2
          injection g2 with g2
          injection g2 with g2 _
          injection g2 with _ g2
          subst g2
          have : c1 = c2 := by
            obtain ⟨o, es, ep, o1, o2, o3, o4, o5, _⟩ := d1
            obtain ⟨o', es', ep', o1', o2', o3', o4', o5', _⟩ := d2
            rw [o1] at o1'
            cases o1'
            rw [o3] at o3'
            cases o3'
            cases hes : es.toList with
            | nil => rw [hes] at o5; cases o5
            | cons e1 er =>
              rw [hes] at o5 o5'
              cases o5 with
              | cons _ w1 _ =>
                cases o5' with
                | cons _ w2 _ => exact w1.symm.trans w2
          exact it.2 this
        exact ⟨rc, eqP_of_rc rc same, same⟩
    · cases rx with
      | ref m1 =>
      obtain rfl : u1 = Value.ref _ := qx
      obtain ⟨vs, g1, s1⟩ := rh.ob _ _ _ m1 hk
      obtain ⟨_, z1, kv1, r1, o, es, ep, ho, hx, hd, _⟩ := dk_of I.hok g1
      rcases hy with ⟨ww, rfl⟩ | ⟨ys, rfl⟩
      · cases ry
        obtain ⟨t, rfl⟩ := qy
        have rc := rcP_dict_str (prog := X.prog) (w := X.w) (A := A) (mkS ww) t ho hx.1 ⟨es, ep, hd⟩ hu
        exact ⟨rc, eqP_of_rc rc (fun z => nomatch z), fun z => nomatch z⟩
      · cases ry with
        | tup h3 h4 =>
        obtain ⟨its', rv', ⟨o2, t2a, t2b, k2, t2c⟩, _⟩ := I.tuple h3.sqT
        obtain rfl : u2 = Value.ref _ := qy
        have T2 : s.heap.IsTuple _ its'.toArray := ⟨o2, t2a, t2b, k2, t2c⟩
        obtain ⟨rc, ne⟩ := rcP_dict_tup (prog := X.prog) (w := X.w) (A := A) ho hx.1 ⟨es, ep, hd⟩ T2 hu
        exact ⟨rc, eqP_of_rc rc (fun z => absurd (by injection z) ne), fun z => absurd (by injection z) ne⟩
    · cases rx with
      | tup h1 h2 =>
      obtain ⟨its, rv, ⟨o1, t1a, t1b, k1, t1c⟩, _⟩ := I.tuple h1.sqT
      obtain rfl : u1 = Value.ref _ := qx
      have T1 : s.heap.IsTuple _ its.toArray := ⟨o1, t1a, t1b, k1, t1c⟩
      rcases hy with ⟨ww, rfl⟩ | rfl
      · cases ry
        obtain ⟨t, rfl⟩ := qy
        exact ⟨rcP_of (RcAt.tuple_str _ t T1 hu) (RcNeAt.tuple_str _ t T1 hu), (EqAt.tuple_str _ t T1 hu).eqP, fun z => nomatch z⟩
      · cases ry
        obtain rfl : u2 = Value.none := qy
        exact ⟨rcP_of (RcAt.tuple_none T1 hu) (RcNeAt.tuple_none T1 hu), (EqAt.tuple_none T1 hu).eqP, fun z => nomatch z⟩
    · obtain ⟨a1, vs, rfl, m1, g1, s1⟩ := the_lst rh rx ha
      obtain rfl : u1 = Value.ref _ := qx
      obtain ⟨its, rv, t1, _⟩ := I.list (SqL.of g1)
      rcases hy with ⟨ww, rfl⟩ | ⟨ys, rfl⟩
      · cases ry
        obtain ⟨t, rfl⟩ := qy
        exact ⟨rcP_of (RcAt.list_str _ t t1.isList hu) (RcNeAt.list_str _ t t1.isList hu), (EqAt.list_str _ t t1.isList hu).eqP, fun z => nomatch z⟩
      · cases ry with
        | tup h3 h4 =>
        obtain ⟨its', rv', ⟨o2, t2a, t2b, k2, t2c⟩, _⟩ := I.tuple h3.sqT
        obtain rfl : u2 = Value.ref _ := qy
        have T2 : s.heap.IsTuple _ its'.toArray := ⟨o2, t2a, t2b, k2, t2c⟩
        have ne := ne_of_list_tuple t1.isList T2
        exact ⟨rcP_of (RcAt.list_tuple t1.isList T2 hu) (RcNeAt.list_tuple t1.isList T2 hu), (EqAt.list_tuple t1.isList T2 hu).eqP, fun z => absurd (by injection z) ne⟩
end
end Rf
namespace Rf
open PySem PySem.Spec PyProof.Rows L2
section
variable {X : Cx} {pins : List (Addr × Obj)} {σ : L2.St} {H : Hp} {s : Shared} {m : List Addr}
mutual
theorem key_is (I : Inv X pins σ H s) : ∀ {d : D} {v : V} {k : NestedKey} {u : Value}, RV X.K H m v d → nkOf d = some k → RelV v u → NestedIs s.heap k u
  | .non, _, _, _, .non, e, r => by
    simp only [nkOf] at e
    cases e
    obtain rfl : _ = _ := r
    exact .none
  | .bl b, _, _, _, .bl _, e, r => by
    simp only [nkOf] at e
    cases e
    obtain rfl : _ = _ := r
    exact .bool rfl
  | .int i, _, _, _, .int _, e, r => by
    simp only [nkOf] at e
    cases e
    obtain ⟨t, rfl⟩ := r
    exact .int _ _
  | .str x, _, _, _, .str _, e, r => by
    simp only [nkOf] at e
    cases e
    obtain ⟨t, rfl⟩ := r
    exact .text _ _
  | .tup ds, _, _, _, .tup h q, e, r => by
    simp only [nkOf] at e
    obtain ⟨ks, e1, rfl⟩ := Option.map_eq_some_iff.mp e
    obtain rfl : _ = _ := r
    obtain ⟨its, rv, ⟨o, g, c, n, dd⟩, _⟩ := I.tuple h.sqT
    exact .tup g c dd (keys_all I q e1 (by simpa using rv))
  | .wtup _, _, _, _, _, e, _ => by simp [nkOf] at e
  | .rol _, _, _, _, _, e, _ => by simp [nkOf] at e
  | .ref _, _, _, _, _, e, _ => by simp [nkOf] at e
theorem keys_all (I : Inv X pins σ H s) : ∀ {ds : List D} {vs : List V} {ks : List NestedKey} {us : List Value}, RVs X.K H m vs ds → nksOf ds = some ks → Vals vs us → NestedAll s.heap ks us
  | [], _, _, _, .nil, e, r => by
    simp only [nksOf] at e
    cases e
    cases r
    exact .nil
  | d :: ds, _, _, _, .cons h q, e, r => by
    simp only [nksOf] at e
    obtain ⟨k, e1, e2⟩ := Option.bind_eq_some_iff.mp e
    obtain ⟨ks, e3, rfl⟩ := Option.map_eq_some_iff.mp e2
    cases r with
    | cons r1 r2 => exact .cons (key_is I h e1 r1) (keys_all I q e3 r2)
end
end
section
variable {X : Cx} {pins : List (Addr × Obj)} {σ : L2.St} {H : Hp} {s : Shared} {m : List Addr} {h : AH} {nm : Nm}
structure DtO (w : World) (K : PySem.W.Frag) (H : Hp) (m : List Addr) (a : Addr) (oe : Obj) (es : Array DictEntry) (ep : Nat) (xs : List (NestedKey × Addr × Value)) (kvs : List (D × D)) : Prop where
  at_ : H a = some (.ext fun h => h.get? a = some oe)
  ns : (a == sysModules) = false
  ex : oe.ExactDict
  da : oe.data = .dict es ep
  en : es.toList = xs.map (fun x => ⟨x.1.hash w, .ref x.2.1, x.2.2⟩)
  nd : (xs.map (·.1)).Nodup
  le : xs.length ≤ sizeLine
  rt : RT K H m xs kvs
theorem the_dt {v : V} {n : Nat} {kvs : List (D × D)} (rh : RH X.K nm H m h) (r : RV X.K H m v (.ref n)) (e : h[n]? = some (.dt kvs)) : ∃ a oe es ep xs, v = .ref a ∧ m[n]? = some a ∧ DtO nm.w X.K H m a oe es ep xs kvs := by
  cases r with
  | ref hm =>
    obtain ⟨oe, es, ep, xs, h1, h2, h3, h4, h5, h6, h7, h8⟩ := rh.ob _ _ _ hm e
    exact ⟨_, oe, es, ep, xs, rfl, hm, h1, h2, h3, h4, h5, h6, h7, h8⟩
theorem rt_keys (I : Inv X pins σ H s) : ∀ {xs : List (NestedKey × Addr × Value)} {kvs : List (D × D)}, RT X.K H m xs kvs → ∀ x ∈ xs, (nestedKind X.prog X.w).is s.heap x.1 x.2.1
  | _, _, .nil, _, hx => by cases hx
  | _, _, .cons h1 h2 h3 _ _ r, x, hx => by
    rcases List.mem_cons.mp hx with rfl | hx
    · exact ⟨key_is I h3 h1 rfl, h2⟩
    · exact rt_keys I r x hx
theorem DtO.dict {a : Addr} {oe : Obj} {es : Array DictEntry} {ep : Nat} {xs : List (NestedKey × Addr × Value)} {kvs : List (D × D)} (I : Inv X pins σ H s) (x : DtO X.w X.K H m a oe es ep xs kvs) : s.heap.DictOfH (nestedKind X.prog X.w) a xs :=
  ⟨oe, es, ep, (I.hok a _ x.at_).1, x.ex, x.da, x.en, rt_keys I x.rt, x.nd⟩
theorem key_at {v : V} {u : Value} {ds : List D} {nk : NestedKey} (I : Inv X pins σ H s) (r : RV X.K H m v (.tup ds)) (e : nkOf (.tup ds) = some nk) (hd : nk.depth ≤ 8) (ru : RelV v u) : ∃ b, v = .ref b ∧ u = .ref b ∧ (nestedKind X.prog X.w).is s.heap nk b := by
  cases r with
  | tup h q =>
    obtain rfl : u = _ := ru
    exact ⟨_, rfl, rfl, key_is I (.tup h q) e rfl, hd⟩
theorem room8 (hu : X.A.units + 65 < cLine) : (nestedKind X.prog X.w).room X.A.in1 := by
  show X.A.in1.units + 8 < cLine
  have : X.A.in1.units = X.A.units + 1 := rfl
  omega
theorem dt_set {Q : Unit → Shared → Prop} {a b n : Nat} {oe : Obj} {es : Array DictEntry} {ep : Nat} {xs : List (NestedKey × Addr × Value)} {kvs : List (D × D)} {k d : D} {v : V} {u : Value} {nk : NestedKey} {E : Value → Shared → Prop} (hu : X.A.units + 65 < cLine) (I : Inv X pins σ H s) (rh : RH X.K nm H m h) (hw : nm.w = X.w)
    (hm : m[n]? = some a) (x : DtO nm.w X.K H m a oe es ep xs kvs) (hk : (nestedKind X.prog X.w).is s.heap nk b) (e1 : nkOf k = some nk) (hd : nk.depth ≤ 8) (rk : RV X.K H m (.ref b) k) (rv : RV X.K H m v d) (ru : RelV v u) (hz : kvs.length < 2 ^ 20)
    (fin : ∀ H' s', Inv X pins σ H' s' → RH X.K nm H' m (h.set n (.dt (putT kvs nk k d))) → Ext H m H' m → Q () s') :
    wpAny (model X.prog X.w) X.A (setItem (.ref a) (.ref b) u) Q E s := by
  rw [hw] at x
  have hl := RT.length x.rt
  refine wpAny_setItem_heap (hsz := x.le) (room8 hu) hk (x.dict I) fun h' hm' hs' => ?_
  obtain ⟨oe', es', ep', g1, g2, g3, g4, g5, g6⟩ := hm'
  have new : ObjOk X.prog X.w (upd H a (.ext fun h => h.get? a = some oe')) h' a (.ext fun h => h.get? a = some oe') := ⟨g1, ⟨oe', g1⟩, fun h1 h2 q1 q2 => q2 _ q1⟩
  have I' := d_write (t' := s.toks + (nestedKind X.prog X.w).draws nk) I (by rw [x.at_]; exact True.intro) hs' ⟨oe', g1⟩ new
  have rt' := rt_put e1 hd rk rv ru x.rt
  have ex : Ext H m (upd H a (.ext fun h => h.get? a = some oe')) m := Ext.write (List.mem_of_getElem? hm) x.at_ (fun _ z => by cases z) (fun _ _ z => by cases z)
  have le' : (storedH xs nk b u).length ≤ sizeLine := by
    unfold storedH
    have sl : (2 : Nat) ^ 20 ≤ sizeLine := by decide
    split
    · simpa using x.le
    · simp; omega
  obtain ⟨r1, r2⟩ := rh.write (ao := .dt (putT kvs nk k d)) (o := .ext fun h => h.get? a = some oe') hm (fun ob w z => by rw [x.at_] at z; cases z) ⟨fun _ z => (by cases z), fun _ _ _ z => (by cases z)⟩
    ⟨oe', es', ep', storedH xs nk b u, upd_same, x.ns, g2, g3, by rw [hw]; exact g4, g6, le', rt'.ext0 ex.to0⟩
  exact fin _ _ I' r1 r2
end
section
variable {X : Cx} {nm : Nm}
theorem tinW_mono {h : AH} {x y : D} {P P' : Bool → Prop} (hp : ∀ b, P b → P' b) : tinW h x y P → tinW h x y P' := fun ⟨ds, nk, n, kvs, a1, a2, a3, a4, a5, q⟩ => ⟨ds, nk, n, kvs, a1, a2, a3, a4, a5, hp _ q⟩
theorem op_tin_ok {neg : Bool} {o : CmpOp} (ho : o = if neg then .NotIn else .In) (hw : nm.w = X.w) (hu : X.A.units + 65 < cLine) : OpR X (compareOp o) (L2' X nm (fun x y h Q => tinW h x y fun b => Q (.bl (if neg then !b else b)) h)) := by
  intro pins s σ H x y v u Q I rx ry hq
  obtain ⟨m, h, d, e, Qa, r1, r2, rh, ⟨ds, nk, n, kvs, rfl, e1, hd, rfl, hn, w⟩, fin⟩ := hq
  obtain ⟨a, oe, es, ep, xs, rfl, hm, x0⟩ := the_dt rh r2 hn
  obtain ⟨b, rfl, rfl, hk⟩ := key_at I r1 e1 hd rx
  obtain rfl : u = Value.ref a := ry
  rw [hw] at x0
  have fin' : ∀ t, EP X pins σ Q (.bool (if neg then !(atKey xs nk).isSome else (atKey xs nk).isSome)) { s with toks := t } := fun t => by
    rw [rt_isSome x0.rt]
    exact ⟨.bl _, H, I.tok _, rfl, fin _ _ _ _ _ (.bl _) rh .refl w⟩
  cases neg with
  | false =>
    have eo : o = .In := ho
    subst eo
    exact wpAny_in_heap (room8 hu) hk x0.ns (x0.dict I) (fin' _)
  | true =>
    have eo : o = .NotIn := ho
    subst eo
    exact wpAny_notIn_heap (room8 hu) hk x0.ns (x0.dict I) (fin' _)
end
end Rf
namespace Rf
open PySem PySem.Spec PyProof.Rows L2
def Bop.op : Bop → Operator
  | .add => .Add
  | .sub => .Sub
  | .mul => .Mult
  | .fdiv => .FloorDiv
  | .mod => .Mod
  | .pow => .Pow
def Cop.op : Cop → CmpOp
  | .lt => .Lt
  | .le => .LtE
  | .gt => .Gt
  | .ge => .GtE
  | .eq => .Eq
  | .ne => .NotEq
  | .isin => .In
  | .notin => .NotIn
  | .isN => .Is
  | .notN => .IsNot
  | .eqd => .Eq
  | .ned => .NotEq
  | .ins => .In
  | .notins => .NotIn
  | .tin => .In
  | .tnotin => .NotIn
  | .eqe => .Eq
  | .nee => .NotEq
  | .net => .NotEq
  | .eqx => .Eq
  | .nex => .NotEq
  | .ind => .In
  | .notind => .NotIn
theorem mkS_len (x : List Nat) : (mkS x).length = x.length := by
  show (mkS x).cps.size = _
  simp [mkS]
theorem mkS_app (x y : List Nat) : mkS x ++ mkS y = mkS (x ++ y) := by
  show (⟨(mkS x).cps ++ (mkS y).cps⟩ : Str) = _
  simp [mkS]
theorem log2_small {j : Int} (h : 0 < j) (hb : j.natAbs < 2 ^ 200) : CDivW i j := wide_div h hb (by decide) (by decide)
section
variable {X : Cx} {nm : Nm}
theorem op_catF : OpR X (binaryOp .Add) (fun x y H Q => ∃ a b xs ys, x = .ref a ∧ y = .ref b ∧ SqT X.K H a xs ∧ SqT X.K H b ys ∧ xs.length + ys.length ≤ sizeLine ∧
    (xs = [] → Q (.ref b) H) ∧ (xs ≠ [] → ys = [] → Q (.ref a) H) ∧ (xs ≠ [] → ys ≠ [] → ∀ p its, H p = none → Q (.ref p) (upd H p (.frz (tO its) (.tup (xs ++ ys)))))) := by
  intro pins s σ H x y v u Q I rx ry h
  obtain ⟨a, b, xs, ys, rfl, rfl, ha, hb, hz, q0, q1, q2⟩ := h
  cases rx
  cases ry
  obtain ⟨its, r1, p1, _⟩ := I.tuple ha
  obtain ⟨its2, r2, p2, _⟩ := I.tuple hb
  by_cases hx : xs = []
  · subst hx
    cases r1
    exact cat_tup0 p1 p2 ⟨.ref b, H, I, rfl, q0 rfl⟩
  · refine HT.cat_tup p1 p2 (fun z => hx (r1.nil_iff.mp z)) (fun z => ⟨.ref a, H, I, rfl, q1 hx (r2.nil_iff.mp z)⟩) (fun z => ?_) (by rw [← r1.length, ← r2.length]; exact hz)
    refine ⟨.ref s.heap.objs.size, _, I.laid (t' := s.toks) (o := .frz (tO (its ++ its2)) (.tup (xs ++ ys))) (fun b ob q => Heap.get?_push_of_some _ q) (Nat.le_refl _) ?_, rfl, q2 hx (fun w => z (r2.nil_iff.mpr w)) _ _ (I.hok.fresh (Nat.le_refl _))⟩
    exact ⟨Heap.get?_push_size _ rfl, by rw [List.length_append]; exact hz, _, r1.append r2, IsTup.new _ _⟩
theorem mk_foldl (a : List Nat) : ∀ (n : Nat) (b : List Nat), (List.replicate n a.toArray).foldl (· ++ ·) b.toArray = (b ++ (List.replicate n a).flatten).toArray
  | 0, b => by simp
  | n + 1, b => by
    rw [List.replicate_succ, List.foldl_cons]
    have e : b.toArray ++ a.toArray = (b ++ a).toArray := by simp
    rw [e, mk_foldl a n (b ++ a), List.replicate_succ, List.flatten_cons, List.append_assoc]
theorem mul_strF {pins : List (Addr × Obj)} {s : Shared} {σ : L2.St} {H : Hp} {a : List Nat} {j : Int} {t u : Tok} {Q : VK} (I : Inv X pins σ H s) (h0 : 0 ≤ j) (h1 : j ≤ 1000) (h2 : a.length ≤ 1000) (q : Q (.str (mkS (List.replicate j.toNat a).flatten)) H) :
    wpAny (model X.prog X.w) X.A (binaryOp .Mult (.str (mkS a) t) (.int j u)) (EP X pins σ Q) X.xe s := by
  have hl : (mkS a).length = a.length := mkS_len a
  have hm : a.length * j.toNat ≤ 1000 * 1000 := Nat.mul_le_mul h2 (by omega)
  have hfl : ((List.replicate j.toNat a).flatten).length = j.toNat * a.length := by simp
  refine PySem.P.mul_str (by rw [decide_eq_false (by omega), decide_eq_false (by omega)]; rfl) (fun hn hx => ?_) (fun hn hx => ?_) ?_
  · rw [hl]
    have : (1000 : Int) ≤ (2 ^ 63 - 1) / j := by
      rw [Int.le_ediv_iff_mul_le (by omega)]
      omega
    omega
  · rw [hl]
    have : sizeLine = 16777216 := by rw [← SZ_line]; rfl
    refine decide_eq_false ?_
    omega
  · split
    · have : j = 0 := by omega
      subst this
      exact ⟨by decide, .str _, H, I.tok _, ⟨_, rfl⟩, q⟩
    · split
      · rename_i hj hx
        have e : mkS (List.replicate j.toNat a).flatten = mkS a := by
          simp only [Bool.or_eq_true, beq_iff_eq, hl] at hx
          rcases hx with rfl | hx
          · simp
          · rw [List.length_eq_zero_iff] at hx
            subst hx
            simp
        rw [e] at q
        exact ⟨.str _, H, I, ⟨_, rfl⟩, q⟩
      · have e : (⟨(List.replicate j.toNat (mkS a).cps).foldl (· ++ ·) #[]⟩ : Str) = mkS (List.replicate j.toNat a).flatten := by
          have := mk_foldl a j.toNat []
          rw [List.nil_append] at this
          show (⟨_⟩ : Str) = ⟨_⟩
          rw [← this]
          rfl
        rw [e]
        refine ⟨?_, .str _, H, I.tok _, ⟨_, rfl⟩, q⟩
        have : sizeLine = 16777216 := by rw [← SZ_line]; rfl
        rw [mkS_len, hfl, Nat.mul_comm]
        omega
theorem RVs.rep {K : PySem.W.Frag} {H : Hp} {m : List Addr} {vs : List V} {ds : List D} (r : RVs K H m vs ds) : ∀ k : Nat, RVs K H m (List.replicate k vs).flatten (List.replicate k ds).flatten
  | 0 => .nil
  | k + 1 => by
    rw [List.replicate_succ, List.replicate_succ, List.flatten_cons, List.flatten_cons]
    exact r.append (RVs.rep r k)
theorem op_bop (op : Bop) (hu : X.A.units + 64 < cLine) : OpR X (binaryOp op.op) (L2' X nm (bopW op)) := by
  intro pins s σ H x y v u Q I rx ry hq
  obtain ⟨m, h, d, e, Qa, r1, r2, rh, w, fin⟩ := hq
  cases op with
  | add =>
    cases r1 with
    | int i => cases r2 with
      | int j => exact op_add pins s σ H _ _ v u Q I rx ry ⟨i, j, rfl, rfl, fin _ _ _ _ _ (.int _) rh .refl w⟩
      | _ => exact w.elim
    | str a => cases r2 with
      | str b =>
        obtain ⟨hz, w⟩ := w
        refine op_add_str pins s σ H _ _ v u Q I rx ry ⟨_, _, rfl, rfl, ?_, ?_⟩
        · rw [mkS_len, mkS_len, ← SZ_line]; exact hz
        · rw [mkS_app]; exact fin _ _ _ _ _ (.str _) rh .refl w
      | _ => exact w.elim
    | @tup a xs ds h1 h2 => cases r2 with
      | @tup b ys es h3 h4 =>
        obtain ⟨hz, w⟩ := w
        refine op_catF pins s σ H _ _ v u Q I rx ry ⟨a, b, xs, ys, rfl, rfl, h1.sqT, h3.sqT, ?_, ?_, ?_, ?_⟩
        · rw [h2.length, h4.length, ← SZ_line]; exact hz
        · rintro rfl
          cases h2
          exact fin _ _ _ _ _ (.tup h3 h4) rh .refl w
        · rintro _ rfl
          cases h4
          exact fin _ _ _ _ _ (.tup h1 (by simpa using h2)) rh .refl w
        · intro _ _ p its hp
          obtain ⟨a1, a2, a3⟩ := new_tup its rh hp (h2.append h4)
          exact fin _ _ _ _ _ a1 a2 a3 w
      | _ => exact w.elim
    | @ref a n h1 => cases r2 with
      | @ref b k h2 =>
        obtain ⟨xs, ys, e1, e2, hz, w⟩ := w
        obtain ⟨a', vs, q1, _, q2, q3⟩ := the_lst rh (.ref h1) e1
        obtain ⟨b', ws, q4, _, q5, q6⟩ := the_lst rh (.ref h2) e2
        cases q1
        cases q4
        refine op_cat pins s σ H _ _ v u Q I rx ry ⟨a, b, vs, ws, rfl, rfl, q2, q5, ?_, fun p hp => ?_⟩
        · rw [q3.length, q6.length, ← SZ_line]; exact hz
        · obtain ⟨a1, a2, a3⟩ := new_lst rh hp (q3.append q6)
          exact fin _ _ _ _ _ a1 a2 a3 w
      | _ => exact w.elim
    | _ => exact w.elim
  | sub =>
    cases r1 with
    | int i => cases r2 with
      | int j => exact op_sub pins s σ H _ _ v u Q I rx ry ⟨i, j, rfl, rfl, fin _ _ _ _ _ (.int _) rh .refl w⟩
      | _ => exact w.elim
    | _ => exact w.elim
  | mul =>
    cases r1 with
    | int i => cases r2 with
      | int j => exact op_mul pins s σ H _ _ v u Q I rx ry ⟨i, j, rfl, rfl, w.1, fin _ _ _ _ _ (.int _) rh .refl w.2⟩
      | _ => exact w.elim
    | str a => cases r2 with
      | int j =>
        obtain ⟨h0, h1, h2, w⟩ := w
        obtain ⟨t, rfl⟩ := rx
        obtain ⟨u', rfl⟩ := ry
        exact mul_strF I h0 h1 h2 (fin _ _ _ _ _ (.str _) rh .refl w)
      | _ => exact w.elim
    | @ref a n h1 => cases r2 with
      | int k =>
        obtain ⟨xs, e1, h2, h3, hz, w⟩ := w
        obtain ⟨a', vs, q1, _, q2, q3⟩ := the_lst rh (.ref h1) e1
        cases q1
        refine op_rep pins s σ H _ _ v u Q I rx ry ⟨a, k, vs, rfl, rfl, q2, h2, h3, ?_, fun p hp => ?_⟩
        · rw [q3.length, ← SZ_line]; exact hz
        · obtain ⟨a1, a2, a3⟩ := new_lst rh hp (q3.rep k.toNat)
          exact fin _ _ _ _ _ a1 a2 a3 w
      | _ => exact w.elim
    | _ => exact w.elim
  | fdiv =>
    cases r1 with
    | int i => cases r2 with
      | int j => exact op_fdivW pins s σ H _ _ v u Q I rx ry ⟨i, j, rfl, rfl, log2_small (i := i) w.1 w.2.1, fin _ _ _ _ _ (.int _) rh .refl w.2.2⟩
      | _ => exact w.elim
    | _ => exact w.elim
  | mod =>
    cases r1 with
    | int i => cases r2 with
      | int j => exact op_mod pins s σ H _ _ v u Q I rx ry ⟨i, j, rfl, rfl, w.1, fin _ _ _ _ _ (.int _) rh .refl w.2⟩
      | _ => exact w.elim
    | _ => exact w.elim
  | pow =>
    cases r1 with
    | int i => cases r2 with
      | int j => exact op_pow pins s σ H _ _ v u Q I rx ry ⟨i, j, rfl, rfl, w.1, fin _ _ _ _ _ (.int _) rh .refl w.2⟩
      | _ => exact w.elim
    | _ => exact w.elim
abbrev cmpB (op : Cop) : D → D → AH → QD → Prop := fun x y h Q => cmpW op x y h fun b => Q (.bl b) h
theorem op_eq_ok {neg : Bool} {o : CmpOp} (ho : o = if neg then .NotEq else .Eq) (hu : X.A.units + 64 < cLine) : OpR X (compareOp o) (L2' X nm (fun x y h Q => eqW h x y fun b => Q (.bl (if neg then !b else b)) h)) := by
  intro pins s σ H x y v u Q I rx ry hq
  obtain ⟨m, h, d, e, Qa, r1, r2, rh, ⟨o1, o2, w⟩, fin⟩ := hq
  have p1 := dp_unl rh r1 o1
  have p2 := dp_unl rh r2 o2
  have s1 := shaped_of (by decide) o1
  have s2 := shaped_of (by decide) o2
  have ee := eqv_py _ _ o1 o2
  cases neg with
  | false =>
    have eo : o = .Eq := ho
    subst eo
    exact op_eqD hu pins s σ H _ _ v u Q I rx ry ⟨_, _, p1, p2, s1, s2, by rw [ee]; exact fin _ _ _ _ _ (.bl _) rh .refl w⟩
  | true =>
    have eo : o = .NotEq := ho
    subst eo
    exact op_neD hu pins s σ H _ _ v u Q I rx ry ⟨_, _, p1, p2, s1, s2, by rw [ee]; exact fin _ _ _ _ _ (.bl _) rh .refl w⟩
theorem op_eqd_ok {neg : Bool} {o : CmpOp} (ho : o = if neg then .NotEq else .Eq) (hu : X.A.units + 64 < cLine) : OpR X (compareOp o) (L2' X nm (fun x y h Q => eqdW h x y fun b => Q (.bl (if neg then !b else b)) h)) := by
  intro pins s σ H x y v u Q I rx ry hq
  obtain ⟨m, h, d, e, Qa, r1, r2, rh, ⟨o1, o2, w⟩, fin⟩ := hq
  have p1 := dp_unlA rh r1 o1
  have p2 := dp_unlA rh r2 o2
  have s1 := shaped_of (by decide) o1
  have s2 := shaped_of (by decide) o2
  have ee := eqv_py _ _ o1 o2
  cases neg with
  | false =>
    have eo : o = .Eq := ho
    subst eo
    exact op_eqD hu pins s σ H _ _ v u Q I rx ry ⟨_, _, p1, p2, s1, s2, by rw [ee]; exact fin _ _ _ _ _ (.bl _) rh .refl w⟩
  | true =>
    have eo : o = .NotEq := ho
    subst eo
    exact op_neD hu pins s σ H _ _ v u Q I rx ry ⟨_, _, p1, p2, s1, s2, by rw [ee]; exact fin _ _ _ _ _ (.bl _) rh .refl w⟩
theorem op_eqe_ok {neg : Bool} {o : CmpOp} (ho : o = if neg then .NotEq else .Eq) (hu : X.A.units + 64 < cLine) : OpR X (compareOp o) (L2' X nm (fun x y h Q => eqeW h x y fun b => Q (.bl (if neg then !b else b)) h)) := by
  intro pins s σ H x y v u Q I rx ry hq
  obtain ⟨m, h, d, e, Qa, r1, r2, rh, ⟨o1, o2, w⟩, fin⟩ := hq
  have p1 := dp_unlB rh r1 o1
  have p2 := dp_unlB rh r2 o2
  have s1 := shaped_of (by decide) o1
  have s2 := shaped_of (by decide) o2
  have ee := eqv_py _ _ o1 o2
  cases neg with
  | false =>
    have eo : o = .Eq := ho
    subst eo
    exact op_eqD hu pins s σ H _ _ v u Q I rx ry ⟨_, _, p1, p2, s1, s2, by rw [ee]; exact fin _ _ _ _ _ (.bl _) rh .refl w⟩
  | true =>
    have eo : o = .NotEq := ho
    subst eo
    exact op_neD hu pins s σ H _ _ v u Q I rx ry ⟨_, _, p1, p2, s1, s2, by rw [ee]; exact fin _ _ _ _ _ (.bl _) rh .refl w⟩
theorem op_eqx_ok {neg : Bool} {o : CmpOp} (ho : o = if neg then .NotEq else .Eq) (hu : X.A.units + 64 < cLine) : OpR X (compareOp o) (L2' X nm (fun x y h Q => ∃ b, AE h 40 x y b ∧ Q (.bl (if neg then !b else b)) h)) := by
  intro pins s σ H x y v u Q I rx ry hq
  obtain ⟨m, h, d, e, Qa, r1, r2, rh, ⟨b, ae, w⟩, fin⟩ := hq
  have rc := (ae_sound I rh 40 X.A (by omega) _ _ _ _ _ _ _ ae r1 r2 rx ry).1
  cases neg with
  | false =>
    have eo : o = .Eq := ho
    subst eo
    exact rc.1 _ _ ⟨.bl _, H, I, rfl, fin _ _ _ _ _ (.bl _) rh .refl w⟩
  | true =>
    have eo : o = .NotEq := ho
    subst eo
    exact rc.2 _ _ ⟨.bl _, H, I, rfl, fin _ _ _ _ _ (.bl _) rh .refl w⟩
theorem op_in_ok {neg : Bool} {o : CmpOp} (ho : o = if neg then .NotIn else .In) (hu : X.A.units + 65 < cLine) : OpR X (compareOp o) (L2' X nm (fun x y h Q => inW h x y fun b => Q (.bl (if neg then !b else b)) h)) := by
  intro pins s σ H x y v u Q I rx ry hq
  obtain ⟨m, h, d, e, Qa, r1, r2, rh, w, fin⟩ := hq
  have gen : (∃ ys, itemsOf h e = some ys ∧ D.ok 60 d = true ∧ D.oks 59 ys = true ∧ Qa (.bl (if neg then !D.mem d ys else D.mem d ys)) h) → wpAny (model X.prog X.w) X.A (compareOp o v u) (EP X pins σ Q) X.xe s := by
    rintro ⟨ys, e1, o1, o2, w⟩
    obtain ⟨a, xs, rfl, hs, rv⟩ := items_of rh r2 e1
    obtain ⟨as, q1⟩ := Dp.reads I _ _ _ (dp_of _ o1 r1) rx
    have hda := dps_of ys o2 rv
    have c1 := (ok_lay _ o1)
    have c2 := (oks_lay _ o2)
    have me := mem_py d o1 ys o2
    have room : X.A.units + 1 + min (PyData.depthAll (D.pys ys)) d.py.depth < cLine := by
      have := Nat.min_le_right (PyData.depthAll (D.pys ys)) d.py.depth
      omega
    have fin' : ∀ b, b = D.mem d ys → EP X pins σ Q (.bool (if neg then !b else b)) s := by
      rintro b rfl
      exact ⟨.bl _, H, I, rfl, fin _ _ _ _ _ (.bl _) rh .refl w⟩
    rcases hs with hs | hs
    · obtain ⟨bs, q2⟩ := Dp.reads I (.list (D.pys ys)) _ _ (.lst hs hda) ry
      cases neg with
      | false =>
        have eo : o = .In := ho
        subst eo
        exact SeqAt.in_list_reads q2 q1 c2.1 c1.1 room (fin' _ me)
      | true =>
        have eo : o = .NotIn := ho
        subst eo
        exact SeqAt.notIn_list_reads q2 q1 c2.1 c1.1 room (fin' _ me)
    · obtain ⟨bs, q2⟩ := Dp.reads I (.tuple (D.pys ys)) _ _ (.tup hs hda) ry
      cases neg with
      | false =>
        have eo : o = .In := ho
        subst eo
        exact SeqAt.in_tuple_reads q2 q1 c2.1 c1.1 room (fin' _ me)
      | true =>
        have eo : o = .NotIn := ho
        subst eo
        exact SeqAt.notIn_tuple_reads q2 q1 c2.1 c1.1 room (fin' _ me)
  cases hd : dictOf h e with
  | some kvs =>
    obtain ⟨a, vs, rfl, hrd, rk⟩ := dict_rd rh r2 hd
    have w' : ∃ k, keyOf d = some k ∧ Qa (.bl (if neg then !(valD kvs k).isSome else (valD kvs k).isSome)) h := by
      have e0 : inW h d e (fun b => Qa (.bl (if neg then !b else b)) h) := w
      unfold inW at e0
      split at e0
      · simp [dictOf] at hd
      · rw [hd] at e0; exact e0
    obtain ⟨k, hk, q⟩ := w'
    have ex := key_rv r1 hk
    subst ex
    have hv : (valV vs (toK k)).isSome = (valD kvs k).isSome := by
      rcases rk.val k with ⟨h1, h2⟩ | ⟨v1, d1, h1, h2, _⟩ <;> rw [h1, h2] <;> rfl
    cases ry
    cases neg with
    | false =>
      have eo : o = .In := ho
      subst eo
      exact d_in (by omega) I (DGet.rd hrd) rx fun s' I' => ⟨.bl _, H, I', rfl, by rw [hv]; exact fin _ _ _ _ _ (.bl _) rh .refl q⟩
    | true =>
      have eo : o = .NotIn := ho
      subst eo
      exact d_notIn (by omega) I (DGet.rd hrd) rx fun s' I' => ⟨.bl _, H, I', rfl, by rw [hv]; exact fin _ _ _ _ _ (.bl _) rh .refl q⟩
  | none =>
  by_cases hs : ∃ c b, d = .str [c] ∧ e = .str b
  · obtain ⟨c, b, rfl, rfl⟩ := hs
    cases r1
    cases r2
    have w' : Qa (.bl (if neg then !decide (c ∈ b) else decide (c ∈ b))) h := w
    have eb : (!(Builtin.Str.occurrences (mkS b) (mkS [c]) 0 (mkS b).length 1).isEmpty) = decide (c ∈ b) := SX.in_one b c
    cases neg with
    | false =>
      have eo : o = .In := ho
      subst eo
      exact op_in_str pins s σ H _ _ v u Q I rx ry ⟨_, _, rfl, rfl, by rw [eb]; exact fin _ _ _ _ _ (.bl _) rh .refl w'⟩
    | true =>
      have eo : o = .NotIn := ho
      subst eo
      exact op_notin_str pins s σ H _ _ v u Q I rx ry ⟨_, _, rfl, rfl, by rw [eb]; exact fin _ _ _ _ _ (.bl _) rh .refl w'⟩
  · refine gen ?_
    have e0 : inW h d e (fun b => Qa (.bl (if neg then !b else b)) h) := w
    unfold inW at e0
    split at e0
    · exact absurd ⟨_, _, rfl, rfl⟩ hs
    · rw [hd] at e0; exact e0
theorem op_ind_ok {neg : Bool} {o : CmpOp} (ho : o = if neg then .NotIn else .In) (hu : X.A.units + 65 < cLine) : OpR X (compareOp o) (L2' X nm (fun x y h Q => indW h x y fun b => Q (.bl (if neg then !b else b)) h)) := by
  intro pins s σ H x y v u Q I rx ry hq
  obtain ⟨m, h, d, e, Qa, r1, r2, rh, ⟨ys, e1, o1, o2, w⟩, fin⟩ := hq
  obtain ⟨a, xs, rfl, hs, rv⟩ := items_of rh r2 e1
  obtain ⟨as, q1⟩ := Dp.reads I _ _ _ (dp_unl rh r1 o1) rx
  have hda := dps_unl rh ys o2 rv
  have c1 := (ok_lay _ o1)
  have c2 := (oks_lay _ o2)
  have me := mem_py (unl h d) o1 (ys.map (unl h)) o2
  have room : X.A.units + 1 + min (PyData.depthAll (D.pys (ys.map (unl h)))) (unl h d).py.depth < cLine := by
    have := Nat.min_le_right (PyData.depthAll (D.pys (ys.map (unl h)))) (unl h d).py.depth
    omega
  have fin' : ∀ b, b = D.mem (unl h d) (ys.map (unl h)) → EP X pins σ Q (.bool (if neg then !b else b)) s := by
    rintro b rfl
    exact ⟨.bl _, H, I, rfl, fin _ _ _ _ _ (.bl _) rh .refl w⟩
  rcases hs with hs | hs
  · obtain ⟨bs, q2⟩ := Dp.reads I (.list (D.pys (ys.map (unl h)))) _ _ (.lst hs hda) ry
    cases neg with
    | false =>
      have eo : o = .In := ho
      subst eo
      exact SeqAt.in_list_reads q2 q1 c2.1 c1.1 room (fin' _ me)
    | true =>
      have eo : o = .NotIn := ho
      subst eo
      exact SeqAt.notIn_list_reads q2 q1 c2.1 c1.1 room (fin' _ me)
  · obtain ⟨bs, q2⟩ := Dp.reads I (.tuple (D.pys (ys.map (unl h)))) _ _ (.tup hs hda) ry
    cases neg with
    | false =>
      have eo : o = .In := ho
      subst eo
      exact SeqAt.in_tuple_reads q2 q1 c2.1 c1.1 room (fin' _ me)
    | true =>
      have eo : o = .NotIn := ho
      subst eo
      exact SeqAt.notIn_tuple_reads q2 q1 c2.1 c1.1 room (fin' _ me)
theorem op_cop (op : Cop) (hn : op ≠ .isN ∧ op ≠ .notN) (hw : nm.w = X.w) (hu : X.A.units + 65 < cLine) : OpR X (compareOp op.op) (L2' X nm (cmpB op)) := by
  have int2 : ∀ {o : CmpOp} {p : Int → Int → Bool}, OpR X (compareOp o) (rI0 fun i j => .bl (p i j)) → (∀ d e h Q, cmpB op d e h Q → (∃ i j, d = .int i ∧ e = .int j ∧ Q (.bl (p i j)) h) ∨ (op = .lt ∧ ∃ a b, d = .str a ∧ e = .str b)) → op.op = o → (op = .lt → o = .Lt) → OpR X (compareOp op.op) (L2' X nm (cmpB op)) := by
    intro o p ho hc eo hl pins s σ H x y v u Q I rx ry hq
    rw [eo]
    obtain ⟨m, h, d, e, Qa, r1, r2, rh, w, fin⟩ := hq
    rcases hc d e h Qa w with ⟨i, j, rfl, rfl, q⟩ | ⟨rfl, a, b, rfl, rfl⟩
    · cases r1
      cases r2
      exact ho pins s σ H _ _ v u Q I rx ry ⟨i, j, rfl, rfl, fin _ _ _ _ _ (.bl _) rh .refl q⟩
    · cases r1
      cases r2
      obtain rfl := hl rfl
      exact op_lt_str pins s σ H _ _ v u Q I rx ry ⟨_, _, rfl, rfl, fin _ _ _ _ _ (.bl _) rh .refl w⟩
  cases op with
  | lt => exact int2 op_lt (fun d e h Q w => by
      cases d <;> cases e <;> first | exact w.elim | exact .inl ⟨_, _, rfl, rfl, w⟩ | exact .inr ⟨rfl, _, _, rfl, rfl⟩) rfl (fun _ => rfl)
  | le => exact int2 op_le (fun d e h Q w => by
      cases d <;> cases e <;> first | exact w.elim | exact .inl ⟨_, _, rfl, rfl, w⟩) rfl (fun z => by cases z)
  | gt => exact int2 op_gt (fun d e h Q w => by
      cases d <;> cases e <;> first | exact w.elim | exact .inl ⟨_, _, rfl, rfl, w⟩) rfl (fun z => by cases z)
  | ge => exact int2 op_ge (fun d e h Q w => by
      cases d <;> cases e <;> first | exact w.elim | exact .inl ⟨_, _, rfl, rfl, w⟩) rfl (fun z => by cases z)
  | eq => exact op_eq_ok (neg := false) rfl (by omega)
  | ne => exact op_eq_ok (neg := true) rfl (by omega)
  | eqd => exact op_eqd_ok (neg := false) rfl (by omega)
  | ned => exact op_eqd_ok (neg := true) rfl (by omega)
  | ins => exact op_ins_ok (neg := false) rfl hu
  | notins => exact op_ins_ok (neg := true) rfl hu
  | tin => exact op_tin_ok (neg := false) rfl hw hu
  | tnotin => exact op_tin_ok (neg := true) rfl hw hu
  | eqe => exact op_eqe_ok (neg := false) rfl (by omega)
  | nee => exact op_eqe_ok (neg := true) rfl (by omega)
  | eqx => exact op_eqx_ok (neg := false) rfl (by omega)
  | nex => exact op_eqx_ok (neg := true) rfl (by omega)
  | net =>
    intro pins s σ H x y v u Q I rx ry hq
    obtain ⟨m, h, d, e, Qa, r1, r2, rh, w, fin⟩ := hq
    cases r1 <;> first | exact w.elim | skip
    cases r2 <;> first | exact w.elim | skip
    obtain ⟨t1, rfl⟩ := rx
    obtain ⟨t2, rfl⟩ := ry
    rename_i a b
    refine PySem.P.ne_str ⟨.bl (decide (a ≠ b)), H, I, ?_, fin _ _ _ _ _ (.bl _) rh .refl w⟩
    show Value.bool _ = Value.bool _
    congr 1
    show (!(a == b)) = decide (a ≠ b)
    by_cases e : a = b
    · subst e; simp
    · rw [beq_eq_false_iff_ne.mpr e, decide_eq_true e]; rfl
  | ind => exact op_ind_ok (neg := false) rfl hu
  | notind => exact op_ind_ok (neg := true) rfl hu
  | isin => exact op_in_ok (neg := false) rfl hu
  | notin => exact op_in_ok (neg := true) rfl hu
  | isN => exact absurd rfl hn.1
  | notN => exact absurd rfl hn.2
theorem op_isN_ok : OpR X (compareOp .Is) (L2' X nm (cmpB .isN)) := by
  intro pins s σ H x y v u Q I rx ry hq
  obtain ⟨m, h, d, e, Qa, r1, r2, rh, w, fin⟩ := hq
  cases r2 with
  | non =>
    refine op_isN pins s σ H _ _ v u Q I rx ry ⟨rfl, ?_⟩
    have e : (decide (x = .non)) = d.isN := by cases r1 <;> simp [D.isN]
    rw [e]
    exact fin _ _ _ _ _ (.bl _) rh .refl w
  | bl b =>
    cases r1 with
    | bl a =>
      cases (show v = Value.bool a from rx)
      cases (show u = Value.bool b from ry)
      have q := fin _ _ _ _ _ (.bl _) rh .refl w
      by_cases e : a = b
      · subst e
        exact wpAny_is_self rfl ⟨.bl true, H, I, rfl, by simpa using q⟩
      · exact wpAny_is_other rfl (fun z => e (Value.bool.inj z)) ⟨.bl false, H, I, rfl, by simpa [e] using q⟩
    | _ => exact w.elim
  | _ => cases r1 <;> exact w.elim
theorem op_notN_ok : OpR X (compareOp .IsNot) (L2' X nm (cmpB .notN)) := by
  intro pins s σ H x y v u Q I rx ry hq
  obtain ⟨m, h, d, e, Qa, r1, r2, rh, w, fin⟩ := hq
  cases r2 with
  | non =>
    refine op_notN pins s σ H _ _ v u Q I rx ry ⟨rfl, ?_⟩
    have e : (!decide (x = .non)) = (!d.isN) := by cases r1 <;> simp [D.isN]
    rw [e]
    exact fin _ _ _ _ _ (.bl _) rh .refl w
  | bl b =>
    cases r1 with
    | bl a =>
      cases (show v = Value.bool a from rx)
      cases (show u = Value.bool b from ry)
      have q := fin _ _ _ _ _ (.bl _) rh .refl w
      by_cases e : a = b
      · subst e
        exact wpAny_isNot_self rfl ⟨.bl false, H, I, rfl, by simpa using q⟩
      · exact wpAny_isNot_other rfl (fun z => e (Value.bool.inj z)) ⟨.bl true, H, I, rfl, by simpa [e] using q⟩
    | _ => exact w.elim
  | _ => cases r1 <;> exact w.elim
theorem op_cmp (op : Cop) (hw : nm.w = X.w) (hu : X.A.units + 65 < cLine) : OpR X (compareOp op.op) (L2' X nm (cmpB op)) := by
  by_cases h1 : op = .isN
  · subst h1; exact op_isN_ok
  · by_cases h2 : op = .notN
    · subst h2; exact op_notN_ok
    · exact op_cop op ⟨h1, h2⟩ hw hu
end
end Rf
namespace Rf
open PySem PySem.Spec PyProof.Rows L2
section
variable {X : Cx} {nm : Nm}
theorem atI_RV {K : PySem.W.Frag} {H : Hp} {m : List Addr} {xs : List V} {ds : List D} {i : Int} {d : D} (r : RVs K H m xs ds) (e : atI ds i = some d) : ∃ v, atI xs i = some v ∧ RV K H m v d := by
  unfold atI at e ⊢
  rw [r.length]
  cases q : ixN ds.length i with
  | none => rw [q] at e; cases e
  | some j =>
    rw [q] at e
    obtain ⟨v, h1, h2⟩ := r.get (show ds[j]? = some d from e)
    exact ⟨v, h1, h2⟩
theorem ix_ok (hu : X.A.units + 1 < cLine) : IxR X (L2' X nm (fun x y h Q => idxW h x y fun d => Q d h)) := by
  intro e1 e2 pins s σ H x y v u Q I rx ry hq hp
  obtain ⟨m, h, d, e, Qa, r1, r2, rh, w, fin⟩ := hq
  have dkc : ∀ {a : Addr} {n : Nat} (kvs : List (Kd × D)), x = .ref a → RV X.K H m (.ref a) (.ref n) → getK h n = some kvs → (∃ k d, keyOf e = some k ∧ valD kvs k = some d ∧ Qa d h) → wpAny (model X.prog X.w) X.A (subscriptTail e1 e2 v u) (EP X pins σ Q) X.xe s := by
    intro a n kvs ex r1' hk w'
    subst ex
    obtain ⟨a', vs, ea, _, hrd, rk⟩ := rd_dk rh r1' hk
    cases ea
    obtain ⟨k, d1, ke, kv, q⟩ := w'
    have ey := key_rv r2 ke
    subst ey
    rcases rk.val k with ⟨_, h2⟩ | ⟨v1, d2, h1, h2, rv1⟩
    · rw [kv] at h2; cases h2
    · rw [kv] at h2; cases h2
      cases rx
      have g : DGet H a (kV (toK k)) (some v1) := by rw [← h1]; exact DGet.rd hrd
      refine tail_any (ops := [.ref a, u]) (dict_typeIs I g) PySem.F.slot_dict_getitem.lookup ?_ hp
      exact d_getItem hu I g ry fun w' s' I' rw' => ⟨v1, H, I', rw', fin _ _ _ _ _ rv1 rh .refl q⟩
  cases r2 with
  | int i =>
    cases r1 with
    | @tup a xs ds h1 h2 =>
      obtain ⟨d, e1, q⟩ := w
      obtain ⟨z, e2, rz⟩ := atI_RV h2 e1
      exact ix_tup _ _ pins s σ H _ _ v u Q I rx ry ⟨a, xs, i, z, rfl, rfl, h1.sqT, e2, fin _ _ _ _ _ rz rh .refl q⟩ hp
    | @rol a xs ds h1 h2 =>
      obtain ⟨d, e1, q⟩ := w
      obtain ⟨z, e2, rz⟩ := atI_RV h2 e1
      exact ix_list _ _ pins s σ H _ _ v u Q I rx ry ⟨a, xs, i, z, rfl, rfl, h1.sq, e2, fin _ _ _ _ _ rz rh .refl q⟩ hp
    | str x =>
      obtain ⟨hz, c, e1, q⟩ := w
      refine ix_str _ _ pins s σ H _ _ v u Q I rx ry ⟨mkS x, i, c, rfl, rfl, by rw [mkS_len, ← SZ_line]; exact hz, by simpa [mkS] using e1, ?_⟩ hp
      exact fin _ _ _ _ _ (.str [c]) rh .refl q
    | @ref a n h1 =>
      simp only [idxW] at w
      cases hk : getK h n with
      | some kvs => rw [hk] at w; exact dkc kvs rfl (.ref h1) hk w
      | none =>
        rw [hk] at w
        obtain ⟨xs, i', d, e1, ei, e2, q⟩ := w
        cases ei
        obtain ⟨a', vs, q1, _, q2, q3⟩ := the_lst rh (.ref h1) e1
        cases q1
        obtain ⟨z, e3, rz⟩ := atI_RV q3 e2
        exact ix_list _ _ pins s σ H _ _ v u Q I rx ry ⟨a, vs, i, z, rfl, rfl, SqL.of q2, e3, fin _ _ _ _ _ rz rh .refl q⟩ hp
    | _ => exact w.elim
  | _ =>
    cases r1 with
    | @ref a n h1 =>
      simp only [idxW] at w
      cases hk : getK h n with
      | some kvs => rw [hk] at w; exact dkc kvs rfl (.ref h1) hk w
      | none =>
        rw [hk] at w
        obtain ⟨xs, i', d, e1, ei, e2, q⟩ := w
        cases ei
    | _ => exact w.elim
theorem cut_RV {K : PySem.W.Frag} {H : Hp} {m : List Addr} {xs : List V} {ds : List D} (lo hi : Option Int) (r : RVs K H m xs ds) : RVs K H m (cutV xs lo hi) (cut ds lo hi) := by
  unfold cutV cut
  rw [r.length]
  exact (r.drop _).take _
theorem cut_all {α : Type} {xs : List α} {lo hi : Option Int} (h : HT.sIx xs.length 0 lo = 0 ∧ HT.sIx xs.length xs.length hi = xs.length) : cut xs lo hi = xs := by
  unfold cut
  rw [h.1, h.2]
  simp
def LSl (X : Cx) (nm : Nm) : V → Option Int → Option Int → Hp → VK → Prop := fun x lo hi H Q =>
  ∃ m h d Qa, RV X.K H m x d ∧ RH X.K nm H m h ∧ slcW h d lo hi Qa ∧ ∀ v H' m' d' h', RV X.K H' m' v d' → RH X.K nm H' m' h' → Ext H m H' m' → Qa d' h' → Q v H'
theorem sl_tupF : SlR X (fun x lo hi H Q => ∃ a xs, x = .ref a ∧ SqT X.K H a xs ∧
    (HT.sIx xs.length 0 lo = 0 ∧ HT.sIx xs.length xs.length hi = xs.length → Q (.ref a) H) ∧ (¬ (HT.sIx xs.length 0 lo = 0 ∧ HT.sIx xs.length xs.length hi = xs.length) → ∀ p its, H p = none → Q (.ref p) (upd H p (.frz (tO its) (.tup (cutV xs lo hi)))))) := by
  intro pins s σ H x v vl vu lo hi sl Q I rx hs pl pu h
  obtain ⟨a, xs, rfl, hx, q1, q2⟩ := h
  cases rx
  obtain ⟨its, r, ht, hz⟩ := I.tuple hx
  have hlen : its.toArray.size = xs.length := by rw [List.size_toArray]; exact r.length.symm
  refine ⟨"tuple", _, PyProof.Rows.slot_tuple_getitem.lookup, ht.typeIs, ?_⟩
  by_cases hw : HT.sIx xs.length 0 lo = 0 ∧ HT.sIx xs.length xs.length hi = xs.length
  · exact getItem_tuple_whole ht hs pl pu (by rw [hlen]; exact hw) ⟨.ref a, H, I, rfl, q1 hw⟩
  · refine HT.getItem_tuple_cut ht hs pl pu (by rw [hlen]; exact hw) ?_ (by rw [hlen]; exact hz)
    rw [hlen]
    refine ⟨.ref s.heap.objs.size, _, I.laid (t' := s.toks) (o := .frz (tO ((its.toArray.toList.drop (HT.sIx xs.length 0 lo)).take (HT.sIx xs.length xs.length hi - HT.sIx xs.length 0 lo))) (.tup (cutV xs lo hi))) (fun b ob q => Heap.get?_push_of_some _ q) (Nat.le_refl _) ?_, rfl, q2 hw _ _ (I.hok.fresh (Nat.le_refl _))⟩
    exact ⟨Heap.get?_push_size _ rfl, Nat.le_trans (cutV_length xs lo hi) hz, _, (r.drop (HT.sIx xs.length 0 lo)).take (HT.sIx xs.length xs.length hi - HT.sIx xs.length 0 lo), IsTup.new _ _⟩
theorem call_tupleF : CallR X (.type "tuple") (fun xs H Q => ∃ p ys, xs = [.ref p] ∧ ((SqL X.K H p ys ∧ ∀ l its, H l = none → Q (.ref l) (upd H l (.frz (tO its) (.tup ys)))) ∨ (SqT X.K H p ys ∧ Q (.ref p) H))) := by
  intro pins s σ H xs us Q I r h
  obtain ⟨p, ys, rfl, h⟩ := h
  obtain ⟨u, rfl, rx⟩ := vals1 r
  cases rx
  rcases h with ⟨hq, q⟩ | ⟨hq, q⟩
  · obtain ⟨its, r', pl, hz⟩ := I.list hq
    have hlen := r'.length
    refine call_tuple_list pl.isList (fun h' kp => ?_) (by simp only [List.size_toArray] <;> omega)
    have I1 : Inv X pins σ H { s with heap := h' } := I.kept (t' := s.toks) kp
    have I2 : Inv X pins σ (upd H h'.objs.size (.frz (tO its) (.tup ys))) { s with heap := h'.push { cls := .type "tuple", data := .seq its.toArray } } :=
      I1.laid (t' := s.toks) (fun b o e => Heap.get?_push_of_some _ e) (Nat.le_refl _) (show ObjOk X.prog X.w _ _ _ (.frz (tO its) (.tup ys)) from ⟨Heap.get?_push_size _ rfl, hz, its, r', IsTup.new _ _⟩)
    exact ⟨.ref h'.objs.size, _, I2, rfl, q _ _ (I1.hok.fresh (Nat.le_refl _))⟩
  · obtain ⟨its, r', pl, hz⟩ := I.tuple hq
    exact call_tuple_same pl ⟨.ref p, H, I, rfl, q⟩
theorem sl_ok : SlR X (LSl X nm) := by
  intro pins s σ H x v vl vu lo hi sl Q I rx hs pl pu hq
  obtain ⟨m, h, d, Qa, r1, rh, w, fin⟩ := hq
  cases r1 with
  | @tup a xs ds h1 h2 =>
    refine sl_tupF pins s σ H _ v vl vu lo hi sl Q I rx hs pl pu ⟨a, xs, rfl, h1.sqT, fun hw => ?_, fun _ p its hp => ?_⟩
    · rw [h2.length] at hw
      have w' : Qa (.tup (cut ds lo hi)) h := w
      rw [cut_all hw] at w'
      exact fin _ _ _ _ _ (.tup h1 h2) rh .refl w'
    · obtain ⟨a1, a2, a3⟩ := new_tup its rh hp (cut_RV lo hi h2)
      exact fin _ _ _ _ _ a1 a2 a3 w
  | @rol a xs ds h1 h2 =>
    refine sl_list pins s σ H _ v vl vu lo hi sl Q I rx hs pl pu ⟨a, xs, rfl, h1.sq, fun p hp => ?_⟩
    obtain ⟨a1, a2, a3⟩ := new_lst rh hp (cut_RV lo hi h2)
    exact fin _ _ _ _ _ a1 a2 a3 w
  | str x =>
    obtain ⟨hz, w⟩ := w
    refine sl_str pins s σ H _ v vl vu lo hi sl Q I rx hs pl pu ⟨_, rfl, by rw [mkS_len, ← SZ_line]; exact hz, ?_⟩
    have e : cutS (mkS x) lo hi = mkS (cut x lo hi) := by
      unfold cutS cut
      rw [mkS_len]
      rfl
    rw [e]
    exact fin _ _ _ _ _ (.str _) rh .refl w
  | @ref a n h1 =>
    obtain ⟨xs, e1, w⟩ := w
    obtain ⟨a', vs, q1, _, q2, q3⟩ := the_lst rh (.ref h1) e1
    cases q1
    refine sl_list pins s σ H _ v vl vu lo hi sl Q I rx hs pl pu ⟨a, vs, rfl, SqL.of q2, fun p hp => ?_⟩
    obtain ⟨a1, a2, a3⟩ := new_lst rh hp (cut_RV lo hi q3)
    exact fin _ _ _ _ _ a1 a2 a3 w
  | _ => exact w.elim
def LB (X : Cx) (nm : Nm) (r : List D → AH → QD → Prop) : List V → Hp → VK → Prop := fun xs H Q =>
  ∃ m h ds Qa, RVs X.K H m xs ds ∧ RH X.K nm H m h ∧ r ds h Qa ∧ ∀ v H' m' d' h', RV X.K H' m' v d' → RH X.K nm H' m' h' → Ext H m H' m' → Qa d' h' → Q v H'
theorem rvs1 {K : PySem.W.Frag} {H : Hp} {m : List Addr} {xs : List V} {d : D} (r : RVs K H m xs [d]) : ∃ v, xs = [v] ∧ RV K H m v d := by
  cases r with
  | cons h t => cases t; exact ⟨_, rfl, h⟩
theorem rvs2 {K : PySem.W.Frag} {H : Hp} {m : List Addr} {xs : List V} {d e : D} (r : RVs K H m xs [d, e]) : ∃ v w, xs = [v, w] ∧ RV K H m v d ∧ RV K H m w e := by
  cases r with
  | cons h t => cases t with
    | cons h' t' => cases t'; exact ⟨_, _, rfl, h, h'⟩
theorem rv_int {K : PySem.W.Frag} {H : Hp} {m : List Addr} {v : V} {i : Int} (r : RV K H m v (.int i)) : v = .int i := by cases r; rfl
theorem rv_bl {K : PySem.W.Frag} {H : Hp} {m : List Addr} {v : V} {i : Bool} (r : RV K H m v (.bl i)) : v = .bl i := by cases r; rfl
theorem rv_str {K : PySem.W.Frag} {H : Hp} {m : List Addr} {v : V} {x : List Nat} (r : RV K H m v (.str x)) : v = .str (mkS x) := by cases r; rfl
theorem vals_of_mkS {K : PySem.W.Frag} {H : Hp} {m : List Addr} : ∀ {bs : List (List Nat)} {xs : List V}, RVs K H m xs (bs.map D.str) → xs = bs.map fun x => V.str (mkS x)
  | [], _, r => by cases r; rfl
  | b :: bs, _, r => by
    cases r with
    | cons h t =>
      cases h
      rw [vals_of_mkS t]; rfl
theorem hold_mkS {h : Heap} : ∀ {xs : List Str} {us : List Value}, Vals (xs.map V.str) us → PySem.W.HoldAll h us xs
  | [], _, r => by cases r; exact .nil
  | x :: xs, _, r => by
    cases r with
    | cons q t =>
      obtain ⟨tk, rfl⟩ := q
      exact .cons (PySem.W.holds_str x tk) (hold_mkS t)
theorem foldl_least (f : Str → Str → Bool) (hf : ∀ a b, f a b = decide (a.cps.toList < b.cps.toList)) : ∀ (xs : List Str) (x : Str),
    xs.foldl (fun a y => if f y a = true then y else a) x ∈ x :: xs ∧ ∀ a ∈ x :: xs, (xs.foldl (fun a y => if f y a = true then y else a) x).cps.toList ≤ a.cps.toList := by
  intro xs
  induction xs with
  | nil => intro x; exact ⟨List.mem_cons_self, fun a h => by rw [List.mem_singleton.mp h]; exact List.le_refl _⟩
  | cons y ys ih =>
    intro x
    simp only [List.foldl_cons]
    obtain ⟨h1, h2⟩ := ih (if f y x = true then y else x)
    constructor
    · rcases List.mem_cons.mp h1 with h | h
      · rw [h]; split <;> simp
      · exact List.mem_cons_of_mem _ (List.mem_cons_of_mem _ h)
    · intro a ha
      have h3 := h2 _ List.mem_cons_self
      rcases List.mem_cons.mp ha with rfl | ha
      · refine List.le_trans h3 ?_
        by_cases hb : f y a = true
        · rw [if_pos hb]
          rw [hf, decide_eq_true_eq] at hb
          exact List.le_of_lt hb
        · rw [if_neg hb]; exact List.le_refl _
      · rcases List.mem_cons.mp ha with rfl | ha
        · refine List.le_trans h3 ?_
          by_cases hb : f a x = true
          · rw [if_pos hb]; exact List.le_refl _
          · rw [if_neg hb]
            rw [hf, decide_eq_true_eq] at hb
            exact List.not_lt.mp hb
        · exact h2 a (List.mem_cons_of_mem _ ha)
theorem rvs_bl {K : PySem.W.Frag} {H : Hp} {m : List Addr} : ∀ {bs : List Bool} {xs : List V}, RVs K H m xs (bs.map D.bl) → xs = bs.map V.bl
  | [], _, r => by cases r; rfl
  | b :: bs, _, r => by
    cases r with
    | cons h t => rw [rv_bl h, rvs_bl t]; rfl
theorem rvs_int {K : PySem.W.Frag} {H : Hp} {m : List Addr} : ∀ {bs : List Int} {xs : List V}, RVs K H m xs (bs.map D.int) → xs = bs.map V.int
  | [], _, r => by cases r; rfl
  | b :: bs, _, r => by
    cases r with
    | cons h t => rw [rv_int h, rvs_int t]; rfl
theorem RV.int' {K : PySem.W.Frag} {H : Hp} {m : List Addr} {i j : Int} (e : i = j) : RV K H m (.int i) (.int j) := by subst e; exact .int _
def Bf.id : Bf → String
  | .len => "len"
  | .abs => "abs"
  | .min2 => "min"
  | .max2 => "max"
  | .minl => "min"
  | .maxl => "max"
  | .int => "int"
  | .str => "str"
  | .tuple => "tuple"
  | .list => "list"
  | .sorted => "sorted"
  | .all => "all"
  | .any => "any"
  | .sum => "sum"
  | .dnew => "dict"
  | .lenT => "len"
  | .repr => "repr"
theorem bf_len : CallR X (.builtin "len") (LB X nm fun ds h Q => bfW h .len ds Q) := by
  intro pins s σ H xs us Q I rv hq
  obtain ⟨m, h, ds, Qa, r, rh, w, fin⟩ := hq
  match ds, w with
  | [d], w =>
    obtain ⟨v, rfl, rv1⟩ := rvs1 r
    have gen : (∃ ys, itemsOf h d = some ys ∧ Qa (.int ys.length) h) → wpAny (model X.prog X.w) X.A (call (.builtin "len") us) (EP X pins σ Q) X.xe s := by
      rintro ⟨ys, e, q⟩
      obtain ⟨a, zs, rfl, hs, rz⟩ := items_of rh rv1 e
      refine call_len_seq pins s σ H _ us Q I rv ⟨a, zs, rfl, hs, ?_⟩
      exact fin _ _ _ _ _ (.int' (by rw [rz.length])) rh .refl q
    have dkc : ∀ kvs, dictOf h d = some kvs → Qa (.int kvs.length) h → wpAny (model X.prog X.w) X.A (call (.builtin "len") us) (EP X pins σ Q) X.xe s := by
      intro kvs hk q
      obtain ⟨a, vs, rfl, hrd, rk⟩ := dict_rd rh rv1 hk
      obtain ⟨u, rfl, ru⟩ := vals1 rv
      cases ru
      exact d_len I hrd fun t s' I' => ⟨.int _, H, I', ⟨t, rfl⟩, fin _ _ _ _ _ (.int' (by rw [rk.length])) rh .refl q⟩
    have gen' : (match dictOf h d with | some kvs => Qa (.int kvs.length) h | none => ∃ xs, itemsOf h d = some xs ∧ Qa (.int xs.length) h) → wpAny (model X.prog X.w) X.A (call (.builtin "len") us) (EP X pins σ Q) X.xe s := by
      intro w'
      cases hk : dictOf h d with
      | some kvs => rw [hk] at w'; exact dkc kvs hk w'
      | none => rw [hk] at w'; exact gen w'
    cases d with
    | str x =>
      obtain ⟨hz, q⟩ := w
      rw [rv_str rv1] at rv
      refine call_len_str pins s σ H _ us Q I rv ⟨_, rfl, by rw [mkS_len, ← SZ_line]; exact hz, ?_⟩
      exact fin _ _ _ _ _ (.int' (by rw [mkS_len])) rh .refl q
    | _ => exact gen' w
theorem bf_lenT (hw : nm.w = X.w) : CallR X (.builtin "len") (LB X nm fun ds h Q => bfW h .lenT ds Q) := by
  intro pins s σ H xs us Q I rv hq
  obtain ⟨m, h, ds, Qa, r, rh, w, fin⟩ := hq
  match ds, w with
  | [.ref n], ⟨kvs, hn, q⟩ =>
    obtain ⟨v, rfl, rv1⟩ := rvs1 r
    obtain ⟨a, oe, es, ep, xs, rfl, hm, x0⟩ := the_dt rh rv1 hn
    obtain ⟨u, rfl, ru⟩ := vals1 rv
    obtain rfl : u = Value.ref a := ru
    rw [hw] at x0
    refine call_len_dictH x0.ns (x0.dict I) (by have := x0.le; rw [sizeLine_eq] at this; omega) ?_
    exact ⟨.int _, H, I.tok _, ⟨_, rfl⟩, fin _ _ _ _ _ (.int' (by rw [x0.rt.length])) rh .refl q⟩
theorem bf_abs : CallR X (.builtin "abs") (LB X nm fun ds h Q => bfW h .abs ds Q) := by
  intro pins s σ H xs us Q I rv hq
  obtain ⟨m, h, ds, Qa, r, rh, w, fin⟩ := hq
  match ds, w with
  | [.int i], w =>
    obtain ⟨v, rfl, rv1⟩ := rvs1 r
    obtain rfl := rv_int rv1
    exact call_abs pins s σ H _ us Q I rv ⟨i, rfl, fin _ _ _ _ _ (.int _) rh .refl w⟩
theorem bf_min2 (hc : X.calm = true) : CallR X (.builtin "min") (LB X nm fun ds h Q => bfW h .min2 ds Q) := by
  intro pins s σ H xs us Q I rv hq
  obtain ⟨m, h, ds, Qa, r, rh, w, fin⟩ := hq
  match ds, w with
  | [.int i, .int j], w =>
    obtain ⟨v, v', rfl, rv1, rv2⟩ := rvs2 r
    obtain rfl := rv_int rv1
    obtain rfl := rv_int rv2
    exact call_min2 hc pins s σ H _ us Q I rv ⟨i, j, rfl, fin _ _ _ _ _ (.int _) rh .refl w⟩
theorem bf_max2 (hc : X.calm = true) : CallR X (.builtin "max") (LB X nm fun ds h Q => bfW h .max2 ds Q) := by
  intro pins s σ H xs us Q I rv hq
  obtain ⟨m, h, ds, Qa, r, rh, w, fin⟩ := hq
  match ds, w with
  | [.int i, .int j], w =>
    obtain ⟨v, v', rfl, rv1, rv2⟩ := rvs2 r
    obtain rfl := rv_int rv1
    obtain rfl := rv_int rv2
    exact call_max2 hc pins s σ H _ us Q I rv ⟨i, j, rfl, fin _ _ _ _ _ (.int _) rh .refl w⟩
theorem bf_str : CallR X (.type "str") (LB X nm fun ds h Q => bfW h .str ds Q) := by
  intro pins s σ H xs us Q I rv hq
  obtain ⟨m, h, ds, Qa, r, rh, w, fin⟩ := hq
  match ds, w with
  | [.int i], w =>
    obtain ⟨v, rfl, rv1⟩ := rvs1 r
    obtain rfl := rv_int rv1
    obtain ⟨hz, q⟩ := w
    refine call_str_int pins s σ H _ us Q I rv ⟨i, rfl, hz, ?_⟩
    have e : mkS (decL i) = Str.ofString (toString i) := TL.mk_tl _
    show Q (.str (Str.ofString (toString i))) H
    rw [← e]
    exact fin _ _ _ _ _ (.str _) rh .refl q
theorem bf_int : CallR X (.type "int") (LB X nm fun ds h Q => bfW h .int ds Q) := by
  intro pins s σ H xs us Q I rv hq
  obtain ⟨m, h, ds, Qa, r, rh, w, fin⟩ := hq
  match ds, w with
  | [.int i], w =>
    obtain ⟨v, rfl, rv1⟩ := rvs1 r
    obtain rfl := rv_int rv1
    exact call_int1 pins s σ H _ us Q I rv (.inl ⟨i, rfl, fin _ _ _ _ _ (.int _) rh .refl w⟩)
  | [.bl b], w =>
    obtain ⟨v, rfl, rv1⟩ := rvs1 r
    obtain rfl := rv_bl rv1
    exact call_int1 pins s σ H _ us Q I rv (.inr ⟨b, rfl, fin _ _ _ _ _ (.int _) rh .refl w⟩)
  | [.str t], w =>
    obtain ⟨v, rfl, rv1⟩ := rvs1 r
    cases rv1
    obtain ⟨n, e1, e2, w⟩ := w
    exact call_int_str pins s σ H _ us Q I rv ⟨mkS t, n, rfl, e1, e2, fin _ _ _ _ _ (.int _) rh .refl w⟩
theorem bf_tuple : CallR X (.type "tuple") (LB X nm fun ds h Q => bfW h .tuple ds Q) := by
  intro pins s σ H xs us Q I rv hq
  obtain ⟨m, h, ds, Qa, r, rh, w, fin⟩ := hq
  match ds, w with
  | [d], w =>
    obtain ⟨v, rfl, rv1⟩ := rvs1 r
    obtain ⟨ys, e, q⟩ := w
    cases d with
    | tup zs =>
      have : zs = ys := by simpa [itemsOf] using e
      subst this
      cases rv1 with
      | @tup a xs' _ h1 h2 => exact call_tupleF pins s σ H _ us Q I rv ⟨a, xs', rfl, .inr ⟨h1.sqT, fin _ _ _ _ _ (.tup h1 h2) rh .refl q⟩⟩
    | rol zs =>
      have : zs = ys := by simpa [itemsOf] using e
      subst this
      cases rv1 with
      | @rol a xs' _ h1 h2 =>
        refine call_tupleF pins s σ H _ us Q I rv ⟨a, xs', rfl, .inl ⟨h1.sq, fun l its hl => ?_⟩⟩
        obtain ⟨a1, a2, a3⟩ := new_tup its rh hl h2
        exact fin _ _ _ _ _ a1 a2 a3 q
    | ref k =>
      cases q2 : h[k]? with
      | none => simp [itemsOf, q2] at e
      | some ob =>
        cases ob with
        | lst zs =>
          have : zs = ys := by simpa [itemsOf, q2] using e
          subst this
          obtain ⟨a, ws, rfl, hm, hH, rz⟩ := the_lst rh rv1 q2
          refine call_tupleF pins s σ H _ us Q I rv ⟨a, ws, rfl, .inl ⟨SqL.of hH, fun l its hl => ?_⟩⟩
          obtain ⟨a1, a2, a3⟩ := new_tup its rh hl rz
          exact fin _ _ _ _ _ a1 a2 a3 q
        | _ => simp [itemsOf, q2] at e
    | _ => simp [itemsOf] at e
theorem vals_sign : ∀ (w : List Nat) (l : List Value), l.length = w.length → (∀ (j : Nat) (v : Value), l[j]? = some v → ∃ (x : Nat) (u : Tok), w[j]? = some x ∧ v = .str ⟨#[x]⟩ u) → Vals (w.map fun x => V.str (mkS [x])) l
  | [], l, hl, _ => by
    cases l with
    | nil => exact .nil
    | cons _ _ => simp at hl
  | x :: w, l, hl, h => by
    cases l with
    | nil => simp at hl
    | cons v l =>
      obtain ⟨y, u, e1, e2⟩ := h 0 v rfl
      simp at e1
      subst e1
      subst e2
      exact .cons ⟨u, rfl⟩ (vals_sign w l (by simpa using hl) fun j v hj => by simpa using h (j + 1) v (by simpa using hj))
theorem list_S (hc : X.calm = true) : CallR X (.type "list") (fun xs H Q => ∃ w : List Nat, xs = [.str (mkS w)] ∧ w.length ≤ sizeLine ∧ ∀ l, H l = none → Q (.ref l) (upd H l (.lst (w.map fun x => V.str (mkS [x]))))) := by
  intro pins s σ H xs us Q I r h
  obtain ⟨w, rfl, hz, q⟩ := h
  obtain ⟨u, rfl, rx⟩ := vals1 r
  obtain ⟨t, rfl⟩ := rx
  refine call_list_str (I.ok.hd hc) (mkS w) t (fun h' tk acc c' hk hS hacc => ?_) (by simpa [mkS] using hz)
  refine ⟨.ref s.heap.objs.size, _, I.laid (t' := tk) hk (Nat.le_refl _) (show ObjOk X.prog X.w _ h' _ (.lst (w.map fun x => V.str (mkS [x]))) from ⟨by simpa using hz, acc.toList, c', ?_, by simpa using hS⟩), rfl, q _ (I.hok.fresh (Nat.le_refl _))⟩
  obtain ⟨a1, a2⟩ := hacc
  refine vals_sign w acc.toList (by simpa [mkS] using a1) fun j v hj => ?_
  obtain ⟨x, u, e1, e2⟩ := a2 j v (by simpa using hj)
  exact ⟨x, u, by simpa [mkS] using e1, e2⟩
theorem bf_list (hc : X.calm = true) : CallR X (.type "list") (LB X nm fun ds h Q => bfW h .list ds Q) := by
  intro pins s σ H xs us Q I rv hq
  obtain ⟨m, h, ds, Qa, r, rh, w, fin⟩ := hq
  match ds, w with
  | d :: _ :: _, w => cases d <;> exact w.elim
  | [d], w =>
    obtain ⟨v, rfl, rv1⟩ := rvs1 r
    by_cases hs : ∃ z, d = .str z
    · obtain ⟨z, rfl⟩ := hs
      cases rv1
      obtain ⟨hz, q⟩ := w
      refine list_S hc pins s σ H _ us Q I rv ⟨z, rfl, by rw [← SZ_line]; exact hz, fun l hl => ?_⟩
      have rz : RVs X.K H m (z.map fun x => V.str (mkS [x])) (z.map fun x => D.str [x]) := by
        clear hz q hl rv r fin
        induction z with
        | nil => exact .nil
        | cons x z ih => exact .cons (.str [x]) ih
      obtain ⟨a1, a2, a3⟩ := new_lst rh hl rz
      exact fin _ _ _ _ _ a1 a2 a3 q
    have w : (match dictOf h d with
        | some kvs => (∃ n, d = .ref n ∧ getW h n = some kvs) ∧ Qa (.ref h.length) (h ++ [.lst (keysD kvs)])
        | none => ∃ xs, itemsOf h d = some xs ∧ Qa (.ref h.length) (h ++ [.lst xs])) := by
      cases d <;> first | exact w | exact absurd ⟨_, rfl⟩ hs
    cases hk : dictOf h d with
    | some kvs =>
      rw [hk] at w
      obtain ⟨⟨n, rfl, e⟩, q⟩ := w
      obtain ⟨a, vs, rfl, hm, hH, rk⟩ := the_dk rh rv1 (getW_iff.mp e)
      refine call_list_dK hc pins s σ H _ us Q I rv ⟨a, vs, rfl, hH, fun l hl => ?_⟩
      obtain ⟨a1, a2, a3⟩ := new_lst rh hl rk.keysV
      exact fin _ _ _ _ _ a1 a2 a3 q
    | none =>
      rw [hk] at w
      obtain ⟨ys, e, q⟩ := w
      obtain ⟨a, zs, rfl, hs, rz⟩ := items_of rh rv1 e
      refine call_list_of pins s σ H _ us Q I rv ⟨a, zs, rfl, hs, fun l hl => ?_⟩
      obtain ⟨a1, a2, a3⟩ := new_lst rh hl rz
      exact fin _ _ _ _ _ a1 a2 a3 q
theorem lst_of {H : Hp} {m : List Addr} {h : AH} {v : V} {d : D} {ds : List D} (rh : RH X.K nm H m h) (r : RV X.K H m v d) (e : lstOf h d = some ds) : ∃ a xs, v = .ref a ∧ SqL X.K H a xs ∧ RVs X.K H m xs ds := by
  cases d with
  | rol xs =>
    have : xs = ds := by simpa [lstOf] using e
    subst this
    cases r with
    | rol h1 h2 => exact ⟨_, _, rfl, h1.sq, h2⟩
  | ref k =>
    cases q : h[k]? with
    | none => simp [lstOf, q] at e
    | some ob =>
      cases ob with
      | lst xs =>
        have : xs = ds := by simpa [lstOf, q] using e
        subst this
        obtain ⟨a, vs, rfl, h1, h2, h3⟩ := the_lst rh r q
        exact ⟨a, vs, rfl, SqL.of h2, h3⟩
      | _ => simp [lstOf, q] at e
  | _ => simp [lstOf] at e
theorem bf_all (hc : X.calm = true) : CallR X (.builtin "all") (LB X nm fun ds h Q => bfW h .all ds Q) := by
  intro pins s σ H xs us Q I rv hq
  obtain ⟨m, h, ds, Qa, r, rh, w, fin⟩ := hq
  match ds, w with
  | [d], w =>
    obtain ⟨v, rfl, rv1⟩ := rvs1 r
    obtain ⟨bs, e, q⟩ := w
    obtain ⟨a, zs, rfl, hs, rz⟩ := lst_of rh rv1 e
    have ez := rvs_bl rz
    subst ez
    exact cr_all hc pins s σ H _ us Q I rv ⟨a, bs, rfl, hs, fin _ _ _ _ _ (.bl _) rh .refl q⟩
theorem bf_any (hc : X.calm = true) : CallR X (.builtin "any") (LB X nm fun ds h Q => bfW h .any ds Q) := by
  intro pins s σ H xs us Q I rv hq
  obtain ⟨m, h, ds, Qa, r, rh, w, fin⟩ := hq
  match ds, w with
  | [d], w =>
    obtain ⟨v, rfl, rv1⟩ := rvs1 r
    obtain ⟨bs, e, q⟩ := w
    obtain ⟨a, zs, rfl, hs, rz⟩ := lst_of rh rv1 e
    have ez := rvs_bl rz
    subst ez
    exact cr_any hc pins s σ H _ us Q I rv ⟨a, bs, rfl, hs, fin _ _ _ _ _ (.bl _) rh .refl q⟩
theorem bf_sum (hc : X.calm = true) : CallR X (.builtin "sum") (LB X nm fun ds h Q => bfW h .sum ds Q) := by
  intro pins s σ H xs us Q I rv hq
  obtain ⟨m, h, ds, Qa, r, rh, w, fin⟩ := hq
  match ds, w with
  | [d], w =>
    obtain ⟨v, rfl, rv1⟩ := rvs1 r
    rcases w with w | ⟨ns, rfl, q⟩
    rotate_left
    · cases rv1 with
      | @tup a xs ds hT rz =>
        have ez := rvs_int rz
        subst ez
        obtain ⟨its, rv', ht, _⟩ := I.tuple hT.sqT
        obtain ⟨u, rfl, ru⟩ := vals1 rv
        obtain rfl : u = Value.ref a := ru
        have hi := rv'.ints
        obtain ⟨xs, hx⟩ := hi.allInts.items
        have hn : numsOf its.toArray.toList = ns := by rw [show its.toArray.toList = its from rfl, hi.numsOf]
        rw [hx] at ht hn
        rw [nums_intItems] at hn
        refine PySem.W.ktm_sumG (I.ok.hd hc) ht fun h' tk t' hk => ?_
        rw [preSum_eq, List.take_of_length_le (by simp), hn]
        exact ⟨.int _, H, I.kept hk, ⟨_, rfl⟩, fin _ _ _ _ _ (.int _) rh .refl q⟩
    obtain ⟨bs, e, q⟩ := w
    obtain ⟨a, zs, rfl, hs, rz⟩ := lst_of rh rv1 e
    have ez := rvs_int rz
    subst ez
    exact cr_sum hc pins s σ H _ us Q I rv ⟨a, bs, rfl, hs, fin _ _ _ _ _ (.int _) rh .refl q⟩
def rMinS (K : PySem.W.Frag) : List V → Hp → VK → Prop := fun vs H Q => ∃ (a : Addr) (xs : List (List Nat)), vs = [V.ref a] ∧ SqL K H a (xs.map fun x => V.str (mkS x)) ∧ xs ≠ [] ∧ ∀ k ∈ xs, (∀ a ∈ xs, k ≤ a) → Q (.str (mkS k)) H
theorem cr_minS (hc : X.calm = true) (hu : X.A.units + 65 < cLine) : CallR X (.builtin "min") (rMinS X.K) := by
  intro pins s σ H vs us Q I r h
  obtain ⟨a, xs, rfl, hs, hne, q⟩ := h
  obtain ⟨its, rv, hl, _⟩ := I.list hs
  rw [Vals.ref1 r]
  cases xs with
  | nil => exact absurd rfl hne
  | cons x xs =>
    have rv' : Vals (((x :: xs).map mkS).map V.str) its := by rw [List.map_map]; exact rv
    refine PySem.W.min_list_datum (x := mkS x) (xs := xs.map mkS) (I.ok.hd hc) hl.isList (hold_mkS rv') (by show X.A.units + 1 + 0 < cLine; omega) fun i v h' tk hi hv hk => ?_
    obtain ⟨bs, hr⟩ := hv
    obtain ⟨h1, h2⟩ := foldl_least PySem.W.DatumOrd.lt (fun _ _ => rfl) (xs.map mkS) (mkS x)
    change PySem.W.minOf (mkS x) (xs.map mkS) ∈ _ at h1
    change ∀ a ∈ _, (PySem.W.minOf (mkS x) (xs.map mkS)).cps.toList ≤ _ at h2
    generalize PySem.W.minOf (mkS x) (xs.map mkS) = z at hr h1 h2
    rw [← List.map_cons] at h1 h2
    obtain ⟨k, hk1, rfl⟩ := List.mem_map.mp h1
    change Reads h' v (.str (mkS k)) bs at hr
    cases hr with
    | str _ t =>
      refine ⟨.str (mkS k), H, I.kept hk, ⟨_, rfl⟩, q k hk1 fun a ha => ?_⟩
      have := h2 _ (List.mem_map_of_mem ha)
      simpa [mkS] using this
theorem bf_minl (hc : X.calm = true) (hu : X.A.units + 65 < cLine) : CallR X (.builtin "min") (LB X nm fun ds h Q => bfW h .minl ds Q) := by
  intro pins s σ H xs us Q I rv hq
  obtain ⟨m, h, ds, Qa, r, rh, w, fin⟩ := hq
  match ds, w with
  | [d], w =>
    obtain ⟨v, rfl, rv1⟩ := rvs1 r
    rcases w with ⟨bs, e, hne, q⟩ | ⟨bs, e, hne, q⟩
    · obtain ⟨a, zs, rfl, hs, rz⟩ := lst_of rh rv1 e
      have ez := rvs_int rz
      subst ez
      exact cr_min hc pins s σ H _ us Q I rv ⟨a, bs, rfl, hs, List.length_pos_iff.mpr hne, fun k hk ha => fin _ _ _ _ _ (.int _) rh .refl (q k hk ha)⟩
    · obtain ⟨a, zs, rfl, hs, rz⟩ := lst_of rh rv1 e
      have ez := vals_of_mkS rz
      subst ez
      exact cr_minS hc hu pins s σ H _ us Q I rv ⟨a, bs, rfl, hs, hne, fun k hk ha => fin _ _ _ _ _ (.str _) rh .refl (q k hk ha)⟩
theorem bf_maxl (hc : X.calm = true) : CallR X (.builtin "max") (LB X nm fun ds h Q => bfW h .maxl ds Q) := by
  intro pins s σ H xs us Q I rv hq
  obtain ⟨m, h, ds, Qa, r, rh, w, fin⟩ := hq
  match ds, w with
  | [d], w =>
    obtain ⟨v, rfl, rv1⟩ := rvs1 r
    obtain ⟨bs, e, hne, q⟩ := w
    obtain ⟨a, zs, rfl, hs, rz⟩ := lst_of rh rv1 e
    have ez := rvs_int rz
    subst ez
    exact cr_max hc pins s σ H _ us Q I rv ⟨a, bs, rfl, hs, List.length_pos_iff.mpr hne, fun k hk ha => fin _ _ _ _ _ (.int _) rh .refl (q k hk ha)⟩
def Ty1.tn : Ty1 → String
  | .int => "int"
  | .bool => "bool"
  | .str => "str"
  | .tuple => "tuple"
  | .list => "list"
  | .dict => "dict"
theorem isi_ok {nm : Nm} (t : Ty1) {pins : List (Addr × Obj)} {s : Shared} {σ : L2.St} {H : Hp} {m : List Addr} {h : AH} {v : V} {u : Value} {d : D} {b : Bool} {Q : Value → Shared → Prop} {E : Value → Shared → Prop}
    (I : Inv X pins σ H s) (rx : RelV v u) (r : RV X.K H m v d) (rh : RH X.K nm H m h) (e : isTyW h t d = some b) (q : ∀ tk, Q (.bool b) { s with toks := tk }) : wpAny (model X.prog X.w) X.A (call (.builtin "isinstance") [u, .type t.tn]) Q E s := by
  have go : ∀ (n : String), TyOf X.K H v (.type n) → kitB n t.tn = some b → wpAny (model X.prog X.w) X.A (call (.builtin "isinstance") [u, .type t.tn]) Q E s := fun n ty k => isinst_ok I rx ty (kit_ty k) q
  cases r with
  | non => cases t <;> simp [isTyW, D.isTy] at e <;> subst e <;> exact go "NoneType" .non (by kernel_rfl)
  | bl x => cases t <;> simp [isTyW, D.isTy] at e <;> subst e <;> exact go "bool" (.bl x) (by kernel_rfl)
  | int x => cases t <;> simp [isTyW, D.isTy] at e <;> subst e <;> exact go "int" (.int x) (by kernel_rfl)
  | str x => cases t <;> simp [isTyW, D.isTy] at e <;> subst e <;> exact go "str" (.str _) (by kernel_rfl)
  | rol _ _ => cases t <;> simp [isTyW, D.isTy] at e
  | wtup _ _ => cases t <;> simp [isTyW, D.isTy] at e
  | @ref a n hm =>
    cases (show u = Value.ref a from rx)
    unfold isTyW at e
    simp only at e
    split at e
    · rename_i xs he
      obtain ⟨a', vs', e1, hm', hH, rk⟩ := the_lst rh (.ref hm) he
      cases e1
      obtain ⟨_, _, p, _⟩ := I.list (.inl (.inl hH))
      obtain ⟨o, p1, p2, _⟩ := p.isList
      have k : kitB "list" t.tn = some b := by cases e; cases t <;> kernel_rfl
      exact PySem.W.kia_one PySem.W.kitx_list I.kIn ⟨o, p1, p2⟩ (kit_ty k) (fun z => nomatch z) q
    · rename_i kvs he
      obtain ⟨a', vs', e1, hm', hH, rk⟩ := the_dk rh (.ref hm) he
      cases e1
      obtain ⟨_, _, vs0, _, dd⟩ := I.hok _ _ hH
      obtain ⟨o, es, ep, p1, p2, _⟩ := dd
      have k : kitB "dict" t.tn = some b := by cases e; cases t <;> kernel_rfl
      exact PySem.W.kia_one PySem.W.kitx_dict I.kIn ⟨o, p1, p2.1⟩ (kit_ty k) (fun z => nomatch z) q
    · cases e
  | @tup a xs ds h1 h2 =>
    cases (show u = Value.ref a from rx)
    obtain ⟨_, _, ⟨o, p1, p2, _⟩, _⟩ := I.tuple h1.sqT
    have k : kitB "tuple" t.tn = some b := by cases t <;> simp [isTyW, D.isTy] at e <;> subst e <;> kernel_rfl
    exact PySem.W.kia_one PySem.W.kitx_tuple I.kIn ⟨o, p1, p2⟩ (kit_ty k) (fun z => nomatch z) q
def LM (X : Cx) (nm : Nm) (f : Bm) : V → List V → Hp → VK → Prop := fun x xs H Q =>
  ∃ m h d ds Qa, RV X.K H m x d ∧ RVs X.K H m xs ds ∧ RH X.K nm H m h ∧ bmW h f d ds Qa ∧ ∀ v H' m' d' h', RV X.K H' m' v d' → RH X.K nm H' m' h' → Ext H m H' m' → Qa d' h' → Q v H'
theorem bm_append : MtM X "list.append" (LM X nm .append) := by
  intro pins s σ H x xs v us Q I rx rv hq
  obtain ⟨m, h, d, ds, Qa, r, rs, rh, w, fin⟩ := hq
  match d, ds, w with
  | .ref n, [y], w =>
    obtain ⟨zs, e, hz, q⟩ := w
    obtain ⟨a, ws, rfl, hm, hH, rz⟩ := the_lst rh r e
    obtain ⟨yv, rfl, ry⟩ := rvs1 rs
    refine mt_append pins s σ H _ _ v us Q I rx rv ⟨a, ws, yv, rfl, rfl, hH, by rw [rz.length, ← SZ_line]; exact hz, ?_⟩
    obtain ⟨a1, a2⟩ := set_lst rh hm hH (rz.append (.cons ry .nil))
    exact fin _ _ _ _ _ .non a1 a2 q
theorem bm_pop : MtM X "list.pop" (LM X nm .pop) := by
  intro pins s σ H x xs v us Q I rx rv hq
  obtain ⟨m, h, d, ds, Qa, r, rs, rh, w, fin⟩ := hq
  match d, ds, w with
  | .ref n, [], w =>
    obtain ⟨zs, y, e, hz, q⟩ := w
    obtain ⟨a, ws, rfl, hm, hH, rz⟩ := the_lst rh r e
    cases rs
    obtain ⟨yv, e2, ry⟩ := rz.get hz
    refine mt_pop pins s σ H _ _ v us Q I rx rv ⟨a, ws, yv, rfl, rfl, hH, by rw [rz.length]; exact e2, ?_⟩
    have rz' : RVs X.K H m ws.dropLast zs.dropLast := by
      rw [List.dropLast_eq_take, List.dropLast_eq_take, rz.length]
      exact rz.take _
    obtain ⟨a1, a2⟩ := set_lst rh hm hH rz'
    exact fin _ _ _ _ _ (ry.ext a2) a1 a2 q
theorem findIdx_str {p : List Nat} : ∀ {l : List (List Nat)} {j : Nat}, l.findIdx? (fun z => decide (z = p)) = some j → l[j]? = some p ∧ ∀ k z, k < j → l[k]? = some z → z ≠ p
  | [], _, h => by simp at h
  | a :: l, j, h => by
    rw [List.findIdx?_cons] at h
    by_cases hp : a = p
    · subst hp
      simp at h
      subst h
      exact ⟨rfl, fun k z hk _ => absurd hk (Nat.not_lt_zero _)⟩
    · simp only [hp, decide_false, Bool.false_eq_true, if_false, Option.map_eq_some_iff] at h
      obtain ⟨i, h1, rfl⟩ := h
      obtain ⟨e1, e2⟩ := findIdx_str h1
      refine ⟨by simpa using e1, fun k z hk hz => ?_⟩
      cases k with
      | zero => simp at hz; subst hz; exact hp
      | succ k => exact e2 k z (by omega) (by simpa using hz)
theorem map_eraseI {α β : Type} (f : α → β) : ∀ (l : List α) (j : Nat), (l.map f).eraseIdx j = (l.eraseIdx j).map f
  | [], _ => rfl
  | _ :: _, 0 => rfl
  | a :: l, j + 1 => congrArg (f a :: ·) (map_eraseI f l j)
def isS (x : Str) : Value → Bool
  | .str z _ => z == x
  | _ => false
theorem bm_remove : MtM X "list.remove" (LM X nm .remove) := by
  intro pins s σ H x xs v us Q I rx rv hq
  obtain ⟨m, h, d, ds, Qa, r, rs, rh, w, fin⟩ := hq
  match d, ds, w with
  | .ref n, [.str p], w =>
    obtain ⟨zs, j, e, hj, q⟩ := w
    obtain ⟨a, ws, rfl, hm, hH, rz⟩ := the_lst rh r e
    obtain ⟨yv, rfl, ry⟩ := rvs1 rs
    cases ry
    obtain ⟨u, rfl, ru⟩ := vals1 rv
    obtain ⟨t, rfl⟩ := ru
    cases rx
    obtain ⟨its, nn, rr, ho, hz⟩ := I.lst hH
    obtain ⟨e1, e2⟩ := findIdx_str hj
    have l1 := rz.length
    have l2 := rr.length
    rw [List.length_map] at l1
    have hjl : j < zs.length := (List.getElem?_eq_some_iff.mp e1).1
    have val : ∀ k (hk : k < its.length) z, zs[k]? = some z → ∃ t', its[k] = .str (mkS z) t' := fun k hk z hz' => by
      obtain ⟨w1, h1, h2⟩ := rz.get (i := k) (d := .str z) (by rw [List.getElem?_map, hz']; rfl)
      cases h2
      obtain ⟨u1, h3, h4⟩ := Vals.get rr h1
      obtain ⟨t', rfl⟩ := h4
      rw [List.getElem?_eq_getElem hk] at h3
      exact ⟨t', Option.some.inj h3⟩
    refine call_meets PySem.F.slot_list_remove ⟨_, ho, rfl⟩ PySem.F.entry_list_remove (PySem.F.args_list_remove_2 _ _)
      (PySem.SeqAt.list_removeAt a its.toArray nn none #[] (.str (mkS p) t) (isS (mkS p)) j (by simp; omega) ?_ (fun k hk hlt => ?_) (by simp; omega)) ⟨ho, fun y hy => ?_, ?_⟩
    · obtain ⟨t', e3⟩ := val j (by omega) p e1
      show isS (mkS p) its[j] = true
      rw [e3]
      simp [isS]
    · have hk' : k < its.length := by simpa using hk
      have hkz : k < zs.length := by omega
      obtain ⟨t', e3⟩ := val k hk' _ (List.getElem?_eq_getElem hkz)
      show isS (mkS p) its[k] = false
      rw [e3]
      have := e2 k _ hlt (List.getElem?_eq_getElem hkz)
      simp only [isS, beq_eq_false_iff_ne]
      exact fun z => this (mkS_inj.mp z)
    · obtain ⟨k, hk, rfl⟩ := Array.getElem_of_mem hy
      have hk' : k < its.length := by simpa using hk
      have hkz : k < zs.length := by omega
      obtain ⟨t', e3⟩ := val k hk' _ (List.getElem?_eq_getElem hkz)
      have e4 : its.toArray[k] = .str (mkS zs[k]) t' := e3
      rw [e4]
      exact PySem.SeqAt.EqAt.str_str _ _ _ _
    · have rz' : RVs X.K H m (ws.eraseIdx j) ((zs.eraseIdx j).map .str) := by
        have := rz.eraseIdx j
        rw [map_eraseI] at this
        exact this
      obtain ⟨a1, a2⟩ := set_lst rh hm hH rz'
      refine ⟨.non, _, I.lstUpd (n' := if ((its.eraseIdx j).toArray.size == its.toArray.size) = true then nn else nn + 1) (t := s.toks) hH ho ?_ (rr.eraseIdx j) ?_, rfl, fin _ _ _ _ _ .non a1 a2 q⟩
      · simp only [Obj.mapSeq, List.eraseIdxIfInBounds_toArray]
      · have := List.length_eraseIdx_le ws j
        omega
theorem meets_extend_tuple (l : Addr) (items : Array Value) (n : Nat) (b : Addr) (items2 : Array Value) (n2 : Nat) (dd : Option Addr) (sl : Array (Option Value)) (hs0 : ¬(!items.isEmpty && Builtin.List.listTooLong (items.size + items2.size)) = true) (hs1 : items.size ≤ sizeLine) (hs2 : items.size + items2.size ≤ sizeLine + 1) :
    Meets (Builtin.«list.extend» ⟨[.ref l, .ref b], []⟩) (fun _ R s => s.heap.get? l = some { cls := .type "list", dict := none, data := .seq items n, slots := #[] } ∧ s.heap.get? b = some { cls := .type "tuple", dict := dd, data := .seq items2 n2, slots := sl } ∧ R (.ok (.ret Value.none)) { s with heap := s.heap.update l (Obj.mapSeq fun x => x ++ items2), toks := s.toks }) :=
  .of_wp fun prog w A R s h => by
    obtain ⟨hp, g, d, tk, os⟩ := s; obtain ⟨hl, hb, h⟩ := h; have f1 := AutoSeq1.idx_int; have f2 := AutoSeq1.sub_tuple_tuple; have f3 := AutoSeq1.sub_list_list; have f4 := AutoSeq1.sub_tuple_list; have f5 := AutoSeq1.sub_list_tuple;
    have hz' : (items ++ items2).size ≤ sizeLine + 1 := by rw [Array.size_append]; exact hs2
    wp_walk using (wpAny_updateSeq hl rfl (hz := hs1) (_hz' := hz')), wpAny_loadPart' hl, wpAny_loadPart' hb; exact ⟨_, rfl, h⟩
theorem bm_extend : MtM X "list.extend" (LM X nm .extend) := by
  intro pins s σ H x xs v us Q I rx rv hq
  obtain ⟨m, h, d, ds, Qa, r, rs, rh, w, fin⟩ := hq
  match d, ds, w with
  | .ref n, [y], w =>
    obtain ⟨zs, ys, e, e2, hz, q⟩ := w
    obtain ⟨a, ws, rfl, hm, hH, rz⟩ := the_lst rh r e
    obtain ⟨yv, rfl, ry⟩ := rvs1 rs
    have l1 := rz.length
    rw [SZ_line] at hz
    cases y with
    | tup xs =>
      have : xs = ys := by simpa [extOf] using e2
      subst this
      cases ry with
      | @tup b us' _ hs ru =>
        have l2 := ru.length
        obtain ⟨a1, a2⟩ := set_lst rh hm hH (rz.append ru)
        cases rx
        obtain ⟨w', rfl, rw'⟩ := rv.one
        cases rw'
        obtain ⟨z, its, n, r1, hl, e3⟩ := I.lstM hH
        obtain ⟨its2, r2, ⟨⟨cls, dd, data, sls⟩, ho, hc, n2, hdt⟩, z2⟩ := I.tuple hs.sqT
        simp only at hc hdt
        subst hc hdt
        have l3 := r1.length
        have l4 := r2.length
        have hsz : its.toArray.size + its2.toArray.size ≤ sizeLine := by rw [List.size_toArray, List.size_toArray]; omega
        have hlong : ¬ (!its.toArray.isEmpty && Builtin.List.listTooLong (its.toArray.size + its2.toArray.size)) = true := by
          rw [notLongL hsz, Bool.and_false]
          exact Bool.false_ne_true
        refine call_meets F.slot_list_extend ⟨_, e3, rfl⟩ F.entry_list_extend (F.args_list_extend_2 _ _) (meets_extend_tuple a its.toArray n b its2.toArray n2 dd sls hlong (by rw [List.size_toArray]; omega) (by omega)) ⟨e3, ho, ?_⟩
        exact ⟨.non, _, I.lset (its' := its ++ its2) hH e3 (by simp) (r1.append r2) (by rw [List.length_append]; omega), rfl, fin _ _ _ _ _ .non a1 a2 q⟩
    | ref k =>
      cases q2 : h[k]? with
      | none => simp [extOf, q2] at e2
      | some ob =>
        cases ob with
        | lst xs =>
          have : xs = ys := by simpa [extOf, q2] using e2
          subst this
          obtain ⟨b, us', rfl, hb, hBH, ru⟩ := the_lst rh ry q2
          have l2 := ru.length
          obtain ⟨a1, a2⟩ := set_lst rh hm hH (rz.append ru)
          exact mt_extend pins s σ H _ _ v us Q I rx rv ⟨a, b, ws, us', rfl, rfl, hH, hBH, by omega, fin _ _ _ _ _ .non a1 a2 q⟩
        | _ => simp [extOf, q2] at e2
    | _ => simp [extOf] at e2
end
end Rf
namespace Rf
open PySem PySem.Spec PyProof.Rows L2
section
variable {prog : Program} {w : World} {A : Around} {E : Value → Shared → Prop} {s : Shared}
theorem collect_tupleS {l : Addr} {vs : List Value} {Q : List Value → Shared → Prop} (hl : s.heap.IsTuple l vs.toArray)
    (h : Q vs { s with heap := (s.heap.push (seqObj "list" #[] 0)).update s.heap.objs.size (Obj.mapSeq (· ++ vs.toArray)) }) (hsz : vs.length ≤ sizeLine) :
    wpAny (model prog w) A (collect (.ref l)) Q E s := by
  obtain ⟨o, ho, hc, n, hd⟩ := id hl
  unfold collect
  refine wpAny_bind (wpAny_runValue (codeAny_builtin entry_proto_collect' ?_))
  show wpAny _ _ (do again (.builtin "list.__iadd__" ⟨[← newList [], .ref l], []⟩)) _ _ s
  refine wpAny_bind (wpAny_newList (wpAny_pure ⟨Code.quiet_builtin _ (by decide +kernel), codeAny_builtin entry_list_iadd' ?_⟩))
  show wpAny _ _ (Builtin.List.listExtendWith (.ref s.heap.objs.size) (.ref l) (.ref s.heap.objs.size)) _ _ { s with heap := s.heap.push (seqObj "list" #[] 0) }
  unfold Builtin.List.listExtendWith
  have ho' : (s.heap.push (seqObj "list" #[] 0)).get? l = some o := Heap.get?_push_of_some _ ho
  refine wpAny_bind (wpAny_typeOf (T := "tuple") ⟨o, ho', hc⟩ ?_)
  have ht : (Value.type "tuple" == Value.type "tuple") = true := by rfl
  rw [if_pos (by rw [ht]; simp)]
  refine wpAny_bind (listItems_at ho' hd ?_)
  refine wpAny_bind (listItems_at (xs := #[]) (n := 0) (Heap.get?_push_size _ rfl) rfl ?_)
  rw [if_neg (by simp)]
  refine wpAny_bind (listUpdate_at (xs := #[]) (n := 0) (Heap.get?_push_size _ rfl) rfl ?_ (Nat.zero_le _) (by show (#[] ++ vs.toArray).size ≤ sizeLine + 1; simp only [Array.size_append, List.size_toArray, List.length_nil]; omega))
  refine wpAny_pure ?_
  show wpAny (model prog w) A (do
      let o ← load s.heap.objs.size
      match o.data with
      | .seq xs _ => pure xs.toList
      | _ => unsupported "internal:collect") Q E { s with heap := (s.heap.push (seqObj "list" #[] 0)).update s.heap.objs.size (Obj.mapSeq (· ++ vs.toArray)) }
  refine wpAny_bind (wpAny_load (get?_update_seq (Heap.get?_push_size _ rfl) _) ?_)
  show wpAny _ _ (pure ((#[] : Array Value) ++ vs.toArray).toList) Q E _
  rw [show ((#[] : Array Value) ++ vs.toArray).toList = vs by simp]
  exact wpAny_pure h
theorem sorted_of_collect {u : Value} {vs : List Value} {Q : Value → Shared → Prop} (hcol : ∀ {A : Around} {E : Value → Shared → Prop} {Q : List Value → Shared → Prop}, Q vs { s with heap := (s.heap.push (seqObj "list" #[] 0)).update s.heap.objs.size (Obj.mapSeq (· ++ vs.toArray)) } → wpAny (model prog w) A (collect u) Q E s) (hL : vs.length ≤ sizeLine)
    (body : ∀ E' : Value → Shared → Prop, wpAny (model prog w) A.in1.in1 (Builtin.«list.sort» ⟨[.ref (s.heap.objs.size + 1)], []⟩) (fun f s' => f = .done (.ret .none) ∧ Q (.ref (s.heap.objs.size + 1)) s') E' { s with heap := PySem.W.copyHeap s.heap vs }) :
    wpAny (model prog w) A (call (.builtin "sorted") [u]) Q E s := by
  refine Calls.call_function_entry kind_sorted plain_sorted entry_sorted (args_sorted1 _) ?_
  unfold Builtin.«sorted»
  refine wpAny_bind (m := checkCount "sorted" 1 1 _) (wpAny_pure ?_)
  refine wpAny_bind (hcol ?_)
  refine wpAny_bind (wpAny_newList ?_ hL)
  have hsz : ((s.heap.push (seqObj "list" #[] 0)).update s.heap.objs.size (Obj.mapSeq (· ++ vs.toArray))).objs.size = s.heap.objs.size + 1 := by
    rw [Heap.size_update, PyProof.Rows.size_push']
  show wpAny _ _ _ _ _ { s with heap := PySem.W.copyHeap s.heap vs }
  rw [hsz]
  refine wpAny_bind (wpAny_holding (wpAny_call_entry slot_list_sort ⟨_, PySem.W.copyHeap_at s.heap vs, rfl⟩ entry_list_sort ?body (args_list_sort _)))
  case body =>
    show wpAny (model prog w) A.in1.in1 (Builtin.«list.sort» ⟨[.ref (s.heap.objs.size + 1)], []⟩) _ _ _
    refine wpAny_mono (body _) (fun f s' hf => ?_) fun _ _ e => e
    obtain ⟨rfl, hq⟩ := hf
    exact ⟨_, rfl, wpAny_pure ⟨_, rfl, hq⟩⟩
theorem sorted_dataG {β : Type} {vs : List Value} {bs : List β} {enc : β → PyData} {R : Value → β → Prop} {u : Value} {Q : Value → Shared → Prop} (hcol : ∀ {A : Around} {E : Value → Shared → Prop} {Q : List Value → Shared → Prop}, Q vs { s with heap := (s.heap.push (seqObj "list" #[] 0)).update s.heap.objs.size (Obj.mapSeq (· ++ vs.toArray)) } → wpAny (model prog w) A (collect u) Q E s)
    (e : PySem.W.EachIs R vs bs) (er : PySem.W.EachIs (fun v b => ∃ as, Reads s.heap v (enc b) as) vs bs) (hal : PySem.W.AllAlike (bs.map enc)) (hk : PySem.W.Sortable (bs.map enc)) (hL : bs.length ≤ sizeLine)
    (hu : ∀ b, b ∈ bs → A.units + 2 + (enc b).depth < cLine) (h : ∀ out, out.length = bs.length → PySem.W.EachIs R out (bs.mergeSort (PySem.W.dataLe false enc)) → Q (.ref (s.heap.objs.size + 1)) { s with heap := sortedAll s.heap vs (List.toArray out) }) :
    wpAny (model prog w) A (call (.builtin "sorted") [u]) Q E s := by
  have er' : PySem.W.EachIs (fun v b => ∃ as, Reads (PySem.W.sortingHeap (PySem.W.copyHeap s.heap vs) (s.heap.objs.size + 1) vs) v (enc b) as) vs bs := er.mono fun _ _ ⟨as, r⟩ => ⟨as, PyProof.Rows.Reads.keeps (fun _ _ => PySem.W.sorting_copy_old) r⟩
  have hL' : vs.length ≤ sizeLine := by rw [e.length]; exact hL
  exact sorted_of_collect hcol hL' fun _ => PySem.W.list_sort_vals (s := { s with heap := PySem.W.copyHeap s.heap vs }) (PySem.W.copyHeap_at s.heap vs)
    (PySem.W.SortsAt.data (s := { s with heap := PySem.W.sortingHeap (PySem.W.copyHeap s.heap vs) (s.heap.objs.size + 1) vs }) (PySem.W.each_map (R := fun v d => ∃ as, Reads (PySem.W.sortingHeap (PySem.W.copyHeap s.heap vs) (s.heap.objs.size + 1) vs) v d as) enc er') hal hk (PySem.W.bound_map hu)) hL'
    ⟨rfl, h _ (by rw [PySem.W.sortVals_length false rfl]; exact e.length) (PySem.W.sortVals_data false e er' hal)⟩
end
section
variable {X : Cx} {nm : Nm}
theorem each_of {K : PySem.W.Frag} {H : Hp} {m : List Addr} : ∀ {ds : List D} {xs : List V} {us : List Value}, RVs K H m xs ds → Vals xs us → PySem.W.EachIs (fun v b => ∃ x, RelV x v ∧ RV K H m x b) us ds
  | _, _, _, .nil, .nil => .nil
  | _, _, _, .cons h r, .cons q t => .cons ⟨_, q, h⟩ (each_of r t)
theorem each_to {K : PySem.W.Frag} {H : Hp} {m : List Addr} : ∀ {us : List Value} {ds : List D}, PySem.W.EachIs (fun v b => ∃ x, RelV x v ∧ RV K H m x b) us ds → ∃ xs, RVs K H m xs ds ∧ Vals xs us
  | _, _, .nil => ⟨[], .nil, .nil⟩
  | _, _, .cons ⟨x, h1, h2⟩ t => by
    obtain ⟨xs, a, b⟩ := each_to t
    exact ⟨x :: xs, .cons h2 a, .cons h1 b⟩
theorem each_reads {pins : List (Addr × Obj)} {s : Shared} {σ : L2.St} {H : Hp} {m : List Addr} (I : Inv X pins σ H s) {k : Nat} : ∀ {ds : List D} {xs : List V} {us : List Value}, D.oks k ds = true → RVs X.K H m xs ds → Vals xs us → PySem.W.EachIs (fun v b => ∃ as, Reads s.heap v (D.py b) as) us ds
  | _, _, _, _, .nil, .nil => .nil
  | _, _, _, o, .cons h r, .cons q t => by
    simp only [D.oks, Bool.and_eq_true] at o
    exact .cons (Dp.reads I _ _ _ (dp_of _ o.1 h) q) (each_reads I o.2 r t)
theorem oks_mem0 {k : Nat} : ∀ {ds : List D} {d : D}, D.oks k ds = true → d ∈ ds → D.ok k d = true
  | _ :: ds, d, o, h => by
    simp only [D.oks, Bool.and_eq_true] at o
    rcases List.mem_cons.mp h with e | h
    · rw [e]; exact o.1
    · exact oks_mem0 o.2 h
theorem rising_le : ∀ {p : List Nat} {zs : List (List Nat)}, PyProof.Rows.risingS (mkS p) (zs.map mkS) = true → (∀ z ∈ zs, p ≤ z) ∧ zs.Pairwise (· ≤ ·)
  | p, [], _ => ⟨fun _ h => (by cases h), .nil⟩
  | p, z :: zs, h => by
    simp only [List.map_cons, PyProof.Rows.risingS, Bool.and_eq_true, Bool.not_eq_true'] at h
    obtain ⟨h1, h2⟩ := rising_le h.2
    have h3 : p ≤ z := by
      have := h.1
      rw [PyProof.Rows.ltCps_eq] at this
      have t2 : ¬ z < p := fun q => by simp [mkS, q] at this
      exact List.not_lt.mp t2
    refine ⟨fun y hy => ?_, .cons h1 h2⟩
    rcases List.mem_cons.mp hy with e | hy
    · rw [e]; exact h3
    · exact List.le_trans h3 (h1 y hy)
theorem mkS_sorted : ∀ {zs : List (List Nat)}, PyProof.Rows.sortedS (zs.map mkS) = true → zs.Pairwise (· ≤ ·)
  | [], _ => .nil
  | z :: zs, h => by
    obtain ⟨h1, h2⟩ := rising_le (p := z) (zs := zs) h
    exact .cons h1 h2
theorem bf_sorted (hc : X.calm = true) (hu : X.A.units + 65 < cLine) : CallR X (.builtin "sorted") (LB X nm fun ds h Q => bfW h .sorted ds Q) := by
  intro pins s σ H xs us Q I rv hq
  obtain ⟨m, h, ds, Qa, r, rh, w, fin⟩ := hq
  match ds, w with
  | [d], w =>
    obtain ⟨v, rfl, rv1⟩ := rvs1 r
    simp only [bfW] at w
    cases hk : dictOf h d with
    | some kvs =>
      rw [hk] at w
      obtain ⟨h64, w⟩ := w
      obtain ⟨a, vs, rfl, hrd, rk⟩ := dict_rd rh rv1 hk
      have hkeys := rk.keys
      rcases w with ⟨ks, ek, w⟩ | ⟨ks, ek, w⟩
      · have e1 : vs.map (·.1) = (ks.map mkS).map Sum.inr := by
          rw [hkeys, show (kvs.map fun p => toK p.1) = (kvs.map (·.1)).map toK by rw [List.map_map]; rfl, ek, List.map_map, List.map_map]
          rfl
        have l1 : ks.length < 64 := by
          have := congrArg List.length ek
          simp at this
          omega
        refine call_sortedD hc pins s σ H _ us Q I rv ⟨a, vs, ks.map mkS, rfl, hrd, e1, by simpa using l1, fun ys p hp hs hn => ?_⟩
        have ey : ys = (ys.map fun z => z.cps.toList).map mkS := by
          rw [List.map_map]
          conv => lhs; rw [← List.map_id ys]
          exact List.map_congr_left fun z _ => by simp [mkS]
        have pm : (ys.map fun z => z.cps.toList).Perm ks := by
          have := hp.map (fun z : Str => z.cps.toList)
          rw [List.map_map] at this
          have e2 : ks.map ((fun z : Str => z.cps.toList) ∘ mkS) = ks := by
            conv => rhs; rw [← List.map_id ks]
            exact List.map_congr_left fun z _ => by simp [mkS]
          rwa [e2] at this
        rw [ey] at hs
        have rz : RVs X.K H m (ys.map V.str) ((ys.map fun z => z.cps.toList).map D.str) := by
          clear hp hs pm ey
          induction ys with
          | nil => exact .nil
          | cons y ys ih =>
            refine .cons ?_ ih
            have : y = mkS y.cps.toList := by simp [mkS]
            conv => arg 4; rw [this]
            exact .str _
        obtain ⟨a1, a2, a3⟩ := new_lst rh hn rz
        exact fin _ _ _ _ _ a1 a2 a3 (w _ pm (mkS_sorted hs))
      · have e1 : vs.map (·.1) = ks.map Sum.inl := by
          rw [hkeys, show (kvs.map fun p => toK p.1) = (kvs.map (·.1)).map toK by rw [List.map_map]; rfl, ek, List.map_map]
          rfl
        have l1 : ks.length < 64 := by
          have := congrArg List.length ek
          simp at this
          omega
        refine call_sortedDI hc pins s σ H _ us Q I rv ⟨a, vs, ks, rfl, hrd, e1, l1, fun ys p hp hs hn => ?_⟩
        have rz : RVs X.K H m (ys.map V.int) (ys.map D.int) := by
          clear hp hs
          induction ys with
          | nil => exact .nil
          | cons y ys ih => exact .cons (.int _) ih
        obtain ⟨a1, a2, a3⟩ := new_lst rh hn rz
        exact fin _ _ _ _ _ a1 a2 a3 (w _ hp hs)
    | none =>
      rw [hk] at w
      obtain ⟨ys, e, hz, ⟨al, so, k, hk60, ok⟩, q⟩ := w
      obtain ⟨a, zs, rfl, hs, rz⟩ := items_of rh rv1 e
      obtain ⟨u, rfl, ru⟩ := vals1 rv
      cases ru
      have main : ∀ its : List Value, Vals zs its → (∀ {A : Around} {E : Value → Shared → Prop} {Q : List Value → Shared → Prop}, Q its { s with heap := (s.heap.push (seqObj "list" #[] 0)).update s.heap.objs.size (Obj.mapSeq (· ++ its.toArray)) } → wpAny (model X.prog X.w) A (collect (.ref a)) Q E s) →
          wpAny (model X.prog X.w) X.A (call (.builtin "sorted") [.ref a]) (EP X pins σ Q) X.xe s := by
        intro its vits hcol
        refine sorted_dataG (enc := D.py) hcol (each_of rz vits) (each_reads I ok rz vits) ?_ ?_ (by rw [← SZ_line]; exact hz) (fun b hb => ?_) fun out hl eo => ?_
        · intro p hp p' hp'
          obtain ⟨x, hx, rfl⟩ := List.mem_map.mp hp
          obtain ⟨y, hy, rfl⟩ := List.mem_map.mp hp'
          exact al x hx y hy
        · rcases so with so | so
          · left
            intro p hp
            obtain ⟨x, hx, rfl⟩ := List.mem_map.mp hp
            obtain ⟨y, r, rfl⟩ := so x hx
            exact ⟨y.py, D.pys r, by simp [D.py, D.pys]⟩
          · right
            intro p hp
            obtain ⟨x, hx, rfl⟩ := List.mem_map.mp hp
            obtain ⟨s1, s2⟩ := so x hx
            have okx := oks_mem0 ok hx
            refine ⟨fun z => ?_, fun ys z => ?_⟩
            · cases x <;> simp [D.py, D.ok] at z okx s1
            · cases x <;> simp [D.py, D.ok] at z okx
              exact s2 _ rfl
        · have := (ok_lay _ (oks_mem0 ok hb)).2
          omega
        · obtain ⟨zs', rz', vz'⟩ := each_to eo
          have hlen : zs'.length ≤ sizeLine := by rw [vz'.length, hl, ← SZ_line]; exact hz
          obtain ⟨ep, he'⟩ := PyProof.Rows.sortedAll_at s.heap its out.toArray
          have hp : H (s.heap.objs.size + 1) = none := I.hok.fresh (Nat.le_succ _)
          obtain ⟨a1, a2, a3⟩ := new_lst rh hp rz'
          exact ⟨.ref _, upd H (s.heap.objs.size + 1) (.lst zs'), I.laid (t' := s.toks) (fun _ _ => PyProof.Rows.sortedAll_old) (Nat.le_succ _) ⟨hlen, out, ep, vz', he'⟩, rfl, fin _ _ _ _ _ a1 a2 a3 q⟩
      rcases hs with hs | hs
      · obtain ⟨its, vits, pl, hz'⟩ := I.list hs
        exact main its vits fun q => collect_list pl.isList q (by rw [← vits.length]; exact hz')
      · obtain ⟨its, vits, pl, hz'⟩ := I.tuple hs
        exact main its vits fun q => collect_tupleS pl q (by rw [← vits.length]; exact hz')
theorem pairs_RV {H : Hp} {m : List Addr} : ∀ {ds : List D} {xs : List V} {kvs : List (Kd × D)}, pairsOf ds = some kvs → RVs X.K H m xs ds →
    ∃ (ps : List Addr) (vs : List (Key × V)), xs = ps.map V.ref ∧ Paired (fun p kv => SqT X.K H p [kV kv.1, kv.2]) ps vs ∧ RK X.K H m vs kvs
  | [], xs, kvs, e, r => by
    simp only [pairsOf, Option.some.injEq] at e
    subst e
    cases r
    exact ⟨[], [], rfl, .nil, .nil⟩
  | d :: ds, xs, kvs, e, r => by
    match d, e with
    | .tup [k, v], e =>
      simp only [pairsOf] at e
      split at e
      · rename_i k' r' e1 e2
        cases e
        cases r with
        | @cons x xs' _ _ h t =>
          obtain ⟨ps, vs, rfl, pr, rk⟩ := pairs_RV e2 t
          cases h with
          | @tup a ys _ hs rs =>
            obtain ⟨kv, vv, rfl, r1, r2⟩ := rvs2 rs
            have ek := key_rv r1 e1
            subst ek
            exact ⟨a :: ps, (toK k', vv) :: vs, rfl, .cons hs.sqT pr, .cons r2 rk⟩
      · cases e
theorem pairs_of2 {pins : List (Addr × Obj)} {σ : L2.St} {H : Hp} {s : Shared} (I : Inv X pins σ H s) : ∀ {ps : List Addr} {kvs : List (Key × V)}, Paired (fun p kv => SqT X.K H p [kV kv.1, kv.2]) ps kvs →
    ∃ (prs : List (Key × Value)) (kvv : List (Value × Value)), KV kvs prs ∧ prs.length = ps.length ∧ kvv.length = ps.length ∧ ∀ (j : Nat) (k v : Value), kvv[j]? = some (k, v) → ∃ (b : Addr) (q : Key), ps[j]? = some b ∧ IsTup s.heap b #[k, v] ∧ prs[j]? = some (q, v) ∧ keyIs q k = true
  | _, _, .nil => ⟨[], [], .nil, rfl, rfl, fun j k v e => by simp at e⟩
  | _, _, .cons (a := p) (b := kv) h t => by
    obtain ⟨prs, kvv, r, hl, hl2, hp⟩ := pairs_of2 I t
    obtain ⟨its, rv, ht, _⟩ := I.tuple h
    obtain ⟨u, y, ei, ru, ry⟩ := vals2 rv
    subst ei
    refine ⟨(kv.1, y) :: prs, (u, y) :: kvv, .cons ⟨rfl, ry⟩ r, by rw [List.length_cons, List.length_cons, hl], by rw [List.length_cons, List.length_cons, hl2], fun j k v e => ?_⟩
    cases j with
    | zero =>
      have e' : (u, y) = (k, v) := Option.some.inj e
      cases e'
      exact ⟨p, kv.1, rfl, ht, rfl, kV_is (P := X.prog) (w := X.w) ru⟩
    | succ j =>
      obtain ⟨b, u', e1, e2, e3, e4⟩ := hp j k v (by simpa using e)
      exact ⟨b, u', by simpa using e1, e2, by simpa using e3, e4⟩
theorem plainU {pins : List (Addr × Obj)} {σ : L2.St} {H : Hp} {s : Shared} {a : Addr} {xs : List V} (I : Inv X pins σ H s) (h : SqU X.K H a xs) : ∃ its : List Value, Vals xs its ∧ xs.length ≤ sizeLine ∧ ∃ o n, s.heap.get? a = some o ∧ o.cls = .type "tuple" ∧ o.dict = none ∧ o.data = .seq its.toArray n := by
  rcases h with ⟨o, h, hd⟩ | ⟨o, its, n, hk, hc, hd, hs, hz, r⟩
  · obtain ⟨e, z, its, r, ⟨o', e', hc, n, hs⟩⟩ := (show ObjOk X.prog X.w H s.heap a (.frz o (.tup xs)) from I.hok a _ h)
    rw [e] at e'
    cases e'
    exact ⟨its, r, z, o, n, e, hc, hd, hs⟩
  · refine ⟨its.toList, r, ?_, o, n, I.kIn a o hk, hc, hd, by simpa using hs⟩
    have e := r.length
    simp only [Array.length_toList] at e
    omega
theorem call_dictPT (hcalm : X.calm = true) : CallR X (.type "dict") (fun xs H Q => ∃ (a : Addr) (ps : List Addr) (kvs : List (Key × V)), xs = [.ref a] ∧ SqU X.K H a (ps.map V.ref) ∧ Paired (fun p kv => SqT X.K H p [kV kv.1, kv.2]) ps kvs ∧
    ∀ p, H p = none → Q (.ref p) (upd H p (.dK (mergeK [] kvs)))) := by
  intro pins s σ H xs us Q I r q
  obtain ⟨a, ps, kvs, ex, hq, hp, q⟩ := q
  subst ex
  obtain ⟨u, eu, rx⟩ := vals1 r
  subst eu
  cases rx
  obtain ⟨its, rv, hz, o, n, ho, hc, hd, hdat⟩ := plainU I hq
  have ei := refs_at rv
  subst ei
  rw [List.length_map] at hz
  obtain ⟨prs, kvv, rel, hl, hl2, hpr⟩ := pairs_of2 I hp
  refine PySem.call_dict_pairs (knd := mixKind X.prog X.w) (kvs := prs) (PairArg.tuple a (ps.map Value.ref).toArray (fun j => ps.getD j 0) kvv) (I.ok.hd hcalm) ⟨⟨o, n, ho, hc, hd, hdat⟩, ?_, fun j k v e => ?_⟩ ⟨by rw [hl, hl2], fun j k v e => ?_⟩ (by rw [hl2]; exact hz) fun h' tk hd' hk => ?_
  · simp [hl2]
  · obtain ⟨b, q', e1, e2, e3, e4⟩ := hpr j k v e
    have eb : ps.getD j 0 = b := by rw [List.getD_eq_getElem?_getD, e1]; rfl
    show (List.map Value.ref ps).toArray[j]? = some (Value.ref (ps.getD j 0)) ∧ PairAt s.heap (ps.getD j 0) k v
    rw [eb]
    exact ⟨by simp [e1], .inl e2⟩
  · obtain ⟨b, q', e1, e2, e3, e4⟩ := hpr j k v e
    exact ⟨q', e3, e4⟩
  · have hm : (s.heap.objs.size == sysModules) = false := beq_eq_false_iff_ne.mpr (Nat.ne_of_gt I.big)
    have hlen : (mergeK [] kvs).length ≤ sizeLine := by
      refine Nat.le_trans (length_mergeK kvs []) ?_
      rw [List.length_nil, Nat.zero_add, rel.length, hl]
      exact hz
    exact ⟨.ref s.heap.objs.size, upd H s.heap.objs.size (.dK (mergeK [] kvs)), I.laid (t' := tk) (fun b o e => hk b o (by simp) e) (Nat.le_refl _) (show ObjOk X.prog X.w _ _ _ (.dK (mergeK [] kvs)) from ⟨hlen, hm, merged [] prs, KV.merge rel .nil, hd'⟩), rfl, q _ (I.hok.fresh (Nat.le_refl _))⟩
theorem bf_dnew (hc : X.calm = true) : CallR X (.type "dict") (LB X nm fun ds h Q => bfW h .dnew ds Q) := by
  intro pins s σ H xs us Q I rv hq
  obtain ⟨m, h, ds, Qa, r, rh, w, fin⟩ := hq
  match ds, w with
  | [d], w =>
    obtain ⟨v, rfl, rv1⟩ := rvs1 r
    simp only [bfW] at w
    cases hk : dictOf h d with
    | some kvs =>
      rw [hk] at w
      obtain ⟨a, vs, rfl, hrd, rk⟩ := dict_rd rh rv1 hk
      obtain ⟨u, rfl, ru⟩ := vals1 rv
      cases ru
      refine d_copyOf I hrd fun p s' hp I' => ?_
      obtain ⟨a1, a2, a3⟩ := new_dk rh hp rk
      exact ⟨.ref p, _, I', rfl, fin _ _ _ _ _ a1 a2 a3 w⟩
    | none =>
      rw [hk] at w
      obtain ⟨ys, kvs, e, ep, q⟩ := w
      cases rv1 with
      | @tup a zs ds hs rz =>
        have ey : ds = ys := by simpa [itemsOf] using e
        subst ey
        obtain ⟨ps, vs, rfl, pr, rk⟩ := pairs_RV ep rz
        refine call_dictPT hc pins s σ H _ us Q I rv ⟨a, ps, vs, rfl, hs, pr, fun p hp => ?_⟩
        obtain ⟨a1, a2, a3⟩ := new_dk rh hp (RK.merge rk .nil)
        exact fin _ _ _ _ _ a1 a2 a3 q
      | @rol a zs ds hs rz =>
        have ey : ds = ys := by simpa [itemsOf] using e
        subst ey
        obtain ⟨ps, vs, rfl, pr, rk⟩ := pairs_RV ep rz
        refine call_dictP hc pins s σ H _ us Q I rv ⟨a, ps, vs, rfl, hs.sq, pr, fun p hp => ?_⟩
        obtain ⟨a1, a2, a3⟩ := new_dk rh hp (RK.merge rk .nil)
        exact fin _ _ _ _ _ a1 a2 a3 q
      | ref hm =>
        obtain ⟨a, zs, e', hs, rz⟩ := lst_of rh (.ref hm) (show lstOf h (.ref _) = some ys from e)
        cases e'
        obtain ⟨ps, vs, rfl, pr, rk⟩ := pairs_RV ep rz
        refine call_dictP hc pins s σ H _ us Q I rv ⟨_, ps, vs, rfl, hs, pr, fun p hp => ?_⟩
        obtain ⟨a1, a2, a3⟩ := new_dk rh hp (RK.merge rk .nil)
        exact fin _ _ _ _ _ a1 a2 a3 q
      | _ => simp [itemsOf] at e
theorem getD_RV {H : Hp} {m : List Addr} {vs : List (Key × V)} {kvs : List (Kd × D)} {k : Kd} {x : V} {d : D} (rk : RK X.K H m vs kvs) (r : RV X.K H m x d) : RV X.K H m ((valV vs (toK k)).getD x) ((valD kvs k).getD d) := by
  rcases rk.val k with ⟨h1, h2⟩ | ⟨v1, d1, h1, h2, h3⟩
  · rw [h1, h2]; exact r
  · rw [h1, h2]; exact h3
theorem bm_get (hu : X.A.units + 1 < cLine) : MtM X "dict.get" (LM X nm .get) := by
  intro pins s σ H x xs v us Q I rx rv hq
  obtain ⟨m, h, d, ds, Qa, r, rs, rh, w, fin⟩ := hq
  match ds, w with
  | [y], w =>
    obtain ⟨kvs, k, e, ek, q⟩ := w
    obtain ⟨a, vs, rfl, hrd, rk⟩ := dict_rd rh r e
    obtain ⟨yv, rfl, ry⟩ := rvs1 rs
    obtain ⟨u, rfl, ru⟩ := vals1 rv
    have := key_rv ry ek
    subst this
    cases rx
    exact d_get1 hu I (DGet.rd hrd) ru fun w' s' I' rw' => ⟨_, H, I', rw', fin _ _ _ _ _ (getD_RV rk .non) rh .refl q⟩
  | [y, z], w =>
    obtain ⟨kvs, k, e, ek, q⟩ := w
    obtain ⟨a, vs, rfl, hrd, rk⟩ := dict_rd rh r e
    obtain ⟨yv, zv, rfl, ry, rz⟩ := rvs2 rs
    obtain ⟨u, u2, rfl, ru, ru2⟩ := vals2 rv
    have := key_rv ry ek
    subst this
    cases rx
    exact d_get2 hu I (DGet.rd hrd) ru ru2 fun w' s' I' rw' => ⟨_, H, I', rw', fin _ _ _ _ _ (getD_RV rk rz) rh .refl q⟩
theorem bm_popk : MtM X "dict.pop" (LM X nm .popk) := by
  intro pins s σ H x xs v us Q I rx rv hq
  obtain ⟨m, h, d, ds, Qa, r, rs, rh, w, fin⟩ := hq
  match d, ds, w with
  | .ref n, [y], w =>
    obtain ⟨kvs, k, d1, e, ek, ev, q⟩ := w
    obtain ⟨a, vs, rfl, hm, hH, rk⟩ := the_dk rh r e
    obtain ⟨yv, rfl, ry⟩ := rvs1 rs
    obtain ⟨u, rfl, ru⟩ := vals1 rv
    have := key_rv ry ek
    subst this
    cases rx
    rcases rk.val k with ⟨h1, h2⟩ | ⟨v1, d2, h1, h2, h3⟩
    · rw [ev] at h2; cases h2
    · rw [ev] at h2; cases h2
      obtain ⟨a1, a2⟩ := set_dk rh hm hH (rk.drop k)
      refine d_pop I hH ru h1 (.inl rfl) fun w' s' I' rw' => ⟨v1, _, I', rw', fin _ _ _ _ _ (h3.ext a2) a1 a2 q⟩
end
end Rf
namespace Rf
open PySem PySem.Spec PyProof.Rows L2
section
variable {X : Cx} {nm : Nm} {H : Hp} {m : List Addr} {h : AH} {pins : List (Addr × Obj)} {σ : L2.St} {s : Shared}
theorem mkS_toList (x : Str) : mkS x.cps.toList = x := by
  cases x
  simp [mkS]
theorem bf_repr (hg : X.A.guards = some []) (hu : X.A.units + 65 < cLine) : CallR X (.builtin "repr") (LB X nm fun ds h Q => bfW h .repr ds Q) := by
  intro pins s σ H xs us Q I rv hq
  obtain ⟨m, h, ds, Qa, r, rh, w, fin⟩ := hq
  match ds, w with
  | [d], ⟨pd, e, hs, hn, hz, q⟩ =>
    obtain ⟨v, rfl, rv1⟩ := rvs1 r
    obtain ⟨u, rfl, ru⟩ := vals1 rv
    obtain ⟨as, rd, hno⟩ := rdDat I rh 40 d v u pd rv1 ru e
    have hdp := datA_depth h 40 d pd e
    have hsz : pd.shown.length ≤ sizeLine := by rw [← SZ_line]; exact hz
    have qq := fin _ _ _ _ _ (.str _) rh .refl q
    rw [mkS_toList] at qq
    have hsm : pd.hasDict = true → sysModules ∉ as := fun z => by
      rcases hn with hn | hn
      · rw [hn] at z; cases z
      · exact hno hn
    have go : ∀ a : Addr, u = Value.ref a → wpAny (model X.prog X.w) X.A (call (.builtin "repr") [u]) (EP X pins σ Q) X.xe s := by
      rintro a rfl
      refine PySem.repr_of_reads' rd hs hsm hg (by omega) (fun _ _ z => z) (fun h' u tk hk => ⟨.str _, H, I.kept hk, ⟨_, rfl⟩, qq⟩) hsz
    cases rd with
    | none => exact PySem.P.repr_of_none ⟨.str _, H, I.tok _, ⟨_, rfl⟩, qq⟩
    | bool b => exact PySem.P.repr_of_bool ⟨.str _, H, I.tok _, ⟨_, rfl⟩, by cases b <;> exact qq⟩
    | int i t => exact PySem.P.repr_of_int (by simpa [PyData.showable] using hs) ⟨.str _, H, I.tok _, ⟨_, rfl⟩, qq⟩
    | str x t => exact PySem.P.repr_of_str ⟨.str _, H, I.tok _, ⟨_, rfl⟩, qq⟩ hsz
    | list _ _ _ _ => exact go _ rfl
    | tuple _ _ _ _ => exact go _ rfl
    | dict _ _ _ _ _ => exact go _ rfl
end
end Rf
namespace Rf
open PySem PySem.Spec PyProof.Rows L2
section
variable {X : Cx} {nm : Nm}
theorem findIdx_some {α : Type} {p : α → Bool} : ∀ {l : List α} {j : Nat}, l.findIdx? p = some j → ∃ z, l[j]? = some z ∧ p z = true ∧ ∀ k z', k < j → l[k]? = some z' → p z' = false
  | [], _, h => by simp at h
  | a :: l, j, h => by
    rw [List.findIdx?_cons] at h
    cases hp : p a with
    | true =>
      rw [hp] at h
      simp at h
      subst h
      exact ⟨a, rfl, hp, fun k z' hk _ => absurd hk (Nat.not_lt_zero _)⟩
    | false =>
      rw [hp] at h
      simp only [Bool.false_eq_true, if_false, Option.map_eq_some_iff] at h
      obtain ⟨i, h1, rfl⟩ := h
      obtain ⟨z, e1, e2, e3⟩ := findIdx_some h1
      refine ⟨z, by simpa using e1, e2, fun k z' hk hz => ?_⟩
      cases k with
      | zero => simp at hz; subst hz; exact hp
      | succ k => exact e3 k z' (by omega) (by simpa using hz)
theorem items_eq {pins : List (Addr × Obj)} {s : Shared} {σ : L2.St} {H : Hp} {m : List Addr} {xs : List V} {ds : List D} {its : List Value} {y : D} {yv : V} {u : Value} (I : Inv X pins σ H s) (hu : X.A.units + 65 < cLine)
    (ry : RV X.K H m yv y) (rx : RelV yv u) (oy : D.ok 59 y = true) (rs : RVs X.K H m xs ds) (od : D.oks 59 ds = true) (rv : Vals xs its) :
    ∀ j (h1 : j < its.length) (d : D), ds[j]? = some d → SeqAt.EqAt X.A.in1 s its[j] u (D.eqv d y) := by
  intro j h1 d e
  obtain ⟨bs, r1⟩ := Dp.reads I _ _ _ (dp_of _ oy ry) rx
  obtain ⟨v, e1, rd⟩ := rs.get e
  obtain ⟨w, e2, rw'⟩ := Vals.get rv e1
  have ew : its[j] = w := by
    rw [List.getElem?_eq_getElem h1] at e2
    exact Option.some.inj e2
  have okd : D.ok 59 d = true := by
    clear ry rx oy rs rv e1 rd e2 ew h1 r1
    induction ds generalizing j with
    | nil => simp at e
    | cons a l ih =>
      simp only [D.oks, Bool.and_eq_true] at od
      cases j with
      | zero => simp at e; subst e; exact od.1
      | succ j => exact ih od.2 j (by simpa using e)
  obtain ⟨as, r2⟩ := Dp.reads I _ _ _ (dp_of _ okd rd) rw'
  have a1 := ok_lay _ okd
  have a2 := ok_lay _ oy
  rw [ew, ← eqv_py d y okd oy]
  refine SeqAt.eqAt_reads _ _ _ _ _ _ _ _ r2 r1 a1.1 a2.1 ?_
  show X.A.units + 1 + _ < cLine
  have := Nat.min_le_left d.py.depth y.py.depth
  omega
def ixId : D → String
  | .tup _ => "tuple.index"
  | _ => "list.index"
theorem bm_index (hu : X.A.units + 65 < cLine) {pins : List (Addr × Obj)} {s : Shared} {σ : L2.St} {H : Hp} {m : List Addr} {h : AH} {d y : D} {x yv : V} {v u : Value} {ds : List D} {j : Nat} {Q : VK} (I : Inv X pins σ H s)
    (rh : RH X.K nm H m h) (r : RV X.K H m x d) (rx : RelV x v) (e : itemsOf h d = some ds) (ry : RV X.K H m yv y) (rxy : RelV yv u) (oy : D.ok 59 y = true) (od : D.oks 59 ds = true) (hj : ds.findIdx? (fun z => D.eqv z y) = some j) (q : Q (.int j) H) :
    wpAny (model X.prog X.w) X.A (call (.builtin (ixId d)) [v, u]) (EP X pins σ Q) X.xe s := by
  obtain ⟨z, e1, e2, e3⟩ := findIdx_some hj
  have hjl := (List.getElem?_eq_some_iff.mp e1).1
  have fin : EP X pins σ Q (.int j s.toks) { s with toks := s.toks + 1 } := ⟨.int j, H, I.tok _, ⟨_, rfl⟩, q⟩
  have lst : ∀ (a : Addr) (xs : List V), SqL X.K H a xs → RVs X.K H m xs ds → wpAny (model X.prog X.w) X.A (call (.builtin "list.index") [.ref a, u]) (EP X pins σ Q) X.xe s := by
    intro a xs hs rs
    have l1 := rs.length
    obtain ⟨its, rv, ⟨⟨cls, dd, data, sls⟩, n, ho, hc, hdn, hdt⟩, hz⟩ := I.list hs
    simp only at hc hdt
    subst hc hdt
    have l2 := rv.length
    have hsl := sizeLine_eq
    have he := items_eq I hu ry rxy oy rs od rv
    refine call_meets F.slot_list_index ⟨_, ho, rfl⟩ F.entry_list_index (F.args_list_index_2 _ _)
      (SeqAt.list_index2_found a its.toArray n dd sls u (fun k => match ds[k]? with | some d => D.eqv d y | none => false) j (by simp; omega) (Nat.zero_le _) (by omega) ?_ ?_) ⟨ho, fun k hk => ?_, fin⟩
    · simp only [e1]; exact e2
    · intro k hk _ hlt
      have hk' : k < ds.length := by simp at hk; omega
      simp only [List.getElem?_eq_getElem hk']
      exact e3 k _ hlt (List.getElem?_eq_getElem hk')
    · have hk1 : k < its.length := by simpa using hk
      have hk' : k < ds.length := by omega
      have := he k hk1 _ (List.getElem?_eq_getElem hk')
      simp only [List.getElem?_eq_getElem hk']
      simpa using this
  cases d with
  | tup zs =>
    have : zs = ds := by simpa [itemsOf] using e
    subst this
    cases r with
    | @tup a xs _ hs rs =>
      cases rx
      have l1 := rs.length
      obtain ⟨its, rv, ⟨⟨cls, dd, data, sls⟩, ho, hc, n, hdt⟩, hz⟩ := I.tuple hs.sqT
      simp only at hc hdt
      subst hc hdt
      have l2 := rv.length
      have hsl := sizeLine_eq
      have he := items_eq I hu ry rxy oy rs od rv
      show wpAny (model X.prog X.w) X.A (call (.builtin "tuple.index") [.ref a, u]) (EP X pins σ Q) X.xe s
      refine call_meets F.slot_tuple_index ⟨_, ho, rfl⟩ F.entry_tuple_index (F.args_tuple_index_2 _ _)
        (SeqAt.tuple_index2_found a its.toArray n dd sls u (fun k => match zs[k]? with | some d => D.eqv d y | none => false) j (by simp; omega) (Nat.zero_le _) (by simp; omega) ?_ ?_) ⟨ho, fun k hk => ?_, fin⟩
      · simp only [e1]; exact e2
      · intro k hk _ hlt
        have hk' : k < zs.length := by simp at hk; omega
        simp only [List.getElem?_eq_getElem hk']
        exact e3 k _ hlt (List.getElem?_eq_getElem hk')
      · have hk1 : k < its.length := by simpa using hk
        have hk' : k < zs.length := by omega
        have := he k hk1 _ (List.getElem?_eq_getElem hk')
        simp only [List.getElem?_eq_getElem hk']
        simpa using this
  | rol zs =>
    have : zs = ds := by simpa [itemsOf] using e
    subst this
    cases r with
    | rol hs rs => cases rx; exact lst _ _ hs.sq rs
  | ref k =>
    cases q2 : h[k]? with
    | none => simp [itemsOf, q2] at e
    | some ob =>
      cases ob with
      | lst zs =>
        have : zs = ds := by simpa [itemsOf, q2] using e
        subst this
        obtain ⟨a, ws, rfl, hm, hH, rz⟩ := the_lst rh r q2
        cases rx
        exact lst _ _ (SqL.of hH) rz
      | _ => simp [itemsOf, q2] at e
  | _ => simp [itemsOf] at e
structure RIt (K : PySem.W.Frag) (nm : Nm) (H : Hp) (m : List Addr) (J : L2.It) (it : It) : Prop where
  at_ : ∀ (H2 : Hp) (m2 : List Addr) (h2 : AH), Ext H m H2 m2 → RH K nm H2 m2 h2 → it.ck h2 →
    (∀ (i : Nat) (d : D), it.xs[i]? = some d → J.go i H2 ∧ ∀ x H3, J.yld i H2 x H3 → RV K H3 m2 x d ∧ RH K nm H3 m2 h2 ∧ Ext H2 m2 H3 m2) ∧ J.stop it.xs.length H2
def LI (X : Cx) (nm : Nm) (w : Sa → AH → (It → AH → Prop) → EK → Prop) : TI := fun σ H R =>
  ∃ sa m h Qa Ea, RS X.K H m σ sa ∧ RH X.K nm H m h ∧ w sa h Qa Ea ∧ TKs X nm H m Ea ∧ ∀ J it H' m' h', RIt X.K nm H' m' J it → RH X.K nm H' m' h' → Ext H m H' m' → Qa it h' → R J H'
theorem PI.imp {X : Cx} {tg e : Expr} {t t' : TI} (h : PI X tg e t) (i : ∀ σ H Q, t' σ H Q → t σ H Q) : PI X tg e t' := ⟨fun pins s σ H Q I q => h.run pins s σ H Q I (i σ H Q q)⟩
theorem rit_lst {H : Hp} {m : List Addr} {h : AH} {v : V} {n : Nat} {ds : List D} (rh : RH X.K nm H m h) (r : RV X.K H m v (.ref n)) (e : h[n]? = some (.lst ds)) :
    ∃ a, v = .ref a ∧ (∃ xs, SqL X.K H a xs) ∧ RIt X.K nm H m (Itl X.K a) ⟨ds, fun h' => h'[n]? = some (.lst ds)⟩ := by
  obtain ⟨a, xs, rfl, hm, hH, rz⟩ := the_lst rh r e
  refine ⟨a, rfl, ⟨xs, SqL.of hH⟩, ⟨fun H2 m2 h2 ex rh2 ck => ?_⟩⟩
  obtain ⟨a', ws, e1, _, e2, rw'⟩ := the_lst rh2 (.ref (ex.get hm)) ck
  cases e1
  refine ⟨fun i d hd => ?_, ⟨ws, SqL.of e2, by rw [rw'.length]; exact Nat.le_refl _⟩⟩
  obtain ⟨w, e3, rw2⟩ := rw'.get hd
  refine ⟨⟨ws, w, SqL.of e2, e3⟩, fun x H3 y => ?_⟩
  obtain ⟨rfl, y⟩ := y
  have := y ws (SqL.of e2)
  rw [e3] at this
  cases this
  exact ⟨rw2, rh2, .refl⟩
theorem rit_keys {H : Hp} {m : List Addr} {a : Addr} {o : Obj} {vs : List (Key × V)} {kvs : List (Kd × D)} (hH : H a = some (.frz o (.dK vs))) (rk : RK X.K H m vs kvs) : RIt X.K nm H m (Itk a o vs) ⟨keysD kvs, fun _ => True⟩ := by
  refine ⟨fun H2 m2 h2 ex rh2 _ => ⟨fun i d hd => ?_, ⟨ex.frzs _ _ _ hH, by simp [keysD, rk.length]⟩⟩⟩
  have hi : i < kvs.length := by
    have := (List.getElem?_eq_some_iff.mp hd).1
    simpa [keysD] using this
  refine ⟨⟨ex.frzs _ _ _ hH, by rw [rk.length]; exact hi⟩, fun x H3 y => ?_⟩
  obtain ⟨rfl, k, v, e, rfl⟩ := y
  obtain ⟨w, e2, rw2⟩ := rk.keysV.get hd
  rw [List.getElem?_map, e] at e2
  cases e2
  exact ⟨rw2.ext ex, rh2, .refl⟩
theorem rit_tup {H : Hp} {m : List Addr} {a : Addr} {xs : List V} {ds : List D} (h1 : SqT X.K H a xs) (r : RVs X.K H m xs ds) : RIt X.K nm H m (Itt X.K a) ⟨ds, fun _ => True⟩ := by
  refine ⟨fun H2 m2 h2 ex rh2 _ => ⟨fun i d hd => ?_, ⟨xs, ex.sqT h1, by rw [r.length]; exact Nat.le_refl _⟩⟩⟩
  obtain ⟨w, e3, rw2⟩ := r.get hd
  refine ⟨⟨xs, w, ex.sqT h1, e3⟩, fun x H3 y => ?_⟩
  obtain ⟨rfl, y⟩ := y
  have := y xs (ex.sqT h1)
  rw [e3] at this
  cases this
  exact ⟨rw2.ext ex, rh2, .refl⟩
theorem rit_rol {H : Hp} {m : List Addr} {a : Addr} {xs : List V} {ds : List D} (h1 : SqF X.K H a xs) (r : RVs X.K H m xs ds) : RIt X.K nm H m (Itl X.K a) ⟨ds, fun _ => True⟩ := by
  refine ⟨fun H2 m2 h2 ex rh2 _ => ⟨fun i d hd => ?_, ⟨xs, (ex.sqF h1).sq, by rw [r.length]; exact Nat.le_refl _⟩⟩⟩
  obtain ⟨w, e3, rw2⟩ := r.get hd
  refine ⟨⟨xs, w, (ex.sqF h1).sq, e3⟩, fun x H3 y => ?_⟩
  obtain ⟨rfl, y⟩ := y
  have := y xs (ex.sqF h1).sq
  rw [e3] at this
  cases this
  exact ⟨rw2.ext ex, rh2, .refl⟩
theorem rit_str {H : Hp} {m : List Addr} {x : List Nat} : RIt X.K nm H m (Its (mkS x)) ⟨x.map fun c => .str [c], fun _ => True⟩ := by
  refine ⟨fun H2 m2 h2 ex rh2 _ => ⟨fun i d hd => ?_, by show (mkS x).cps.size ≤ _; simp [mkS]⟩⟩
  have hi : i < x.length := by
    have := (List.getElem?_eq_some_iff.mp hd).1
    simpa using this
  refine ⟨by show i < (mkS x).cps.size; simpa [mkS] using hi, fun v H3 y => ?_⟩
  obtain ⟨rfl, c, e, rfl⟩ := y
  have e' : x[i]? = some c := by simpa [mkS] using e
  have : d = .str [c] := by
    rw [List.getElem?_map, e'] at hd
    simpa using hd.symm
  subst this
  exact ⟨.str [c], rh2, .refl⟩
theorem rit_range {H : Hp} {m : List Addr} (lo : Int) (n : Nat) : RIt X.K nm H m (Itr lo n) ⟨(List.range n).map fun (i : Nat) => .int (lo + (i : Int)), fun _ => True⟩ := by
  refine ⟨fun H2 m2 h2 ex rh2 _ => ⟨fun i d hd => ?_, by show n ≤ _; simp⟩⟩
  have hi : i < n := by
    have := (List.getElem?_eq_some_iff.mp hd).1
    simpa using this
  refine ⟨hi, fun v H3 y => ?_⟩
  obtain ⟨rfl, rfl⟩ := y
  have : d = .int (lo + (i : Int)) := by
    rw [List.getElem?_map, List.getElem?_range hi] at hd
    simpa using hd.symm
  subst this
  exact ⟨.int _, rh2, .refl⟩
theorem rit_rangeC {H : Hp} {m : List Addr} (lo c : Int) (n : Nat) : RIt X.K nm H m (Itc lo c n) ⟨(List.range n).map fun (i : Nat) => .int (lo + (i : Int) * c), fun _ => True⟩ := by
  refine ⟨fun H2 m2 h2 ex rh2 _ => ⟨fun i d hd => ?_, by show n ≤ _; simp⟩⟩
  have hi : i < n := by
    have := (List.getElem?_eq_some_iff.mp hd).1
    simpa using this
  refine ⟨hi, fun v H3 y => ?_⟩
  obtain ⟨rfl, rfl⟩ := y
  have : d = .int (lo + (i : Int) * c) := by
    rw [List.getElem?_map, List.getElem?_range hi] at hd
    simpa using hd.symm
  subst this
  exact ⟨.int _, rh2, .refl⟩
inductive Src where
  | lst (a : Addr)
  | tup (a : Addr)
def Src.sq (K : PySem.W.Frag) (H : Hp) : Src → List V → Prop
  | .lst a => SqL K H a
  | .tup a => SqT K H a
def Src.a : Src → Addr
  | .lst a => a
  | .tup a => a
def Src.iter (h : Heap) (it : Addr) (i : Nat) : Src → Prop
  | .lst a => h.IsListIter it a i
  | .tup a => h.IsTupleIter it a i
theorem Src.inj {c : Src} {pins : List (Addr × Obj)} {s : Shared} {σ : L2.St} {H : Hp} {xs ys : List V} (I : Inv X pins σ H s) (h : c.sq X.K H xs) (h' : c.sq X.K H ys) : xs = ys := by
  cases c with
  | lst a => exact I.list_inj h h'
  | tup a => exact I.tuple_inj h h'
theorem Src.obj {c : Src} {h : Heap} {it : Addr} {i : Nat} (st : c.iter h it i) : ∃ o, h.get? it = some o ∧ ∀ v, o.data ≠ .cell v := by
  cases c with
  | lst a => obtain ⟨o, ho, hc, hd⟩ := st; exact ⟨o, ho, fun v q => by rw [hd] at q; cases q⟩
  | tup a => obtain ⟨o, ho, hc, hd⟩ := st; exact ⟨o, ho, fun v q => by rw [hd] at q; cases q⟩
theorem Src.at_ {c : Src} {h h' : Heap} {it : Addr} {i : Nat} (st : c.iter h it i) (k : ∀ o, h.get? it = some o → h'.get? it = some o) : c.iter h' it i := by
  cases c with
  | lst a => exact Heap.IsListIter.at st k
  | tup a => exact Heap.IsTupleIter.at st k
theorem Src.draws {c : Src} {pins : List (Addr × Obj)} {s : Shared} {σ : L2.St} {H : Hp} {xs : List V} (I : Inv X pins σ H s) (hh : X.A.handled = none) (h : c.sq X.K H xs) (it : Addr) (hit : it ≠ c.a) :
    ∃ (its : List Value) (St : Nat → Heap → Prop), Vals xs its ∧ Draws X.prog X.w X.A.in1 it [it, c.a] its.length (fun i v => its[i]? = some v) St ∧ (∀ i, c.iter s.heap it i → St i s.heap) ∧ (∀ i h', St i h' → c.iter h' it i) := by
  cases c with
  | lst a =>
    obtain ⟨its, rv, p, hz⟩ := I.list h
    refine ⟨its, fun i h => h.IsListIter it a i ∧ h.IsList a its.toArray, rv, ?_, fun i st => ⟨st, p.isList⟩, fun i h' st => st.1⟩
    have D := Draws.list (prog := X.prog) (w := X.w) (A := X.A.in1) hh it a (Ne.symm hit) its.toArray
    simpa [Src.a] using D
  | tup a =>
    obtain ⟨its, rv, p, hz⟩ := I.tuple h
    refine ⟨its, fun i h => h.IsTupleIter it a i ∧ h.IsTuple a its.toArray, rv, ?_, fun i st => ⟨st, p⟩, fun i h' st => st.1⟩
    have D := Draws.tuple (prog := X.prog) (w := X.w) (A := X.A.in1) hh it a (Ne.symm hit) its.toArray
    simpa [Src.a] using D
theorem Src.begins {c : Src} {pins : List (Addr × Obj)} {s : Shared} {σ : L2.St} {H : Hp} {xs : List V} (I : Inv X pins σ H s) (h : c.sq X.K H xs) :
    ∃ (o : Obj) (B : Heap → Prop), Begins (.ref c.a) o B ∧ B s.heap ∧ c.a < s.heap.objs.size ∧ ∀ (h' : Heap) (it : Addr), h'.get? it = some o → c.iter h' it 0 := by
  cases c with
  | lst a =>
    obtain ⟨its, rv, p, hz⟩ := I.list h
    refine ⟨_, _, begins_list a its.toArray, p.isList, ?_, fun h' it e => ⟨_, e, rfl, rfl⟩⟩
    obtain ⟨o, n, e, _⟩ := p
    exact Heap.lt_size e
  | tup a =>
    obtain ⟨its, rv, p, hz⟩ := I.tuple h
    refine ⟨_, _, begins_tuple a its.toArray, p, ?_, fun h' it e => ⟨_, e, rfl, rfl⟩⟩
    obtain ⟨o, e, _⟩ := p
    exact Heap.lt_size e
theorem meets_enumerate_new1 {v : Value} {o : Obj} {H : Heap → Prop} (B : Begins v o H) :
    Meets (Builtin.«enumerate.__new__» ⟨[.type "enumerate", v], []⟩) (fun _ R s => H s.heap ∧
      R (.ok (.ret (.ref (s.heap.push o).objs.size))) { s with heap := (s.heap.push o).push { cls := .type "enumerate", data := .fields #[.none, .bool false, .ref s.heap.objs.size, rawInt 0, .none, .none] } }) :=
  .of_wp fun prog w A R s h => by
    obtain ⟨hp, g, d, tk, os⟩ := s; obtain ⟨h1, h⟩ := h
    have hsub := sub_enumerate
    have q1 : ∀ {A' : Around} {E : Value → Shared → Prop} {Q : Value → Shared → Prop}, Q (.ref hp.objs.size) ⟨hp.push o, g, d, tk, os⟩ → wpAny (model prog w) A' (pyIter v) Q E ⟨hp, g, d, tk, os⟩ :=
      fun q => B.iter prog w _ _ ⟨hp, g, d, tk, os⟩ _ h1 q
    wp_walk using q1
    refine wpAny_stack_any fun st => wpAny_pure ?_
    split
    · rename_i c _ _ _ _ _
      cases (c == Value.type "enumerate")
      · wp_walk using q1
        exact ⟨_, rfl, h⟩
      · wp_walk using q1
        exact ⟨_, rfl, h⟩
    · wp_walk using q1
      exact ⟨_, rfl, h⟩
theorem enum_begins0 {prog : Program} {w : World} {A : Around} {E : Value → Shared → Prop} {s : Shared} {v : Value} {o : Obj} {H : Heap → Prop} {Q : Value → Shared → Prop} (B : Begins v o H) (h1 : H s.heap)
    (h : ∀ h', IsEnum h' (s.heap.objs.size + 1) s.heap.objs.size 0 .none → h'.get? s.heap.objs.size = some o → h'.objs.size = s.heap.objs.size + 2 →
      (∀ b o, s.heap.get? b = some o → h'.get? b = some o) → Q (.ref (s.heap.objs.size + 1)) { s with heap := h' }) :
    wpAny (model prog w) A (call (.type "enumerate") [v]) Q E s := by
  refine callType_new F.called_enumerate (by decide) (F.typeCall_enumerate_1 _) (F.newCall_enumerate_1 _) (fun obj => F.args_object_init_2 obj _) F.entry_enumerate_new
    (meets_enumerate_new1 B) ⟨h1, ?_⟩
  have hz : (s.heap.push o).objs.size = s.heap.objs.size + 1 := Heap.size_push ..
  show _ ∧ _
  rw [hz]
  have he : IsEnum ((s.heap.push o).push { cls := .type "enumerate", data := .fields #[.none, .bool false, .ref s.heap.objs.size, rawInt 0, .none, .none] }) (s.heap.objs.size + 1) s.heap.objs.size 0 .none := by
    have := Heap.get?_push_size (s.heap.push o) (o := { cls := .type "enumerate", data := .fields #[.none, .bool false, .ref s.heap.objs.size, rawInt 0, .none, .none] }) rfl
    rw [hz] at this; exact this
  refine ⟨⟨_, he, rfl⟩, h _ he (Heap.get?_push_of_some _ (Heap.get?_push_size _ B.free)) (by rw [Heap.size_push, hz]) fun b o x => Heap.get?_push_of_some _ (Heap.get?_push_of_some _ x)⟩
def IteG (K : PySem.W.Frag) (c : Src) : L2.It :=
  ⟨fun i H => ∃ (xs : List V) (x : V), c.sq K H xs ∧ xs[i]? = some x, fun i H v H' => ∃ T x, v = .ref T ∧ H T = none ∧ H' = upd H T (.tup [.int (i : Nat), x]) ∧ ∀ xs, c.sq K H xs → xs[i]? = some x, fun i H => ∃ xs : List V, c.sq K H xs ∧ xs.length = i⟩
theorem turn_enumG {P : Program} {w : World} {K : PySem.W.Frag} {elts : List Expr} {kk : Nat} {tpos : Pos} (c : Src) (e it : Addr) (hei : e ≠ it) (hea : e ≠ c.a) (hia : it ≠ c.a) :
    Turn P w K (.Tuple elts kk tpos) (IteG K c) [e, it] e (fun i h => (∃ old, IsEnum h e it ((i : Nat) : Int) old) ∧ c.iter h it i) where
  mem := by simp
  obj := fun i h st b hb => by
    obtain ⟨⟨old, he⟩, hi⟩ := st
    have e' : b = e ∨ b = it := by simpa using hb
    rcases e' with z | z
    · rw [z]; exact ⟨_, he, fun v q => nomatch q⟩
    · rw [z]; exact Src.obj hi
  keep := fun i h h' st k => let ⟨⟨old, he⟩, hi⟩ := st; ⟨⟨old, k e (by simp) _ he⟩, Src.at_ hi fun o q => k it (by simp) o q⟩
  item := by
    intro X hP hw hK hc i pins s σ H E I hf st hg
    subst hP hw hK
    obtain ⟨⟨old, he⟩, hit⟩ := st
    obtain ⟨xs, x, hq, hx⟩ := hg
    obtain ⟨its, St, rv, D, to_, of_⟩ := Src.draws I (I.ok.hd hc) hq it hia
    obtain ⟨u, hu, ru⟩ := rv.get hx
    have hlt : i < its.length := (List.getElem?_eq_some_iff.mp hu).1
    have G := GoesN.enumFrom (elts := elts) (x1 := kk) (pos := tpos) 0 D e hei (by simp [hei, hea]) (by simp)
    refine wpAny_mono (G.goes i s (fun v s2 => ∃ y H', Inv X pins σ H' s2 ∧ RelV y v ∧ (IteG X.K c).yld i H y H' ∧ ((∃ old, IsEnum s2.heap e it (((i + 1 : Nat)) : Int) old) ∧ c.iter s2.heap it (i + 1)) ∧ ∀ b ∈ [e, it], H' b = none) E hlt ⟨⟨old, by simpa using he⟩, to_ i hit⟩ ?_) (fun r s1 h1 => h1) (fun _ _ q => q)
    intro v h' tk ⟨T, t, y, ev, hn, hy, hT⟩ st' hk htk
    subst ev
    have hyu : y = u := by rw [hu] at hy; exact (Option.some.inj hy).symm
    subst hyu
    have hT0 : H T = none := I.hok.fresh hn
    have new : ObjOk X.prog X.w (upd H T (.tup [.int (i : Nat), x])) h' T (.tup [.int (i : Nat), x]) :=
      ⟨by show 2 ≤ sizeLine; decide, [.int (0 + (i : Int)) t, y], .cons ⟨t, by simp⟩ (.cons ru .nil), hT⟩
    have I1 : Inv X pins σ (upd H T (.tup [.int (i : Nat), x])) { s with heap := h', toks := tk } := I.turnedNew (ch := [e, it]) (fun b ob hb q => hk b ob hb q) hf hn new
    refine ⟨.ref T, _, I1, rfl, ⟨T, x, rfl, hT0, rfl, fun ys hy => by rw [Src.inj I hy hq]; exact hx⟩, ⟨?_, of_ _ _ st'.2⟩, fun b hb => ?_⟩
    · obtain ⟨old', q⟩ := st'.1
      exact ⟨old', by simpa using q⟩
    · have hb' : b ≠ T := by
        rintro rfl
        obtain ⟨ob, q, _⟩ : ∃ ob, s.heap.get? b = some ob ∧ True := by
          have e' : b = e ∨ b = it := by simpa using hb
          rcases e' with z | z
          · rw [z]; exact ⟨_, he, trivial⟩
          · rw [z]; obtain ⟨o, q, _⟩ := Src.obj hit; exact ⟨o, q, trivial⟩
        exact absurd (Heap.lt_size q) (Nat.not_lt.mpr hn)
      rw [upd_ne hb']
      exact (hf b hb).1
  done := by
    intro X hP hw hK hc i pins s σ H E I hf st hg
    subst hP hw hK
    obtain ⟨⟨old, he⟩, hit⟩ := st
    obtain ⟨xs, hq, hx⟩ := hg
    obtain ⟨its, St, rv, D, to_, of_⟩ := Src.draws I (I.ok.hd hc) hq it hia
    have hl := rv.length
    have hi : i = its.length := by omega
    subst hi
    have G := GoesN.enumFrom (elts := elts) (x1 := kk) (pos := tpos) 0 D e hei (by simp [hei, hea]) (by simp)
    exact G.stops s _ E ⟨⟨old, by simpa using he⟩, to_ _ hit⟩ fun h' tk hk _ => I.turnedL (t' := tk) (ch := [e, it]) (fun b o hb q => hk b o hb q) hf
  self := fun A i s Q E st h => let ⟨⟨_, he⟩, _⟩ := st; wpAny_pyIter_enum he h
theorem pi_enumG {e : Expr} {p pos tpos : Pos} {elts : List Expr} {kk : Nat} {ta : TA} (hg : Gl X "enumerate") (hm : X.mg "enumerate" = none) (ha : PA X [e] ta) (hs : starEach [e] X.env = [(false, eval e X.env)]) :
    PI X (.Tuple elts kk tpos) (.Call (.Name "enumerate" p) [e] [] pos) (fun σ H R => ta σ H fun vs H1 => ∃ (c : Src) (xs : List V), vs = [.ref c.a] ∧ c.sq X.K H1 xs ∧ R (IteG X.K c) H1) := by
  refine ⟨fun pins s σ H R I h => ?_⟩
  refine Call_ (ld_blt I hg hm boot_enumerate (PyProof.Rows.callWith_type1 (thn (ha.run pos pins s σ H _ I h) fun us s1 ⟨vs, H1, I1, r1, q1⟩ => ?_) hs rfl))
  obtain ⟨c, xs, ex, hq, q⟩ := q1
  subst ex
  cases r1 with
  | cons r rr =>
    cases rr
    cases r
    obtain ⟨o, B, hB, h1, hlt, hbeg⟩ := Src.begins I1 hq
    refine enum_begins0 hB h1 fun h' he ho hsz hk => wpAny_pyIter_enum he ?_
    have I2 : Inv X pins σ H1 { s1 with heap := h' } := I1.kept (t' := s1.toks) hk
    have ne1 : s1.heap.objs.size + 1 ≠ s1.heap.objs.size := Nat.succ_ne_self _
    have ne2 : s1.heap.objs.size + 1 ≠ c.a := Nat.ne_of_gt (Nat.lt_succ_of_lt hlt)
    have ne3 : s1.heap.objs.size ≠ c.a := Nat.ne_of_gt hlt
    refine ⟨s1.heap.objs.size + 1, [s1.heap.objs.size + 1, s1.heap.objs.size], _, _, H1, rfl, I2, turn_enumG c (s1.heap.objs.size + 1) s1.heap.objs.size ne1 ne2 ne3, ⟨⟨.none, he⟩, hbeg _ _ ho⟩, fun b hb => ?_, q⟩
    have e' : b = s1.heap.objs.size + 1 ∨ b = s1.heap.objs.size := by simpa using hb
    have hle : s1.heap.objs.size ≤ b := by
      rcases e' with z | z
      · rw [z]; exact Nat.le_add_right _ _
      · rw [z]; exact Nat.le_refl _
    exact I1.fpOk hle (I1.hok.fresh hle)
def ItzG (K : PySem.W.Frag) (a b : Src) : L2.It :=
  ⟨fun i H => ∃ (xs ys : List V) (x y : V), a.sq K H xs ∧ b.sq K H ys ∧ xs[i]? = some x ∧ ys[i]? = some y,
    fun i H v H' => ∃ T x y, v = .ref T ∧ H T = none ∧ H' = upd H T (.tup [x, y]) ∧ (∀ xs, a.sq K H xs → xs[i]? = some x) ∧ ∀ ys, b.sq K H ys → ys[i]? = some y,
    fun i H => ∃ xs ys : List V, a.sq K H xs ∧ b.sq K H ys ∧ min xs.length ys.length = i⟩
structure ZApart (z TI TO i1 i2 : Addr) (a b : Addr) : Prop where
  S : ZipSep2 z TI TO i1 i2 [i1, a] [i2, b]
  n1 : i1 ≠ a
  n2 : i2 ≠ b
theorem turn_zipG {P : Program} {w : World} {K : PySem.W.Frag} {elts : List Expr} {kk : Nat} {tpos : Pos} (a b : Src) {z TI TO i1 i2 : Addr} (A : ZApart z TI TO i1 i2 a.a b.a) :
    Turn P w K (.Tuple elts kk tpos) (ItzG K a b) [z, TI, TO, i1, i2] z (fun i h => IsZip h z TI TO .none ∧ IsTupOf2 h TI (.ref i1) (.ref i2) ∧ (∃ x y, IsTupOf2 h TO x y) ∧ a.iter h i1 i ∧ b.iter h i2 i) where
  mem := by simp
  obj := fun i h st c hc => by
    obtain ⟨hz, hTI, ⟨x, y, hTO⟩, h1, h2⟩ := st
    have e' : c = z ∨ c = TI ∨ c = TO ∨ c = i1 ∨ c = i2 := by simpa using hc
    rcases e' with q | q | q | q | q
    · rw [q]; exact ⟨_, hz, fun v q => nomatch q⟩
    · rw [q]; exact ⟨_, hTI, fun v q => nomatch q⟩
    · rw [q]; exact ⟨_, hTO, fun v q => nomatch q⟩
    · rw [q]; exact Src.obj h1
    · rw [q]; exact Src.obj h2
  keep := fun i h h' st k => by
    obtain ⟨hz, hTI, ⟨x, y, hTO⟩, h1, h2⟩ := st
    exact ⟨k z (by simp) _ hz, k TI (by simp) _ hTI, ⟨x, y, k TO (by simp) _ hTO⟩, Src.at_ h1 fun o q => k i1 (by simp) o q, Src.at_ h2 fun o q => k i2 (by simp) o q⟩
  item := by
    intro X hP hw hK hc i pins s σ H E I hf st hg
    subst hP hw hK
    have st0 := st
    obtain ⟨hz, hTI, hTO, h1, h2⟩ := st
    obtain ⟨xs, ys, x, y, hqx, hqy, hx, hy⟩ := hg
    obtain ⟨its, St1, rv, D1, to1, of1⟩ := Src.draws I (I.ok.hd hc) hqx i1 A.n1
    obtain ⟨its2, St2, rv2, D2, to2, of2⟩ := Src.draws I (I.ok.hd hc) hqy i2 A.n2
    obtain ⟨u, hu, ru⟩ := rv.get hx
    obtain ⟨u2, hu2, ru2⟩ := rv2.get hy
    have hlt : i < min its.length its2.length := by
      have a1 := (List.getElem?_eq_some_iff.mp hu).1
      have a2 := (List.getElem?_eq_some_iff.mp hu2).1
      omega
    have G := GoesN.zip2 (elts := elts) (x1 := kk) (pos := tpos) A.S D1 D2
    have inC : ∀ b ∈ [z, TO, i1, i2], b ∈ [z, TI, TO, i1, i2] := by intro b hb; simp at hb ⊢; rcases hb with q | q | q | q <;> simp [q]
    refine wpAny_mono (G.goes i s (fun v s2 => ∃ yv H', Inv X pins σ H' s2 ∧ RelV yv v ∧ (ItzG X.K a b).yld i H yv H' ∧ (IsZip s2.heap z TI TO .none ∧ IsTupOf2 s2.heap TI (.ref i1) (.ref i2) ∧ (∃ x y, IsTupOf2 s2.heap TO x y) ∧ a.iter s2.heap i1 (i + 1) ∧ b.iter s2.heap i2 (i + 1)) ∧ ∀ b ∈ [z, TI, TO, i1, i2], H' b = none) E hlt ⟨hz, hTI, hTO, to1 i h1, to2 i h2⟩ ?_) (fun r s1 h1 => h1) (fun _ _ q => q)
    intro v h' tk ⟨T, x', y', ev, hn, hx', hy', hT⟩ st' hk htk
    subst ev
    have e1 : x' = u := by rw [hu] at hx'; exact (Option.some.inj hx').symm
    have e2 : y' = u2 := by rw [hu2] at hy'; exact (Option.some.inj hy').symm
    subst e1 e2
    have hT0 : H T = none := I.hok.fresh hn
    have new : ObjOk X.prog X.w (upd H T (.tup [x, y])) h' T (.tup [x, y]) := ⟨by show 2 ≤ sizeLine; decide, [x', y'], .cons ru (.cons ru2 .nil), hT⟩
    have I1 : Inv X pins σ (upd H T (.tup [x, y])) { s with heap := h', toks := tk } := I.turnedNew (ch := [z, TI, TO, i1, i2]) (fun b ob hb q => hk b ob (fun q' => hb (inC b q')) q) hf hn new
    refine ⟨.ref T, _, I1, rfl, ⟨T, x, y, rfl, hT0, rfl, fun l hl => by rw [Src.inj I hl hqx]; exact hx, fun l hl => by rw [Src.inj I hl hqy]; exact hy⟩, ⟨st'.1, st'.2.1, st'.2.2.1, of1 _ _ st'.2.2.2.1, of2 _ _ st'.2.2.2.2⟩, fun c hb => ?_⟩
    have hb' : c ≠ T := by
      rintro rfl
      obtain ⟨ob, q⟩ : ∃ ob, s.heap.get? c = some ob := by
        have e' : c = z ∨ c = TI ∨ c = TO ∨ c = i1 ∨ c = i2 := by simpa using hb
        rcases e' with q | q | q | q | q
        · rw [q]; exact ⟨_, hz⟩
        · rw [q]; exact ⟨_, hTI⟩
        · rw [q]; obtain ⟨_, _, q⟩ := hTO; exact ⟨_, q⟩
        · rw [q]; obtain ⟨o, q, _⟩ := Src.obj h1; exact ⟨o, q⟩
        · rw [q]; obtain ⟨o, q, _⟩ := Src.obj h2; exact ⟨o, q⟩
      exact absurd (Heap.lt_size q) (Nat.not_lt.mpr hn)
    rw [upd_ne hb']
    exact (hf c hb).1
  done := by
    intro X hP hw hK hc i pins s σ H E I hf st hg
    subst hP hw hK
    obtain ⟨hz, hTI, hTO, h1, h2⟩ := st
    obtain ⟨xs, ys, hqx, hqy, hend⟩ := hg
    obtain ⟨its, St1, rv, D1, to1, of1⟩ := Src.draws I (I.ok.hd hc) hqx i1 A.n1
    obtain ⟨its2, St2, rv2, D2, to2, of2⟩ := Src.draws I (I.ok.hd hc) hqy i2 A.n2
    have hl1 := rv.length
    have hl2 := rv2.length
    have hi : i = min its.length its2.length := by omega
    subst hi
    have G := GoesN.zip2 (elts := elts) (x1 := kk) (pos := tpos) A.S D1 D2
    have inC : ∀ b ∈ [z, TO, i1, i2], b ∈ [z, TI, TO, i1, i2] := by intro b hb; simp at hb ⊢; rcases hb with q | q | q | q <;> simp [q]
    exact G.stops s _ E ⟨hz, hTI, hTO, to1 _ h1, to2 _ h2⟩ fun h' tk hk _ => I.turnedL (t' := tk) (ch := [z, TI, TO, i1, i2]) (fun b o hb q => hk b o (fun q' => hb (inC b q')) q) hf
  self := fun A i s Q E st h => wpAny_pyIter_zip st.1 h
theorem pi_zipG {e e2 : Expr} {ta : TA} {p pos tpos : Pos} {elts : List Expr} {kk : Nat} (hg : Gl X "zip") (hm : X.mg "zip" = none) (ha : PA X [e, e2] ta)
    (hs : starEach [e, e2] X.env = (false, eval e X.env) :: starEach [e2] X.env) (hpl : (backTo pos (starEach [e2] X.env)).any (·.1) = false) :
    PI X (.Tuple elts kk tpos) (.Call (.Name "zip" p) [e, e2] [] pos) (fun σ H R => ta σ H fun vs H1 => ∃ (a b : Src) (xs ys : List V), vs = [.ref a.a, .ref b.a] ∧ a.sq X.K H1 xs ∧ b.sq X.K H1 ys ∧ R (ItzG X.K a b) H1) := by
  refine ⟨fun pins s σ H R I h => ?_⟩
  refine Call_ (ld_blt I hg hm PyProof.Rows.boot_zip (PyProof.Rows.callWith_type1 (thn (ha.run pos pins s σ H _ I h) fun us s1 ⟨vs, H1, I1, r1, q1⟩ => ?_) hs hpl))
  obtain ⟨a, b, xs, ys, ex, hqx, hqy, q⟩ := q1
  subst ex
  cases r1 with
  | cons r rr =>
    cases r
    cases rr with
    | cons r rr =>
      cases rr
      cases r
      obtain ⟨o1, B1, hB1, h1, hlt1, hbeg1⟩ := Src.begins I1 hqx
      obtain ⟨o2, B2, hB2, h2, hlt2, hbeg2⟩ := Src.begins I1 hqy
      refine zip_begins2 hB1 hB2 h1 h2 fun h' hz hTI hTO ho1 ho2 hsz hk => wpAny_pyIter_zip hz ?_
      have I2 : Inv X pins σ H1 { s1 with heap := h' } := I1.kept (t' := s1.toks) hk
      have S := zip_sep2 (N := s1.heap.objs.size) (fp1 := [a.a]) (fp2 := [b.a]) (by simpa using hlt1) (by simpa using hlt2)
      refine ⟨s1.heap.objs.size + 4, [s1.heap.objs.size + 4, s1.heap.objs.size + 2, s1.heap.objs.size + 3, s1.heap.objs.size, s1.heap.objs.size + 1], _, _, H1, rfl, I2,
        turn_zipG a b ⟨S, Nat.ne_of_gt hlt1, Nat.ne_of_gt (Nat.lt_succ_of_lt hlt2)⟩, ⟨hz, hTI, ⟨_, _, hTO⟩, hbeg1 _ _ ho1, hbeg2 _ _ ho2⟩, fun c hb => ?_, q⟩
      have e' : c = s1.heap.objs.size + 4 ∨ c = s1.heap.objs.size + 2 ∨ c = s1.heap.objs.size + 3 ∨ c = s1.heap.objs.size ∨ c = s1.heap.objs.size + 1 := by simpa using hb
      have hle : s1.heap.objs.size ≤ c := by
        rcases e' with z | z | z | z | z <;> rw [z]
        · exact Nat.le_add_right _ _
        · exact Nat.le_add_right _ _
        · exact Nat.le_add_right _ _
        · exact Nat.le_refl _
        · exact Nat.le_add_right _ _
      exact I1.fpOk hle (I1.hok.fresh hle)
end
end Rf
namespace Rf
open PySem PySem.Spec PyProof.Rows L2
def visB (sc : Scope) (x : Str) : Bool := match sc.names.lookup x with
  | some .local => true
  | some .cell => true
  | some .free => true
  | _ => false
def gloB (sc : Scope) (x : Str) : Bool := match sc.names.lookup x with
  | some .globalImplicit => true
  | _ => false
def locB (sc : Scope) (x : Str) : Bool := match sc.names.lookup x with
  | some .local => true
  | some .cell => true
  | _ => false
def okN (x : Str) : Bool := !(decide (x = Str.ofString "__debug__")) && !(decide (x = Str.ofString "__classdict__")) && !(decide (x = Str.ofString "__name__"))
def slotB (N : List Str) (sc : Scope) (i : Nat) (x : Str) : Bool := decide (N[i]? = some x) && (visB sc x && okN x)
def constB : D → Const → Bool
  | .non, .none => true
  | .bl b, .bool c => b == c
  | .int i, .int j => decide (i = j)
  | .str x, .str y => decide (mkS x = y)
  | _, _ => false
def notSlice : Expr → Bool
  | .Slice .. => false
  | _ => true
def notSet : Expr → Bool
  | .Set .. => false
  | _ => true
def bfN : Bf → Str
  | .len => Str.ofString "len"
  | .abs => Str.ofString "abs"
  | .min2 => Str.ofString "min"
  | .max2 => Str.ofString "max"
  | .minl => Str.ofString "min"
  | .maxl => Str.ofString "max"
  | .int => Str.ofString "int"
  | .str => Str.ofString "str"
  | .tuple => Str.ofString "tuple"
  | .list => Str.ofString "list"
  | .sorted => Str.ofString "sorted"
  | .all => Str.ofString "all"
  | .any => Str.ofString "any"
  | .sum => Str.ofString "sum"
  | .dnew => Str.ofString "dict"
  | .lenT => Str.ofString "len"
  | .repr => Str.ofString "repr"
def bfDone : Bf → Bool
  | _ => true
def bmN : Bm → Str
  | .append => Str.ofString "append"
  | .extend => Str.ofString "extend"
  | .pop => Str.ofString "pop"
  | .index => Str.ofString "index"
  | .remove => Str.ofString "remove"
  | .get => Str.ofString "get"
  | .popk => Str.ofString "pop"
  | .getT => Str.ofString "get"
  | .join => Str.ofString "join"
  | .split => Str.ofString "split"
  | .count => Str.ofString "count"
  | .upper => Str.ofString "upper"
def Ty1.s (t : Ty1) : Str := Str.ofString t.tn
def nameB (sc : Scope) (x y : Str) : Bool := decide (x = y) && (gloB sc y && okN y)
def tgB1 (N : List Str) (sc : Scope) (i : Nat) : Expr → Bool
  | .Name x _ => decide (N[i]? = some x) && (locB sc x && okN x)
  | _ => false
def tgBs (N : List Str) (sc : Scope) : List Nat → List Expr → Bool
  | [], [] => true
  | i :: is, e :: es => tgB1 N sc i e && tgBs N sc is es
  | _, _ => false
def tgB (N : List Str) (sc : Scope) : Tg → Expr → Bool
  | .one i, e => tgB1 N sc i e
  | .many is, .Tuple es _ _ => tgBs N sc is es
  | _, _ => false
def tgSlots : Tg → List Nat
  | .one i => [i]
  | .many is => is
def ownOf (N : List Str) (own : List Nat) : List (Str × Nat) := own.map fun i => (N.getD i Str.empty, i)
def isTup : Expr → Bool
  | .Tuple .. => true
  | _ => false
def notCall : Expr → Bool
  | .Call .. => false
  | _ => true
mutual
def chkE (G : Gi) (N : List Str) : M → Scope → Expr → Bool
  | .var i, sc, e => (match e with | .Name x _ => slotB N sc i x | _ => false)
  | .k d, _, e => (match e with | .Constant c _ _ => constB d c | _ => false)
  | .glb i d, sc, e => (match e with | .Name x _ => (match G.gl[i]? with | some (y, d') => D.same d d' && nameB sc y x | none => false) | _ => false)
  | .bin op a b, sc, e => (match e with | .BinOp l o r _ => decide (op.op = o) && (chkE G N a sc l && chkE G N b sc r) | _ => false)
  | .neg a, sc, e => (match e with | .UnaryOp .USub l _ => chkE G N a sc l | _ => false)
  | .cmp op a b, sc, e => (match e with | .Compare l [o] [r] _ => decide (op.op = o) && (notSet r && (chkE G N a sc l && chkE G N b sc r)) | _ => false)
  | .ch o1 o2 a b c, sc, e => (match e with | .Compare l [p1, p2] [r, t] _ => decide (o1.op = p1) && (decide (o2.op = p2) && (notSet t && (chkE G N a sc l && (chkE G N b sc r && chkE G N c sc t)))) | _ => false)
  | .and a b, sc, e => (match e with | .BoolOp .And (x :: y :: rest) p => chkE G N a sc x && (match rest with | [] => chkE G N b sc y | _ :: _ => chkE G N b sc (.BoolOp .And (y :: rest) p)) | _ => false)
  | .or a b, sc, e => (match e with | .BoolOp .Or (x :: y :: rest) p => chkE G N a sc x && (match rest with | [] => chkE G N b sc y | _ :: _ => chkE G N b sc (.BoolOp .Or (y :: rest) p)) | _ => false)
  | .not a, sc, e => (match e with | .UnaryOp .Not l _ => chkE G N a sc l | _ => false)
  | .ite c a b, sc, e => (match e with | .IfExp t x y _ => chkT G N c sc t && (chkE G N a sc x && chkE G N b sc y) | _ => false)
  | .tup as, sc, e => (match e with | .Tuple es _ _ => chkA G N as sc es | _ => false)
  | .lst as, sc, e => (match e with | .List es _ => chkA G N as sc es | _ => false)
  | .idx a i, sc, e => (match e with | .Subscript x y _ => notSlice y && (chkE G N a sc x && chkE G N i sc y) | _ => false)
  | .slc a lo hi, sc, e => (match e with | .Subscript x (.Slice l u none _) _ => chkE G N a sc x && (chkO G N lo sc l && chkO G N hi sc u) | _ => false)
  | .slst a st, sc, e => (match e with | .Subscript x (.Slice none none (some l) _) _ => chkE G N a sc x && chkE G N st sc l | _ => false)
  | .call f as, sc, e => (match e with | .Call (.Name x _) es [] _ => (match G.fn[f]? with | some y => nameB sc y x | none => false) && (!es.isEmpty && chkA G N as sc es) | _ => false)
  | .bf f as, sc, e => (match e with | .Call (.Name x _) es [] _ => nameB sc (bfN f) x && (bfDone f && (!es.isEmpty && chkA G N as sc es)) | _ => false)
  | .isi t a, sc, e => (match e with | .Call (.Name x _) [y, .Name z _] [] _ => nameB sc (Str.ofString "isinstance") x && (nameB sc t.s z && chkE G N a sc y) | _ => false)
  | .lrng a, sc, e => (match e with | .Call (.Name x _) [.Call (.Name z _) [y] [] _] [] _ => nameB sc (Str.ofString "list") x && (nameB sc (Str.ofString "range") z && chkE G N a sc y) | _ => false)
  | .bm f o as, sc, e => (match e with | .Call (.Attribute x n p) es [] q => decide (bmN f = n) && (decide (p.endLine = q.line) && (decide (es.length < 30) && (chkE G N o sc x && chkA G N as sc es))) | _ => false)
  | .lc el tg src c own, sc, e => (match e with | .ListComp x [⟨t, it, ifs, 0⟩] s _ => blkC N sc s (ownOf N own) && ((tgSlots tg).all (fun i => own.contains i) && (tgB N s tg t && (chkI G N src sc t it &&
      ((match ifs with | [] => (match c with | .nil => true | _ => false) | [f] => (match c with | .nil => false | _ => chkT G N c (relS s sc) f) | _ => false) && chkE G N el (relS s sc) x)))) | _ => false)
  | .lcK el tg i c own, sc, e => (match e with | .ListComp x [⟨t, .Name z _, ifs, 0⟩] s _ => slotB N sc i z && (blkC N sc s (ownOf N own) && ((tgSlots tg).all (fun i => own.contains i) && (tgB N s tg t &&
      ((match ifs with | [] => (match c with | .nil => true | _ => false) | [f] => (match c with | .nil => false | _ => chkT G N c (relS s sc) f) | _ => false) && chkE G N el (relS s sc) x)))) | _ => false)
  | .dnew, _, e => (match e with | .Dict [] [] _ => true | _ => false)
  | .tnew, _, e => (match e with | .Dict [] [] _ => true | _ => false)
  | .tidx a i, sc, e => (match e with | .Subscript x y _ => notSlice y && (chkE G N a sc x && chkE G N i sc y) | _ => false)
  | .kdx i kvs a, sc, e => (match e with | .Subscript (.Name x _) y _ => (match G.gd[i - G.gl.length]? with | some (z, kvs') => sameK kvs kvs' && nameB sc z x | none => false) && (notSlice y && chkE G N a sc y) | _ => false)
  | .kdg i kvs a, sc, e => (match e with | .Call (.Attribute (.Name x _) n p) [y] [] q => (match G.gd[i - G.gl.length]? with | some (z, kvs') => sameK kvs kvs' && nameB sc z x | none => false) && (decide (n = Str.ofString "get") && (decide (p.endLine = q.line) && (!(decide (x = Str.ofString "super")) && chkE G N a sc y))) | _ => false)
  | .kdi i kvs a, sc, e => (match e with | .Compare y [.In] [.Name x _] _ => (match G.gd[i - G.gl.length]? with | some (z, kvs') => sameK kvs kvs' && nameB sc z x | none => false) && chkE G N a sc y | _ => false)
  | .ddisp a b, sc, e => (match e with | .Dict [some x] [y] _ => chkE G N a sc x && chkE G N b sc y | _ => false)
  | .disp r, sc, e => (match e with | .Dict ks vs _ => !ks.isEmpty && (decide (ks.length ≤ 15) && chkD G N r sc ks vs) | _ => false)
  | .lvals a, sc, e => (match e with | .Call (.Name x _) [.Call (.Attribute o n ap) [] [] q] [] _ => nameB sc (Str.ofString "list") x && (decide (n = Str.ofString "values") && (decide (ap.endLine = q.line) && chkE G N a sc o)) | _ => false)
  | .attr a f, sc, e => (match e with | .Attribute x n _ => decide (G.fl[f]? = some n) && (notCall x && chkE G N a sc x) | _ => false)
  | .meth tb o as, sc, e => (match e with | .Call (.Attribute x n p) es [] q => (tb.all fun t => G.mt.contains (t.1, t.2, n)) && (!(G.fl.contains n) && (decide (p.endLine = q.line) && (decide (es.length < 30) && (notCall x && (chkE G N o sc x && chkA G N as sc es))))) | _ => false)
  | .make c f as, sc, e => (match e with | .Call (.Name x _) es [] _ => !(decide (x = Str.ofString "super")) && ((match G.cl[c]? with | some y => nameB sc y x | none => false) && (G.mks.contains (c, f) && chkA G N as sc es)) | _ => false)
  | .nset a, sc, e => (match e with | .Call (.Name x _) [.Call (.Name z _) [y] [] _] [] _ => nameB sc (Str.ofString "len") x && (nameB sc (Str.ofString "set") z && chkE G N a sc y) | _ => false)
  | .sset a, sc, e => (match e with | .Call (.Name x _) [.Call (.Name z _) [y] [] _] [] _ => nameB sc (Str.ofString "sorted") x && (nameB sc (Str.ofString "set") z && chkE G N a sc y) | _ => false)
  | .isx sb c a, sc, e => (match e with | .Call (.Name x _) [y, .Name z _] [] _ => nameB sc (Str.ofString "isinstance") x && (decide (sb = G.sb) && ((match G.cl[c]? with | some n => nameB sc n z | none => false) && chkE G N a sc y)) | _ => false)
  | .isxv sb a, sc, e => (match e with | .Call (.Name x _) [y, .Name z _] [] _ => nameB sc (Str.ofString "isinstance") x && (decide (sb = G.sb) && (nameB sc (Str.ofString "ValueError") z && chkE G N a sc y)) | _ => false)
  | _, _, _ => false
def chkA (G : Gi) (N : List Str) : M → Scope → List Expr → Bool
  | .nil, _, es => es.isEmpty
  | .cons a r, sc, es => (match es with | e :: es => chkE G N a sc e && chkA G N r sc es | [] => false)
  | _, _, _ => false
def chkD (G : Gi) (N : List Str) : M → Scope → List (Option Expr) → List Expr → Bool
  | .nil, _, ks, vs => ks.isEmpty && vs.isEmpty
  | .kv a b r, sc, ks, vs => (match ks, vs with | some x :: ks, y :: vs => chkE G N a sc x && (chkE G N b sc y && chkD G N r sc ks vs) | _, _ => false)
  | _, _, _, _ => false
def chkO (G : Gi) (N : List Str) : M → Scope → Option Expr → Bool
  | .nil, _, o => o.isNone
  | .cons a _, sc, o => (match o with | some e => chkE G N a sc e | none => false)
  | _, _, _ => false
def chkT (G : Gi) (N : List Str) : M → Scope → Expr → Bool
  | .not a, sc, e => (match e with | .UnaryOp .Not l _ => chkT G N a sc l | _ => false)
  | .and a b, sc, e => (match e with | .BoolOp .And (x :: y :: rest) p => chkT G N a sc x && (match rest with | [] => chkT G N b sc y | _ :: _ => chkT G N b sc (.BoolOp .And (y :: rest) p)) | _ => false)
  | .or a b, sc, e => (match e with | .BoolOp .Or (x :: y :: rest) p => chkT G N a sc x && (match rest with | [] => chkT G N b sc y | _ :: _ => chkT G N b sc (.BoolOp .Or (y :: rest) p)) | _ => false)
  | .cmp op a b, sc, e => (match e with | .Compare l [o] [r] _ => decide (op.op = o) && (notSet r && (chkE G N a sc l && chkE G N b sc r)) | _ => false)
  | .ch o1 o2 a b c, sc, e => (match e with | .Compare l [p1, p2] [r, t] _ => decide (o1.op = p1) && (decide (o2.op = p2) && (notSet t && (chkE G N a sc l && (chkE G N b sc r && chkE G N c sc t)))) | _ => false)
  | .kdi i kvs a, sc, e => (match e with | .Compare y [.In] [.Name x _] _ => (match G.gd[i - G.gl.length]? with | some (z, kvs') => sameK kvs kvs' && nameB sc z x | none => false) && chkE G N a sc y | _ => false)
  | .tv a, sc, e => (match e with
      | .Name .. => true
      | .Call .. => true
      | .Subscript .. => true
      | .Constant .. => true
      | .Attribute .. => true
      | _ => false) && chkE G N a sc e
  | _, _, _ => false
def chkI (G : Gi) (N : List Str) : M → Scope → Expr → Expr → Bool
  | .rng1 a, sc, _, e => (match e with | .Call (.Name x _) [y] [] _ => nameB sc (Str.ofString "range") x && chkE G N a sc y | _ => false)
  | .rng2 a b, sc, _, e => (match e with | .Call (.Name x _) [y, z] [] _ => nameB sc (Str.ofString "range") x && (chkE G N a sc y && chkE G N b sc z) | _ => false)
  | .rng3 a b c, sc, _, e => (match e with | .Call (.Name x _) [y, z, u] [] _ => nameB sc (Str.ofString "range") x && (chkE G N a sc y && (chkE G N b sc z && chkE G N c sc u)) | _ => false)
  | .enum a, sc, t, e => isTup t && (match e with | .Call (.Name x _) [y] [] _ => nameB sc (Str.ofString "enumerate") x && chkE G N a sc y | _ => false)
  | .zip a b, sc, t, e => isTup t && (match e with | .Call (.Name x _) [y, z] [] _ => nameB sc (Str.ofString "zip") x && (chkE G N a sc y && chkE G N b sc z) | _ => false)
  | .itv a, sc, _, e => notSet e && chkE G N a sc e
  | _, _, _, _ => false
end
inductive Sw | plain | swap | no
  deriving DecidableEq
def swOf (x : Str) (sc : Scope) (p q : Pos) : Expr → Sw
  | .ListComp _ _ s vp => if sc.names.lookup x = some .cell then .plain else if decide (sc.names.lookup x = some .local) && (decide (p.line = vp.line) && (decide (vp.line = q.line) && !(s.names.any fun y => decide (y.1 = x) && (decide (y.2 = .local) || decide (y.2 = .cell))))) then .swap else .no
  | .SetComp .. => .no
  | .DictComp .. => .no
  | _ => .plain
def noComp : Expr → Bool
  | .ListComp .. => false
  | .SetComp .. => false
  | .DictComp .. => false
  | _ => true
def swNone (es vs : List Expr) : Bool := !(es.length == 2 || es.length == 3) || (!decide (vs.length = es.length) || vs.all (foldedForSure 8))
def swLoc (sc : Scope) (l : Nat) : Expr → Bool
  | .Name x p => decide (sc.names.lookup x = some .local) && decide (p.line = l)
  | _ => false
def notStar : Expr → Bool
  | .Starred .. => false
  | _ => true
def swSome (sc : Scope) (is : List Nat) (es vs : List Expr) : Bool := decide (is.Nodup) && (es.all (swLoc sc ((es.head?.map (·.pos.line)).getD 0)) && (vs.all notStar && (!(vs.all (foldedForSure 8)) && !(vs.all (constantsAlone 8)))))
def swCell (sc : Scope) (es : List Expr) : Bool := es.any fun e => match e with
  | .Name x _ => !decide (sc.names.lookup x = some .local)
  | _ => false
def cnB (G : Gi) (sc : Scope) : List Nat → List Expr → Bool
  | [], [] => true
  | c :: cs, .Name x _ :: es => (match G.cl[c]? with | some y => nameB sc y x | none => false) && cnB G sc cs es
  | _, _ => false
def lowB (G : Gi) (c f : Nat) : Bool := G.sb.all fun t => !(t.2.1 == c && t.2.2) || G.lx.any fun l => l.1 == t.1 && l.2.1 == f
def fldB (G : Gi) (N : List Str) (sc : Scope) (i c f : Nat) : Expr → Bool
  | .Attribute (.Name x _) n _ => slotB N sc i x && (decide (G.fl[f]? = some n) && lowB G c f)
  | _ => false
def isCall : Expr → Bool
  | .Call .. => true
  | _ => false
def chkX (G : Gi) (N : List Str) (sc : Scope) (i c0 : Nat) : XE → Expr → Bool
  | .fld f, ex => fldB G N sc i c0 f ex
  | .tfld f, ex => (match ex with
    | .Tuple [e] _ _ => fldB G N sc i c0 f e
    | _ => false)
  | .var j, ex => (match ex with
    | .Name x _ => slotB N sc j x
    | _ => false)
  | .isi c, ex => (match ex with
    | .Call (.Name f _) [.Name ev _, .Name cn _] [] _ => nameB sc (Str.ofString "isinstance") f && (slotB N sc i ev && (match G.cl[c]? with | some y => nameB sc y cn | none => false))
    | _ => false)
  | .isv, ex => (match ex with
    | .Call (.Name f _) [.Name ev _, .Name cn _] [] _ => nameB sc (Str.ofString "isinstance") f && (slotB N sc i ev && nameB sc (Str.ofString "ValueError") cn)
    | _ => false)
  | .isn cs, ex => (match ex with
    | .Call (.Name f _) [.Name ev _, .Tuple es _ _] [] _ => nameB sc (Str.ofString "isinstance") f && (slotB N sc i ev && (cnB G sc cs es && decide (es.length < 64)))
    | _ => false)
  | .and a b, ex => (match ex with
    | .BoolOp .And [x, y] _ => chkX G N sc i c0 a x && chkX G N sc i c0 b y
    | _ => false)
  | .not a, ex => (match ex with
    | .UnaryOp .Not x _ => chkX G N sc i c0 a x
    | _ => false)
  | .intx a, ex => (match ex with
    | .Call (.Name f _) [x] [] _ => nameB sc (Str.ofString "int") f && (isCall x && chkX G N sc i c0 a x)
    | _ => false)
def chkHo (G : Gi) (N : List Str) (sc : Scope) (i j fn : Nat) : List (Nat × List Nat × Nat) → List ExceptHandler → Bool
  | [], hds => hds.isEmpty
  | (c, w, dd) :: r, hds => (match hds with
    | .ExceptHandler (some (.Name x _)) (some n) [.Assign [.Name y p] (.Tuple [.Constant (.str u) k1 p1, e1, .Call (.Name z pz) [.Name ev pe] [] pc] x1 tp) _] _ :: hds => decide (N[i]? = some n) && (decide (sc.names.lookup n = some .local) && ((match G.cl[c]? with
        | some y => nameB sc y x
        | none => false) && (tgB1 N sc j (.Name y p) && (decide (mkS w = u) && (isCall e1 && (chkX G N sc i c (.isi dd) e1 && ((match G.fn[fn]? with | some y => nameB sc y z | none => false) && (slotB N sc i ev && (noComp (.Tuple [.Constant (.str u) k1 p1, e1, .Call (.Name z pz) [.Name ev pe] [] pc] x1 tp) && chkHo G N sc i j fn r hds)))))))))
    | _ => false)
def chkH (G : Gi) (N : List Str) (sc : Scope) (i c0 : Nat) : List (Nat × XE) → List Stmt → Bool
  | [], sts => sts.isEmpty
  | (j, e) :: r, sts => (match sts with
    | .Assign [.Name x _] v _ :: sts => decide (j ≠ i) && (tgB1 N sc j (.Name x ⟨0, 0, 0, 0⟩) && (chkX G N sc i c0 e v && (noComp v && chkH G N sc i c0 r sts)))
    | _ => false)
def fldN (G : Gi) (N : List Str) (sc : Scope) (i f : Nat) (lc : List Nat) : Expr → Bool
  | .Attribute (.Name x _) n _ => slotB N sc i x && (decide (G.fl[f]? = some n) && lc.all fun c => G.lx.any fun l => l.1 == c && l.2.1 == f)
  | _ => false
def yB (N : List Str) (sc : Scope) : Option Nat → Int → Expr → Bool
  | some j, _, .Name x _ => slotB N sc j x
  | none, k, .Constant (.int m) _ _ => decide (k = m)
  | _, _, _ => false
def cllN (G : Gi) (N : List Str) (sc : Scope) (i f : Nat) (lc : List Nat) (fn : Nat) (j : Option Nat) (k : Int) : Expr → Bool
  | .Call (.Name z _) [ex, ey] [] _ => (match G.fn[fn]? with | some y => nameB sc y z | none => false) && (fldN G N sc i f lc ex && yB N sc j k ey)
  | _ => false
def chkN (G : Gi) (N : List Str) (sc : Scope) (i c : Nat) (g : XE) (f : Nat) (lc : List Nat) (fn : Nat) (j : Option Nat) (k : Int) : List Stmt → Bool
  | [.Return (some (.BoolOp .And [x, y, z] _)) _] => (match g with
    | .and a b => chkX G N sc i c a x && (chkX G N sc i c b y && cllN G N sc i f lc fn j k z)
    | _ => false)
  | [.If t [.Return (some (.Constant (.bool false) _ _)) _] [] _, .Return (some z) _] => (match g with
    | .not a => isCall t && (chkX G N sc i c a t && cllN G N sc i f lc fn j k z)
    | _ => false)
  | _ => false
mutual
def chkS (G : Gi) (N : List Str) (sc : Scope) : MS → Stmt → Bool
  | .set i e, st => (match st with
      | .Assign [.Name x p] v q => tgB1 N sc i (.Name x p) && (chkE G N e sc v && !(decide (swOf x sc p q v = .no)))
      | _ => false)
  | .setT is e, st => (match st with
      | .Assign [.Tuple es k p] v q => tgBs N sc is es && (chkE G N e sc v && (noComp v && (match v with
          | .Tuple vs _ _ => (swNone es vs || swCell sc es) || swSome sc is es vs
          | _ => true)))
      | _ => false)
  | .setI o i e, st => (match st with
      | .Assign [.Subscript x y _] v q => notSlice y && (chkE G N e sc v && (chkE G N o sc x && chkE G N i sc y))
      | _ => false)
  | .tset o i e, st => (match st with
      | .Assign [.Subscript x y _] v q => notSlice y && (chkE G N e sc v && (chkE G N o sc x && chkE G N i sc y))
      | _ => false)
  | .setA o f e, st => (match st with
      | .Assign [.Attribute x n _] v q => decide (G.fl[f]? = some n) && (noComp v && (chkE G N e sc v && chkE G N o sc x))
      | _ => false)
  | .augA o f op e, st => (match st with
      | .AugAssign (.Attribute x n _) op' v q => (decide (op = .add) || decide (op = .sub)) && (decide (op.op = op') && (decide (G.fl[f]? = some n) && (chkE G N o sc x && chkE G N e sc v)))
      | _ => false)
  | .aug i op e, st => (match st with
      | .AugAssign (.Name x p) o v q => (decide (op = .add) || decide (op = .sub)) && (decide (op.op = o) && (tgB1 N sc i (.Name x p) && chkE G N e sc v))
      | _ => false)
  | .expr e, st => (match st with
      | .Expr v q => noComp v && chkE G N e sc v
      | _ => false)
  | .ret e, st => (match st with
      | .Return (some v) _ => chkE G N e sc v
      | _ => false)
  | .ret0, st => (match st with
      | .Return none _ => true
      | _ => false)
  | .cond c a b, st => (match st with
      | .If t x y _ => chkT G N c sc t && (chkB G N sc a x && chkB G N sc b y)
      | _ => false)
  | .while_ c b, st => (match st with
      | .While t x [] _ => chkT G N c sc t && chkB G N sc b x
      | _ => false)
  | .for_ tg src b, st => (match st with
      | .For t it x [] _ => tgB N sc tg t && (notSet it && (chkI G N src sc t it && chkB G N sc b x))
      | _ => false)
  | .forK tg i b, st => (match st with
      | .For t (.Name z _) x [] _ => tgB N sc tg t && (slotB N sc i z && chkB G N sc b x)
      | _ => false)
  | .pass_, st => (match st with
      | .Pass _ => true
      | _ => false)
  | .brk, st => (match st with
      | .Break _ => true
      | _ => false)
  | .cont, st => (match st with
      | .Continue _ => true
      | _ => false)
  | .raise_ c as, st => (match st with
      | .Raise (some (.Call (.Name x _) [.Constant (.str m) _ _] [] _)) none _ => (match G.cl[c]? with
        | some y => nameB sc y x && !(G.cx.contains y)
        | none => false) && (match as with
        | .nil => true
        | _ => false)
      | _ => false)
  | .raiseF c f e, st => (match st with
      | .Raise (some (.Call (.Name x _) [a] [] _)) none _ => (match G.cl[c]? with
        | some y => nameB sc y x
        | none => false) && ((G.lx.any fun l => l.1 == c && l.2.1 == f) && chkE G N e sc a)
      | _ => false)
  | .tryX b sb c i hs, st => (match st with
      | .Try body [.ExceptHandler (some (.Name x _)) (some n) (s0 :: suite) _] [] [] _ => chkB G N sc b body && (decide (N[i]? = some n) && (decide (sc.names.lookup n = some .local) && ((match G.cl[c]? with
        | some y => nameB sc y x
        | none => false) && (decide (sb = G.sb) && (chkH G N sc i c hs (s0 :: suite) && hs.all fun q => decide (q.1 ≠ i))))))
      | _ => false)
  | .tryR b sb c i w f, st => (match st with
      | .Try body [.ExceptHandler (some (.Name x _)) (some n) [.Return (some (.Tuple [.Constant (.str u) _ _, ex] _ _)) _] _] [] [] _ => chkB G N sc b body && (decide (N[i]? = some n) && (decide (sc.names.lookup n = some .local) && ((match G.cl[c]? with
        | some y => nameB sc y x
        | none => false) && (decide (sb = G.sb) && (decide (mkS w = u) && fldB G N sc i c f ex)))))
      | _ => false)
  | .tryN b sb c i g f lc fn j k, st => (match st with
      | .Try body [.ExceptHandler (some (.Name x _)) (some n) suite _] [] [] _ => chkB G N sc b body && (decide (N[i]? = some n) && (decide (sc.names.lookup n = some .local) && ((match G.cl[c]? with
        | some y => nameB sc y x
        | none => false) && (decide (sb = G.sb) && (G.sn.contains fn && chkN G N sc i c g f lc fn j k suite)))))
      | _ => false)
  | .tryK b sb c i j, st => (match st with
      | .Try body [.ExceptHandler (some (.Name x _)) (some n) [.Assign [.Name y p] (.Name z _) _] _] [] [] _ => chkB G N sc b body && (decide (N[i]? = some n) && (decide (sc.names.lookup n = some .local) && ((match G.cl[c]? with
        | some y => nameB sc y x
        | none => false) && (decide (sb = G.sb) && (tgB1 N sc j (.Name y p) && (slotB N sc i z && decide (j ≠ i)))))))
      | _ => false)
  | .try2 b sb i j fn cs hs, st => (match st with
      | .Try body hds [] [] _ => chkB G N sc b body && (decide (sb = G.sb) && (G.on.contains (fn, cs) && (decide (j ≠ i) && (!hds.isEmpty && chkHo G N sc i j fn hs hds))))
      | _ => false)
  | .retI cs, st => (match st with
      | .Return (some ex) _ => chkX G N sc 0 0 (.isn cs) ex
      | _ => false)
  | .never, _ => true
  | .alt a b, st => chkS G N sc a st && chkS G N sc b st
  | .setU is e, st => (match st with
      | .Assign [.Tuple es k p] v q => tgBs N sc is es && (chkE G N e sc v && (match v with
          | .Tuple .. => false
          | _ => true))
      | _ => false)
  | _, _ => false
def chkB (G : Gi) (N : List Str) (sc : Scope) : MS → List Stmt → Bool
  | .nil, sts => sts.isEmpty
  | .seq s r, sts => (match sts with
      | st :: sts => chkS G N sc s st && chkB G N sc r sts
      | [] => false)
  | _, _ => false
end
end Rf
namespace Rf
open PySem PySem.Spec PyProof.Rows L2
def initB (N : List Str) (sc : Scope) (r f : Str) : List Stmt → Bool
  | [.Expr (.Call (.Attribute (.Name x _) im p2) [.Name s0 _, .Constant (.str _) _ _] [] pos) _, .Assign [.Attribute (.Name s1 _) f' _] (.Name w _) _] =>
    decide (im = Str.ofString "__init__") && (decide (p2.endLine = pos.line) && (nameB sc r x && (slotB N sc 0 s0 && (slotB N sc 0 s1 && (slotB N sc 1 w && decide (f' = f))))))
  | _ => false
structure LowK (K : PySem.W.Frag) (mg : Str → Option Value) (nm : Nm) (G : Gi) (t : Nat × Nat × Nat × Nat) : Prop where
  oex : OexC K (nm.cls t.1)
  xf : XfC K (nm.cls t.1)
  ini : ∃ (fI : Addr) (fd : FuncData) (x qual : Str) (params : Arguments) (body : List Stmt) (scope : Scope) (N ps : List Str) (n r : Str) (R : Addr) (mc : Value), PySem.W.findIn K (.ref (nm.cls t.1)) "__init__" = some (some (.ref fI)) ∧ PySem.W.typeIn K (.ref fI) = some (.type "function") ∧
    FunD K x qual params body scope [] [] fI fd ∧ FnScope N ps scope ∧ ps.length = 2 ∧ N.length = 2 ∧ Binds K fd ps [] ∧ initB N scope r n body = true ∧ G.fl[t.2.1]? = some n ∧ nm.fld t.2.1 = n ∧ PySem.W.findIn K (.ref (nm.cls t.1)) n = some none ∧
    mg r = some (.ref R) ∧ PySem.W.specialIn K (.ref R) "__getattribute__" = some (some (.builtin "type.__getattribute__")) ∧ PySem.W.readsIn K R mc = true ∧ PySem.W.findCls K (.ref R) mc "__init__" = some (.val (.builtin "ValueError.__init__"))
end Rf
namespace Rf
open PySem PySem.Spec PyProof.Rows L2
inductive Gr : Hp → Hp → Prop
  | refl {H : Hp} : Gr H H
  | upd {H H' : Hp} {p : Addr} {o : HO} : Gr H H' → H' p = none → Gr H (L2.upd H' p o)
theorem Gr.trans {H H' H2 : Hp} (a : Gr H H') (b : Gr H' H2) : Gr H H2 := by
  induction b with
  | refl => exact a
  | upd _ hp ih => exact .upd ih hp
def dOk (H : Hp) (d : Option Addr) : Prop := ∀ dd, d = some dd → ∃ fs, H dd = some (.xd fs)
structure FnN (P : Program) (w : World) (K : PySem.W.Frag) (mg : Str → Option Value) (base : Heap) (k : Nat) (f : Addr) (fd : FuncData) (ps : List Str) (sp : Addr × Obj → List V → Hp → VK → Prop) : Prop where
  ln : ∀ p vs H Q, sp p vs H Q → vs.length = ps.length
  go : ∀ (A : Around) (out : List Env) (s0 : Shared) (H : Hp) (ar : Args) (us : List Value) (vs : List V) (Q : VK) (p : Addr × Obj), L2H.RoomH k A → L2H.PinOk out H s0 p → Env0 P w K mg base A out s0 H →
    BindsTo s0 fd ar (ps.zip us) → Vals vs us → sp p vs H Q → codeAny (model P w) A (.call (.ref f) ar) (CR (CX P w) out P w H s0 Q fun _ _ _ => False) s0
abbrev cxN (P : Program) (w : World) (K : PySem.W.Frag) (mg : Str → Option Value) (base : Heap) (N : List Str) (qual : Str) (scope : Scope) (f : Addr) (cd : Value) (A : Around) (out : List Env) (s0 : Shared) (H : Hp) (p : Addr × Obj) : Cx :=
  L2H.cxH (CX P w) P w K mg base N qual scope f cd A out s0 H (fun _ _ _ => False) p
theorem fnN_of {P : Program} {w : World} {K : PySem.W.Frag} {mg : Str → Option Value} {base : Heap} {x qual : Str} {params : Arguments} {body : List Stmt} {scope : Scope} {f : Addr} {fd : FuncData} {N ps : List Str} {k : Nat} {sp : Addr × Obj → List V → Hp → VK → Prop}
    (F : FunD K x qual params body scope [] [] f fd) (S : FnScope N ps scope) (ln : ∀ p vs H Q, sp p vs H Q → vs.length = ps.length)
    (hb : ∀ (cdv : Value) (A : Around) (out : List Env) (s0 : Shared) (H : Hp) (vs : List V) (Q : VK) (p : Addr × Obj), L2H.RoomH k (A.deeper (envOfC qual scope s0.heap.objs.size f cdv)) → L2H.PinOk out H s0 p → sp p vs H Q →
      ∃ t, PSs (cxN P w K mg base N qual scope f cdv A out s0 H p) body t ∧ t { nx := fun _ H' => Q .non H', rt := Q } (L2.start N vs) H) : FnN P w K mg base (k + 1) f fd ps sp := by
  obtain ⟨oc, od, dV, kV, doc, pm, an, cdv, ct, osl, rfl, lk, hcd, _, _⟩ := F.ex
  refine ⟨ln, fun A out s0 H ar us vs Q p room pin e0 bt rel h => ?_⟩
  have hv := ln _ _ _ _ h
  have inH : K.In s0.heap := e0.mod.kin.keeps fun b o q => (e0.bs b o q).1
  refine codeAny_call_function (by have := room.dp; omega) (inH _ _ lk) rfl S.co S.gen rfl (PySem.W.codeRec_of inH hcd) (bt _ _ _ _ ?_)
  refine wpAny_newFunctionEnv_cells S.kind (fun y hy => ?_) fun env he s1 x1 => ?_
  · obtain ⟨n, v⟩ := y
    have := S.par n (List.of_mem_zip hy).1
    exact this.imp id fun q => ⟨q, PySem.W.cellsFrom_some _ _ _ (.inl q)⟩
  subst he
  have nl : s0.heap.NoLimit := e0.mod.nolimit.keeps fun b o q => (e0.bs b o q).1
  refine ⟨nl.keeps x1.toInCall.keep, codeAny_func ?_⟩
  obtain ⟨t, ht, hq⟩ := hb cdv A out s0 H vs Q p (room.deeper _) pin h
  have I0 : L2.Inv (cxN P w K mg base N qual scope f cdv A out s0 H p) [] (L2.start N vs) H s1 := L2H.inv_startH S pin e0 hv rel x1
  refine wpAny_mono (ht.run [] s1 _ H _ I0 hq) (fun fl s2 hs => ?_) fun e s2 z => z
  have over : ∀ {σ2 : L2.St} {H2 : Hp} {v : V} {u : Value}, L2.Inv (cxN P w K mg base N qual scope f cdv A out s0 H p) [] σ2 H2 s2 → RelV v u → Q v H2 → CE out P w H s0 Q u s2 := fun {_ H2 v _} J r q => ⟨v, H2, J.os, J.bare, J.base, J.hok, r, q⟩
  cases fl with
  | ret u => exact hs.elim fun v z => z.elim fun σ2 z => z.elim fun H2 z => over z.1 z.2.1 z.2.2
  | next => exact hs.elim fun σ2 z => z.elim fun H2 z => over (v := V.non) (u := Value.none) z.1 rfl z.2
  | brk => exact (hs.elim fun _ z => z.elim fun _ z => False.elim z.2)
  | cont => exact (hs.elim fun _ z => z.elim fun _ z => False.elim z.2)
section
variable {X : Cx} {k : Nat} {f : Addr} {fd : FuncData} {ps : List Str} {sp : Addr × Obj → List V → Hp → VK → Prop} {x : Str} {q pos : Pos} {e : Expr} {es : List Expr} {t : TA}
theorem pe_callN (F : FnN X.prog X.w X.K X.mg X.base k f fd ps sp) (hr : L2H.RoomH k X.A) {p : Addr × Obj} (hp : p ∈ X.pn) (hg : Gl X x) (hm : X.mg x = some (.ref f)) (hk : PySem.W.keepIn X.K (.ref f) = true) (hb : Binds X.K fd ps [])
    (ha : PA X (e :: es) t) (hdb : (x == ("__debug__" : Str)) = false) (he : starEach (e :: es) X.env = (false, eval e X.env) :: starEach es X.env) (hpl : (backTo pos (starEach es X.env)).any (·.1) = false) :
    PE X (.Call (.Name x q) (e :: es) [] pos) (fun σ H Q => t σ H fun vs H1 => sp p vs H1 Q) := by
  constructor
  intro pins s0 σ H Q I h
  refine wpAny_Call_Name_kw (ld_glob I hg hm ?_ hdb)
  refine PySem.W.callWith_K (h₀ := X.base) I.ok.mod.kin hk (wpAny_mono (ha.run pos pins s0 σ H _ I h) (fun us s1 z => ?_) fun _ _ z => z) he hpl
  obtain ⟨vs, H1, I1, r, z⟩ := z
  refine ⟨I1.kIn, ?_⟩
  have lu : us.length = ps.length := r.length.symm.trans (F.ln _ _ _ _ z)
  have bt := hb s1 us I1.kIn (by simpa using lu)
  rw [List.append_nil] at bt
  obtain ⟨g1, g2, g3, g4, g5⟩ := I1.pin p (List.mem_append_left _ hp)
  have pok : L2H.PinOk X.stack H1 s1 p := ⟨g1, g2, fun hm => ((List.mem_cons.mp (I1.stkSub p.1 hm)).elim g3 g4), g5⟩
  refine wpAny_call (codeAny_mono (F.go X.A X.stack s1 H1 ⟨us, []⟩ us vs Q p hr pok I1.env0 bt r z) fun res s2 w => ?_)
  match res, w with
  | .error _, w =>
    obtain ⟨_, _, _, _, _, _, _, _, _, _, _, _, no⟩ := w
    exact no.elim
  | .ok (.ret u), w => exact I1.after w
  | .ok .next, w => exact w.elim
  | .ok .brk, w => exact w.elim
  | .ok .cont, w => exact w.elim
end
def spO (K : PySem.W.Frag) (nm : Nm) (sb : Sb) (cs : List Nat) : Addr × Obj → List V → Hp → VK → Prop := fun p vs H Q => ∃ (x : Nat) (d : Option Addr) (b : Bool), Zc (.ref (nm.cls x)) d p.2 ∧ (∃ us, p.2.data = .fields us) ∧ (∃ c v, sbL sb x c = some v) ∧ vs = [.ref p.1] ∧ dOk H d ∧ anyO (cs.map (sbL sb x)) = some b ∧ ∀ H', Gr H H' → Q (.bl b) H'
def spN (K : PySem.W.Frag) (nm : Nm) : Addr × Obj → List V → Hp → VK → Prop := fun _ vs H Q => ∃ (m : List Addr) (h : AH) (i j : Int), RH K nm H m h ∧ vs = [.int i, .int j] ∧ ∀ H' m', RH K nm H' m' h → Ext H m H' m' → Q (.bl (decide (i = j))) H'
def sameM : M := .and (.isi .int (.var 0)) (.and (.not (.isi .bool (.var 0))) (.cmp .eq (.var 0) (.var 1)))
end Rf
namespace Rf
open PySem PySem.Spec PyProof.Rows L2
def spC (K : PySem.W.Frag) (nm : Nm) (C : CT) (f : Nat) : Sp := fun vs H Q E =>
  ∃ ds m h Qa Ea, RVs K H m vs ds ∧ RH K nm H m h ∧ C f ds h Qa Ea ∧ (∀ v H' m' d h', RV K H' m' v d → RH K nm H' m' h' → Ext H m H' m' → Qa d h' → Q v H') ∧
    ∀ cls dx x H' m' h', RX K nm H' m' cls dx x → RH K nm H' m' h' → Ext H m H' m' → Ea x h' → E cls dx H'
structure SbOk (K : PySem.W.Frag) (nm : Nm) (G : Gi) : Prop where
  exm : ∀ a b v, sbL G.sb a b = some v → PySem.W.exmOne K (.ref (nm.cls a)) (.ref (nm.cls b)) = some v
  kit : ∀ a b v, sbL G.sb a b = some v → PySem.W.kitOne K (.ref (nm.cls a)) (.ref (nm.cls b)) = some v
  xc : ∀ a b v, sbL G.sb a b = some v → ExcC K (nm.cls a)
  ve : ∀ a b v, sbL G.sb a b = some v → PySem.W.kitOne K (.ref (nm.cls a)) (.type "ValueError") = some true
structure FnG (pr : Program) (wd : World) (K : PySem.W.Frag) (mg : Str → Option Value) (b0 : Heap) (CX : CXT) (k : Nat) (f : Addr) (fd : FuncData) (ps : List Str) (sp : Sp) : Prop where
  len : ∀ xs H Q E, sp xs H Q E → xs.length = ps.length
  run : ∀ (A : Around) (out : List Env) (s0 : Shared) (H : Hp) (ar : Args) (us : List Value) (xs : List V) (Q : VK) (E : XK), A.guards = some [] → Room k A → Env0 pr wd K mg b0 A out s0 H →
    BindsTo s0 fd ar (ps.zip us) → Vals xs us → sp xs H Q E → codeAny (model pr wd) A (.call (.ref f) ar) (CR CX out pr wd H s0 Q E) s0
structure Ct (X : Cx) (nm : Nm) (G : Gi) (C : CT) : Prop where
  gd : X.A.guards = some []
  calm : X.calm = true
  hu : X.A.units + 65 < cLine
  nd : X.N.Nodup
  call : ∀ (f : Nat) (y : Str), G.fn[f]? = some y → ∃ a fd ps k, FnG X.prog X.w X.K X.mg X.base (CX X.prog X.w) k a fd ps (spC X.K nm C f) ∧ Room k X.A ∧ X.mg y = some (.ref a) ∧ PySem.W.keepIn X.K (.ref a) = true ∧ Binds X.K fd ps []
  blt : ∀ x ∈ bltS, X.mg x = none
  glb : ∀ (i : Nat) (y : Str) (d : D), G.gl[i]? = some (y, d) → ∃ u v, X.mg y = some u ∧ RelV v u ∧ ∀ H m, RV X.K H m v d
  exc : ∀ (i : Nat) (y : Str), G.cl[i]? = some y → G.cx.contains y = false → X.mg y = some (.ref (nm.cls i)) ∧ PySem.W.excIn X.K (nm.cls i) [.type "ValueError", .type "Exception", .type "BaseException", .type "object"] "ValueError.__new__" = true ∧
    PySem.W.keepIn X.K (.ref (nm.cls i)) = true ∧ PySem.W.subIn X.K (.ref (nm.cls i)) (.type "BaseException") = some true ∧ PySem.W.typeIn X.K (.ref (nm.cls i)) = some (.type "type")
  clg : ∀ (i : Nat) (y : Str), G.cl[i]? = some y → X.mg y = some (.ref (nm.cls i))
  sbk : SbOk X.K nm G
  low : ∀ t ∈ G.lx, LowK X.K X.mg nm G t
  hr2 : G.lx ≠ [] → Room 2 X.A
  mt : ∀ t ∈ G.mt, ∃ a fd ps k, FnG X.prog X.w X.K X.mg X.base (CX X.prog X.w) k a fd ps (spC X.K nm C t.2.1) ∧ Room k X.A ∧ Cls X.K (nm.cls t.1) ∧ Meth X.K (nm.cls t.1) t.2.2 a ∧ Binds X.K fd ps []
  mks : ∀ t ∈ G.mks, ∃ a fd ps k, FnG X.prog X.w X.K X.mg X.base (CX X.prog X.w) k a fd ps (spC X.K nm C t.2) ∧ Room (k + 1) X.A ∧ Mk X.K (nm.cls t.1) a ∧ Binds X.K fd ps [] ∧ InsK X.K nm t.1
  flk : nm.nf = G.fl.length ∧ ∀ f n, G.fl[f]? = some n → nm.fld f = n
  nw : nm.w = X.w
  kd : ∀ (i : Nat) (y : Str) (kvs : List (List Nat × D)), G.gd[i]? = some (y, kvs) → ∃ p es n, X.mg y = some (.ref p) ∧ KDict X.K X.w p es n ∧ (∀ x d, kvs.lookup x = some d → ∃ u v, PySem.W.nsIn X.K p (mkS x) = some (some u) ∧ RelV v u ∧ ∀ H m, RV X.K H m v d) ∧ ∀ x, kvs.lookup x = none → PySem.W.nsIn X.K p (mkS x) = some none
  rmh : L2H.RoomH 1 X.A
  sn : ∀ f ∈ G.sn, ∃ y a fd ps, G.fn[f]? = some y ∧ FnN X.prog X.w X.K X.mg X.base 1 a fd ps (spN X.K nm) ∧ X.mg y = some (.ref a) ∧ PySem.W.keepIn X.K (.ref a) = true ∧ Binds X.K fd ps []
  on : ∀ t ∈ G.on, ∃ y a fd ps, G.fn[t.1]? = some y ∧ FnN X.prog X.w X.K X.mg X.base 1 a fd ps (spO X.K nm G.sb t.2) ∧ X.mg y = some (.ref a) ∧ PySem.W.keepIn X.K (.ref a) = true ∧ Binds X.K fd ps []
section
variable {X : Cx} {nm : Nm} {G : Gi} {C : CT}
theorem Ct.blk (c : Ct X nm G C) (s : Shared) (H : Hp) (scope : Scope) (cenv : Env) (fp : List Addr) : Ct (X.blk s H scope cenv fp) nm G C := ⟨c.gd, c.calm, c.hu, c.nd, c.call, c.blt, c.glb, c.exc, c.clg, c.sbk, c.low, c.hr2, c.mt, c.mks, c.flk, c.nw, c.kd, c.rmh, c.sn, c.on⟩
theorem Ct.tr (c : Ct X nm G C) (pn : List (Addr × Obj)) (xe : Value → Shared → Prop) : Ct (X.tr pn xe) nm G C := ⟨c.gd, c.calm, c.hu, c.nd, c.call, c.blt, c.glb, c.exc, c.clg, c.sbk, c.low, c.hr2, c.mt, c.mks, c.flk, c.nw, c.kd, c.rmh, c.sn, c.on⟩
theorem visB_ok {sc : Scope} {x : Str} (h : visB sc x = true) : Vis sc x := by
  unfold visB at h
  unfold Vis
  split at h <;> simp_all
theorem gloB_ok {sc : Scope} {x : Str} (h : gloB sc x = true) : sc.names.lookup x = some .globalImplicit := by
  unfold gloB at h
  split at h <;> simp_all
theorem locB_ok {sc : Scope} {x : Str} (h : locB sc x = true) : L2.Loc sc x := by
  unfold locB at h
  unfold L2.Loc
  split at h <;> simp_all
theorem okN_d {x : Str} (h : okN x = true) : (x == ("__debug__" : Str)) = false ∧ (x == ("__classdict__" : Str)) = false ∧ x ≠ "__name__" := by
  simp only [okN, Bool.and_eq_true, Bool.not_eq_true', decide_eq_false_iff_not] at h
  exact ⟨beq_eq_false_iff_ne.mpr h.1.1, beq_eq_false_iff_ne.mpr h.1.2, h.2⟩
theorem nameB_ok {sc : Scope} {x y : Str} (h : nameB sc x y = true) : x = y ∧ sc.names.lookup y = some .globalImplicit ∧ okN y = true := by
  simp only [nameB, Bool.and_eq_true, decide_eq_true_eq] at h
  exact ⟨h.1, gloB_ok h.2.1, h.2.2⟩
theorem de_var {i : Nat} {x : Str} {pos : Pos} (h : slotB X.N X.env.scope i x = true) : DE X nm (.Name x pos) (wE C (.var i)) := by
  simp only [slotB, Bool.and_eq_true, decide_eq_true_eq] at h
  obtain ⟨o1, o2, o3⟩ := okN_d h.2.2
  refine PE.imp (pe_var h.1 (visB_ok h.2.1) o1 o2) fun σ H Q q => ?_
  obtain ⟨sa, m, h', Qa, Ea, rs, rh, w, tk, fin⟩ := q
  simp only [wE] at w
  unfold slot at w
  split at w
  · rename_i d e
    obtain ⟨v, e1, rv⟩ := rs.2 i d e
    exact ⟨v, e1, fin _ _ _ _ _ rv rh .refl w⟩
  · exact w.elim
theorem de_const {v : V} {d : D} {e : Expr} (h : PE X e (tC v)) (r : ∀ H m, RV X.K H m v d) (w : Sa → AH → QD → EK → Prop) (hw : ∀ s h Q E, w s h Q E → Q d h) : DE X nm e w := by
  refine PE.imp h fun σ H Q q => ?_
  obtain ⟨sa, m, h', Qa, Ea, rs, rh, w', tk, fin⟩ := q
  exact fin _ _ _ _ _ (r H m) rh .refl (hw _ _ _ _ w')
theorem de_k {d : D} {c : Const} {k : Nat} {pos : Pos} (h : constB d c = true) : DE X nm (.Constant c k pos) (wE C (.k d)) := by
  cases d <;> cases c <;> simp only [constB, decide_eq_true_eq, beq_iff_eq] at h <;> first | contradiction | skip
  · exact de_const pe_non (fun _ _ => .non) _ fun _ _ _ _ w => by simpa only [wE] using w
  · subst h; exact de_const pe_bl (fun _ _ => .bl _) _ fun _ _ _ _ w => by simpa only [wE] using w
  · subst h; exact de_const pe_int (fun _ _ => .int _) _ fun _ _ _ _ w => by simpa only [wE] using w
  · subst h; exact de_const pe_str (fun _ _ => .str _) _ fun _ _ _ _ w => by simpa only [wE] using w
theorem de_bin {op : Bop} {a b : M} {l r : Expr} {pos : Pos} (c : Ct X nm G C) (ha : DE X nm l (wE C a)) (hb : DE X nm r (wE C b)) : DE X nm (.BinOp l op.op r pos) (wE C (.bin op a b)) := by
  refine PE.imp (pe_op (op_bop (nm := nm) op (by have := c.hu; omega)) ha hb) fun σ H Q q => ?_
  have e : wE C (.bin op a b) = fun s h Q E => wE C a s h (fun x h1 => wE C b s h1 (fun y h2 => bopW op x y h2 Q) E) E := by funext s h Q E; simp only [wE]
  rw [e] at q
  exact LE.op q
theorem de_neg {a : M} {l : Expr} {pos : Pos} (ha : DE X nm l (wE C a)) : DE X nm (.UnaryOp .USub l pos) (wE C (.neg a)) := by
  refine PE.imp (pe_un (r := L1 X nm fun x h1 Q => intOf x fun i => Q (.int (-i)) h1) (fun pins s σ H x v Q I rx hq => ?_) ha) fun σ H Q q => ?_
  · obtain ⟨m, h, d, Qa, r, rh, w, fin⟩ := hq
    cases r with
    | int i => exact un_neg pins s σ H _ v Q I rx ⟨i, rfl, fin _ _ _ _ _ (.int _) rh .refl w⟩
    | _ => exact w.elim
  · have e : wE C (.neg a) = fun s h Q E => wE C a s h (fun x h1 => intOf x fun i => Q (.int (-i)) h1) E := by funext s h Q E; simp only [wE]
    rw [e] at q
    exact LE.un q
theorem nm_ok {op : CmpOp} {b : Expr} (h : notSet b = true) : behindInMarks op b = false := by
  cases b <;> simp [notSet] at h <;> simp [behindInMarks]
theorem de_cmp0 {op : Cop} {a b : M} {l r : Expr} {pos : Pos} (nw : nm.w = X.w) (hu : X.A.units + 65 < cLine) (hn : notSet r = true) (ha : DE X nm l (wE C a)) (hb : DE X nm r (wE C b)) : DE X nm (.Compare l [op.op] [r] pos) (wE C (.cmp op a b)) := by
  refine PE.imp (pe_cmpR (op_cmp (nm := nm) op nw hu) ha hb (nm_ok hn)) fun σ H Q q => ?_
  have e : wE C (.cmp op a b) = fun s h Q E => wE C a s h (fun x h1 => wE C b s h1 (fun y h2 => cmpB op x y h2 Q) E) E := by funext s h Q E; simp only [wE]
  rw [e] at q
  exact LE.op q
theorem de_cmp {op : Cop} {a b : M} {l r : Expr} {pos : Pos} (c : Ct X nm G C) (hn : notSet r = true) (ha : DE X nm l (wE C a)) (hb : DE X nm r (wE C b)) : DE X nm (.Compare l [op.op] [r] pos) (wE C (.cmp op a b)) := by
  refine PE.imp (pe_cmpR (op_cmp (nm := nm) op c.nw c.hu) ha hb (nm_ok hn)) fun σ H Q q => ?_
  have e : wE C (.cmp op a b) = fun s h Q E => wE C a s h (fun x h1 => wE C b s h1 (fun y h2 => cmpB op x y h2 Q) E) E := by funext s h Q E; simp only [wE]
  rw [e] at q
  exact LE.op q
theorem LE.imp {w w' : Sa → AH → QD → EK → Prop} (h : ∀ s a Q E, w s a Q E → w' s a Q E) {σ : L2.St} {H : Hp} {Q : VK} (q : LE X nm w σ H Q) : LE X nm w' σ H Q := by
  obtain ⟨sa, m, h', Qa, Ea, rs, rh, w1, tk, fin⟩ := q
  exact ⟨sa, m, h', Qa, Ea, rs, rh, h _ _ _ _ w1, tk, fin⟩
theorem ch_read {o1 o2 : Cop} {a b c : M} {σ : L2.St} {H : Hp} {sa : Sa} {m : List Addr} {h : AH} {Qa : QD} {Ea : EK} {Q : VK} (rs : RS X.K H m σ sa) (rh : RH X.K nm H m h)
    (w : wE C a sa h (fun x h1 => wE C b sa h1 (fun y h2 => cmpW o1 x y h2 fun k => if k = true then wE C c sa h2 (fun z h3 => cmpW o2 y z h3 fun k' => Qa (.bl k') h3) Ea else Qa (.bl false) h2) Ea) Ea) (tk : TKs X nm H m Ea)
    (fin : ∀ v H' m' d h', RV X.K H' m' v d → RH X.K nm H' m' h' → Ext H m H' m' → Qa d h' → Q v H') :
    tChain (L2' X nm (cmpB o1)) (L2' X nm (cmpB o2)) (LE X nm (wE C a)) (LE X nm (wE C b)) (LE X nm (wE C c)) σ H Q := by
  refine ⟨sa, m, h, _, Ea, rs, rh, w, tk, fun v H1 m1 d1 h1 rv rh1 ex1 q1 => ⟨sa, m1, h1, _, Ea, rs.ext ex1, rh1, q1, tk_ext tk ex1, fun v2 H2 m2 d2 h2 rv2 rh2 ex2 q2 => ?_⟩⟩
  refine ⟨m2, h2, d1, d2, fun d h3 => h3 = h2 ∧ ∃ b, d = .bl b ∧ (if b = true then wE C c sa h2 (fun z h3 => cmpW o2 d2 z h3 fun k' => Qa (.bl k') h3) Ea else Qa (.bl false) h2), rv.ext ex2, rv2, rh2, ?_, ?_⟩
  · revert q2
    generalize hK : (fun k => if k = true then wE C c sa h2 (fun z h3 => cmpW o2 d2 z h3 fun k' => Qa (.bl k') h3) Ea else Qa (.bl false) h2) = K
    intro q2
    have mono : ∀ (x y : D) (P P' : Bool → Prop), (∀ b, P b → P' b) → cmpW o1 x y h2 P → cmpW o1 x y h2 P' := fun x y P P' hp => by
      cases o1 <;> cases x <;> cases y <;> simp only [cmpW, eqW, eqdW, inW] <;> first
        | exact insW_mono hp
        | exact insW_mono (fun b => hp (!b))
        | exact eqxW_mono hp
        | exact eqxW_mono (fun b => hp (!b))
        | exact tinW_mono hp
        | exact tinW_mono (fun b => hp (!b))
        | exact hp _
        | exact fun z => z
        | exact fun z => ⟨z.1, z.2.1, hp _ z.2.2⟩
        | (rintro ⟨ys, a1, a2, a3, a4⟩; exact ⟨ys, a1, a2, a3, hp _ a4⟩)
        | skip
      all_goals (split <;> first | exact hp _ | exact fun z => z | (rintro ⟨ys, a1, a2, a3, a4⟩; exact ⟨ys, a1, a2, a3, hp _ a4⟩) | (rintro ⟨k, a1, a2⟩; exact ⟨k, a1, hp _ a2⟩) | skip)
      all_goals (split <;> first | exact hp _ | exact fun z => z | (rintro ⟨ys, a1, a2, a3, a4⟩; exact ⟨ys, a1, a2, a3, hp _ a4⟩) | (rintro ⟨k, a1, a2⟩; exact ⟨k, a1, hp _ a2⟩))
    refine mono _ _ _ _ (fun b hb => ⟨rfl, b, rfl, ?_⟩) q2
    rw [← hK] at hb
    exact hb
  · intro v3 H3 m3 d3 h3 rv3 rh3 ex3 ⟨e3, b, e4, q3⟩
    subst e3 e4
    cases rv3
    refine ⟨b, rfl, ?_⟩
    cases b with
    | false =>
      simp only [Bool.false_eq_true, if_false] at q3 ⊢
      exact fin _ _ _ _ _ (.bl _) rh3 ((ex1.trans ex2).trans ex3) q3
    | true =>
      simp only [if_true] at q3 ⊢
      refine ⟨sa, m3, h3, _, Ea, ((rs.ext ex1).ext ex2).ext ex3, rh3, q3, tk_ext (tk_ext (tk_ext tk ex1) ex2) ex3, fun v4 H4 m4 d4 h4 rv4 rh4 ex4 q4 => ?_⟩
      exact ⟨m4, h4, d2, d4, fun d h5 => Qa d h5, (rv2.ext ex3).ext ex4, rv4, rh4, q4, fun v5 H5 m5 d5 h5 r5 rh5 ex5 q5 => fin _ _ _ _ _ r5 rh5 ((((ex1.trans ex2).trans ex3).trans ex4).trans ex5) q5⟩
theorem de_ch {o1 o2 : Cop} {a b c : M} {l r t : Expr} {pos : Pos} (k : Ct X nm G C) (hn : notSet t = true) (ha : DE X nm l (wE C a)) (hb : DE X nm r (wE C b)) (hc : DE X nm t (wE C c)) : DE X nm (.Compare l [o1.op, o2.op] [r, t] pos) (wE C (.ch o1 o2 a b c)) := by
  refine PE.imp (pe_chain (op_cmp (nm := nm) o1 k.nw k.hu) (op_cmp (nm := nm) o2 k.nw k.hu) ha hb hc (by show behindInMarks o2.op t = false; exact nm_ok hn)) fun σ H Q q => ?_
  obtain ⟨sa, m, h, Qa, Ea, rs, rh, w, tk, fin⟩ := q
  simp only [wE] at w
  exact ch_read rs rh w tk fin
theorem de_and {a b : M} {x : Expr} {y : Expr} {rest : List Expr} {pos : Pos} (ha : DE X nm x (wE C a)) (hb : DE X nm (.BoolOp .And (y :: rest) pos) (wE C b)) : DE X nm (.BoolOp .And (x :: y :: rest) pos) (wE C (.and a b)) := by
  refine PE.imp (pe_and ha hb) fun σ H Q q => ?_
  obtain ⟨sa, m, h, Qa, Ea, rs, rh, w, tk, fin⟩ := q
  simp only [wE] at w
  refine ⟨sa, m, h, _, Ea, rs, rh, w, tk, fun v H1 m1 d1 h1 rv rh1 ex1 q1 => ?_⟩
  cases rv with
  | bl t =>
    simp only [boolOf] at q1
    refine ⟨t, rfl, ?_⟩
    cases t with
    | false => simp only [Bool.false_eq_true, if_false] at q1 ⊢; exact fin _ _ _ _ _ (.bl _) rh1 ex1 q1
    | true =>
      simp only [if_true] at q1 ⊢
      exact ⟨sa, m1, h1, _, Ea, rs.ext ex1, rh1, q1, tk_ext tk ex1, fun v2 H2 m2 d2 h2 rv2 rh2 ex2 q2 => fin _ _ _ _ _ rv2 rh2 (ex1.trans ex2) q2⟩
  | _ => exact q1.elim
theorem de_or {a b : M} {x : Expr} {y : Expr} {rest : List Expr} {pos : Pos} (ha : DE X nm x (wE C a)) (hb : DE X nm (.BoolOp .Or (y :: rest) pos) (wE C b)) : DE X nm (.BoolOp .Or (x :: y :: rest) pos) (wE C (.or a b)) := by
  refine PE.imp (pe_or ha hb) fun σ H Q q => ?_
  obtain ⟨sa, m, h, Qa, Ea, rs, rh, w, tk, fin⟩ := q
  simp only [wE] at w
  refine ⟨sa, m, h, _, Ea, rs, rh, w, tk, fun v H1 m1 d1 h1 rv rh1 ex1 q1 => ?_⟩
  cases rv with
  | bl t =>
    simp only [boolOf] at q1
    refine ⟨t, rfl, ?_⟩
    cases t with
    | true => simp only [if_true] at q1 ⊢; exact fin _ _ _ _ _ (.bl _) rh1 ex1 q1
    | false =>
      simp only [Bool.false_eq_true, if_false] at q1 ⊢
      exact ⟨sa, m1, h1, _, Ea, rs.ext ex1, rh1, q1, tk_ext tk ex1, fun v2 H2 m2 d2 h2 rv2 rh2 ex2 q2 => fin _ _ _ _ _ rv2 rh2 (ex1.trans ex2) q2⟩
  | _ => exact q1.elim
theorem de_not {a : M} {x : Expr} {pos : Pos} (ha : DE X nm x (wE C a)) : DE X nm (.UnaryOp .Not x pos) (wE C (.not a)) := by
  refine PE.imp (pe_not ha) fun σ H Q q => ?_
  obtain ⟨sa, m, h, Qa, Ea, rs, rh, w, tk, fin⟩ := q
  simp only [wE] at w
  refine ⟨sa, m, h, _, Ea, rs, rh, w, tk, fun v H1 m1 d1 h1 rv rh1 ex1 q1 => ?_⟩
  cases rv with
  | bl t => exact ⟨t, rfl, fin _ _ _ _ _ (.bl _) rh1 ex1 q1⟩
  | _ => exact q1.elim
theorem de_ite {c a b : M} {t x y : Expr} {pos : Pos} (hc : PT X t (LT X nm (wT C c))) (ha : DE X nm x (wE C a)) (hb : DE X nm y (wE C b)) : DE X nm (.IfExp t x y pos) (wE C (.ite c a b)) := by
  refine PE.imp (pe_ifExp hc ha hb) fun σ H Q q => ?_
  obtain ⟨sa, m, h, Qa, Ea, rs, rh, w, tk, fin⟩ := q
  simp only [wE] at w
  refine ⟨sa, m, h, _, Ea, rs, rh, w, tk, fun t H1 m1 h1 rh1 ex1 q1 => ?_⟩
  cases t with
  | true =>
    simp only [if_true] at q1 ⊢
    exact ⟨sa, m1, h1, _, Ea, rs.ext ex1, rh1, q1, tk_ext tk ex1, fun v2 H2 m2 d2 h2 rv2 rh2 ex2 q2 => fin _ _ _ _ _ rv2 rh2 (ex1.trans ex2) q2⟩
  | false =>
    simp only [Bool.false_eq_true, if_false] at q1 ⊢
    exact ⟨sa, m1, h1, _, Ea, rs.ext ex1, rh1, q1, tk_ext tk ex1, fun v2 H2 m2 d2 h2 rv2 rh2 ex2 q2 => fin _ _ _ _ _ rv2 rh2 (ex1.trans ex2) q2⟩
theorem da_nil : PA X [] (LA X nm (wA C .nil)) := by
  refine PA.imp pa_nil fun σ H Q q => ?_
  obtain ⟨sa, m, h, Qa, Ea, rs, rh, w, tk, fin⟩ := q
  simp only [wA] at w
  exact fin _ _ _ _ _ .nil rh .refl w
theorem da_cons {a r : M} {e : Expr} {es : List Expr} (ha : DE X nm e (wE C a)) (hr : PA X es (LA X nm (wA C r))) (hs : starEach (e :: es) X.env = (false, eval e X.env) :: starEach es X.env) : PA X (e :: es) (LA X nm (wA C (.cons a r))) := by
  refine PA.imp (pa_cons ha hr hs) fun σ H Q q => ?_
  obtain ⟨sa, m, h, Qa, Ea, rs, rh, w, tk, fin⟩ := q
  simp only [wA] at w
  exact ⟨sa, m, h, _, Ea, rs, rh, w, tk, fun v H1 m1 d1 h1 rv rh1 ex1 q1 => ⟨sa, m1, h1, _, Ea, rs.ext ex1, rh1, q1, tk_ext tk ex1, fun vs H2 m2 ds h2 rvs rh2 ex2 q2 => fin _ _ _ _ _ (.cons (rv.ext ex2) rvs) rh2 (ex1.trans ex2) q2⟩⟩
theorem pe_tupF {es : List Expr} {t : TA} {pos : Pos} {x1 : Nat} (h : PA X es t) : PE X (.Tuple es x1 pos) (fun σ H Q => t σ H fun xs H1 => xs.length ≤ sizeLine ∧ ∀ p its, H1 p = none → Q (.ref p) (upd H1 p (.frz (tO its) (.tup xs)))) := by
  refine ⟨fun pins s σ H Q I hq => ?_⟩
  refine wpAny_Tuple_spliced (thn (h.run pos pins s σ H _ I hq) fun us s1 ⟨xs, H1, I1, r, z, q⟩ => ⟨by rw [← r.length]; exact z, ?_⟩)
  have hf : H1 s1.heap.objs.size = none := I1.hok.fresh (Nat.le_refl _)
  refine ⟨.ref s1.heap.objs.size, upd H1 s1.heap.objs.size (.frz (tO us) (.tup xs)), I1.laid (t' := s1.toks) (fun b u e => Heap.get?_push_of_some _ e) (Nat.le_refl _) ?_, rfl, q _ _ hf⟩
  exact ⟨Heap.get?_push_size _ rfl, z, us, r, ⟨_, Heap.get?_push_size _ rfl, rfl, _, rfl⟩⟩
theorem de_tup {as : M} {es : List Expr} {k : Nat} {pos : Pos} (ha : PA X es (LA X nm (wA C as))) : DE X nm (.Tuple es k pos) (wE C (.tup as)) := by
  refine PE.imp (pe_tupF ha) fun σ H Q q => ?_
  obtain ⟨sa, m, h, Qa, Ea, rs, rh, w, tk, fin⟩ := q
  simp only [wE] at w
  refine ⟨sa, m, h, _, Ea, rs, rh, w, tk, fun vs H1 m1 ds h1 rvs rh1 ex1 q1 => ⟨by rw [rvs.length, ← SZ_line]; exact q1.1, fun p its hp => ?_⟩⟩
  obtain ⟨a1, a2, a3⟩ := new_tup its rh1 hp rvs
  exact fin _ _ _ _ _ a1 a2 (ex1.trans a3) q1.2
theorem de_lst {as : M} {es : List Expr} {pos : Pos} (ha : PA X es (LA X nm (wA C as))) : DE X nm (.List es pos) (wE C (.lst as)) := by
  refine PE.imp (pe_lst ha) fun σ H Q q => ?_
  obtain ⟨sa, m, h, Qa, Ea, rs, rh, w, tk, fin⟩ := q
  simp only [wE] at w
  refine ⟨sa, m, h, _, Ea, rs, rh, w, tk, fun vs H1 m1 ds h1 rvs rh1 ex1 q1 => ⟨by rw [rvs.length, ← SZ_line]; exact q1.1, fun p hp => ?_⟩⟩
  obtain ⟨a1, a2, a3⟩ := new_lst rh1 hp rvs
  exact fin _ _ _ _ _ a1 a2 (ex1.trans a3) q1.2
theorem de_idx {a i : M} {x y : Expr} {pos : Pos} (k : Ct X nm G C) (ha : DE X nm x (wE C a)) (hi : DE X nm y (wE C i)) (hn : notSlice y = true) : DE X nm (.Subscript x y pos) (wE C (.idx a i)) := by
  have hp : PlainIx y := by cases y <;> first | (intro o i; rfl) | simp [notSlice] at hn
  refine PE.imp (pe_ix (ix_ok (nm := nm) (by have := k.hu; omega)) ha hi hp) fun σ H Q q => ?_
  have e : wE C (.idx a i) = fun s h Q E => wE C a s h (fun x h1 => wE C i s h1 (fun y h2 => idxW h2 x y fun d => Q d h2) E) E := by funext s h Q E; simp only [wE]
  rw [e] at q
  exact LE.op (r := fun x y h Q => idxW h x y fun d => Q d h) q
theorem do_nil : PO X none (LO X nm (wO C .nil)) := by
  refine ⟨fun pins s σ H Q I q => po_none.run pins s σ H Q I ?_⟩
  obtain ⟨sa, m, h, Qa, Ea, rs, rh, w, tk, fin⟩ := q
  simp only [wO] at w
  exact fin _ _ _ _ rh .refl w
theorem do_some {a r : M} {e : Expr} (ha : DE X nm e (wE C a)) : PO X (some e) (LO X nm (wO C (.cons a r))) := by
  refine ⟨fun pins s σ H Q I q => (po_some ha).run pins s σ H Q I ?_⟩
  obtain ⟨sa, m, h, Qa, Ea, rs, rh, w, tk, fin⟩ := q
  simp only [wO] at w
  refine ⟨sa, m, h, _, Ea, rs, rh, w, tk, fun v H1 m1 d1 h1 rv rh1 ex1 q1 => ?_⟩
  cases rv with
  | int i => exact ⟨i, rfl, fin _ _ _ _ rh1 ex1 q1⟩
  | _ => exact q1.elim
theorem de_slc {a lo hi : M} {x : Expr} {l u : Option Expr} {p pos : Pos} (ha : DE X nm x (wE C a)) (hl : PO X l (LO X nm (wO C lo))) (hu : PO X u (LO X nm (wO C hi))) : DE X nm (.Subscript x (.Slice l u none p) pos) (wE C (.slc a lo hi)) := by
  refine PE.imp (pe_slice (sl_ok (nm := nm)) ha hl hu) fun σ H Q q => ?_
  obtain ⟨sa, m, h, Qa, Ea, rs, rh, w, tk, fin⟩ := q
  simp only [wE] at w
  refine ⟨sa, m, h, _, Ea, rs, rh, w, tk, fun v H1 m1 d1 h1 rv rh1 ex1 q1 => ⟨sa, m1, h1, _, Ea, rs.ext ex1, rh1, q1, tk_ext tk ex1, fun o2 H2 m2 h2 rh2 ex2 q2 => ⟨sa, m2, h2, _, Ea, (rs.ext ex1).ext ex2, rh2, q2, tk_ext (tk_ext tk ex1) ex2, fun o3 H3 m3 h3 rh3 ex3 q3 => ?_⟩⟩⟩
  exact ⟨m3, h3, d1, Qa, (rv.ext ex2).ext ex3, rh3, q3, fun v4 H4 m4 d4 h4 r4 rh4 ex4 q4 => fin _ _ _ _ _ r4 rh4 (((ex1.trans ex2).trans ex3).trans ex4) q4⟩
end
end Rf
namespace Rf
open PySem PySem.Spec PyProof.Rows L2
section
variable {X : Cx} {e : Expr} {es : List Expr} {ta : TA}
theorem pe_reinit {x : Str} {R : Addr} {mc : Value} {p1 p2 pos : Pos} (hg : Gl X x) (hm : X.mg x = some (.ref R)) (hga : PySem.W.specialIn X.K (.ref R) "__getattribute__" = some (some (.builtin "type.__getattribute__")))
    (hrd : PySem.W.readsIn X.K R mc = true) (vV : PySem.W.findCls X.K (.ref R) mc "__init__" = some (.val (.builtin "ValueError.__init__"))) (ha : PA X (e :: es) ta) (hdb : (x == ("__debug__" : Str)) = false)
    (hbase : attributeBase (.Name x p1) "__init__" X.env (eval (.Name x p1) X.env) = eval (.Name x p1) X.env := by rfl)
    (hfew : ((backTo pos (starEach (e :: es) X.env)).all (fun x => !x.1) && (backToKw pos (keywordEach [] X.env)).all (fun x => x.1.isSome)
      && decide ((e :: es).length + ([] : List Keyword).length + (if ([] : List Keyword).isEmpty then 0 else 1) < 30)) = true := by rfl)
    (hline : (p2.endLine == pos.line) = true)
    (he : starEach (e :: es) X.env = (false, eval e X.env) :: starEach es X.env := by rfl) (hpl : (backTo pos (starEach es X.env)).any (·.1) = false := by rfl) :
    PE X (.Call (.Attribute (.Name x p1) "__init__" p2) (e :: es) [] pos) (tVeI X.K ta) := by
  refine ⟨fun pins s σ H Q I h => ?_⟩
  rw [arm_eval_Call, hbase]
  refine wpAny_bind (ld_glob I hg hm ?_ hdb)
  refine wpAny_bind (wpAny_standAt ?_)
  have hform : methodCallForm ((e :: es).length + ([] : List Keyword).length) (backTo pos (starEach (e :: es) X.env)) (backToKw pos (keywordEach [] X.env)) = true := hfew
  have hpos : methodCallPos true (.Name x p1) X.env p2 pos = pure pos := by unfold methodCallPos; simp [hline]
  unfold methodCall
  rw [hform]
  refine wpAny_bind (wpAny_holding (PySem.W.method_cls I.kIn hga (PySem.W.cls_value I.kIn hrd vV (by decide +kernel) ?_)))
  refine wpAny_bind (wpAny_of_eq hpos ?_)
  show wpAny _ _ (callWith pos (Value.builtin "ValueError.__init__") [] (backTo pos (starEach (e :: es) X.env)) []) _ _ _
  refine PyProof.Rows.callWith_method1 (thn (ha.run pos pins _ σ H _ (I.tok _) h) fun us s1 ⟨vs, H1, I1, r1, a, C, ws, ev, hl, T, ea, q⟩ => ?_) he hpl
  subst ev
  cases r1 with
  | @cons _ u0 _ ur ra rw' =>
    obtain rfl : u0 = Value.ref a := ra
    have hlen : ur.length ≤ sizeLine := by
      rw [← Paired.length rw', sizeLine_eq]
      omega
    exact oinit_ok T I1 ea hlen fun s' J => ⟨.non, H1, J, rfl, q⟩
end
def spI (K : PySem.W.Frag) (C : Addr) (n : Str) : Sp := fun vs H Q E => ∃ (a : Addr) (y : V), vs = [.ref a, y] ∧ OexC K C ∧ H a = some (exo a C none) ∧ ∀ dx, H dx = none → dx ≠ a → Q .non (upd (upd H dx (exd dx [(n, y)])) a (exo a C (some dx)))
theorem slotB_ok {X : Cx} {j : Nat} {x : Str} {p : Pos} (h : slotB X.N X.env.scope j x = true) : PE X (.Name x p) (tVar j) := by
  simp only [slotB, Bool.and_eq_true, decide_eq_true_eq] at h
  obtain ⟨o1, o2, o3⟩ := okN_d h.2.2
  exact pe_var h.1 (visB_ok h.2.1) o1 o2
theorem LowK.fn {K : PySem.W.Frag} {mg : Str → Option Value} {nm : Nm} {G : Gi} {t : Nat × Nat × Nat × Nat} (L : LowK K mg nm G t) (CX : CXT) (Pr : Program) (w : World) (base : Heap) :
    ∃ (fI : Addr) (fd : FuncData) (ps : List Str) (n : Str), PySem.W.findIn K (.ref (nm.cls t.1)) "__init__" = some (some (.ref fI)) ∧ PySem.W.typeIn K (.ref fI) = some (.type "function") ∧ Binds K fd ps [] ∧ G.fl[t.2.1]? = some n ∧ nm.fld t.2.1 = n ∧ PySem.W.findIn K (.ref (nm.cls t.1)) n = some none ∧
      FnOk Pr w K mg base CX 1 fI fd ps (spI K (nm.cls t.1) n) := by
  obtain ⟨fI, fd, x, qual, params, body, scope, N, ps, n, r, R, mc, h1, h2, F, S, hp, hN, hb, hi, hf, hfl, hno, hm, hga, hrd, vV⟩ := L.ini
  refine ⟨fI, fd, ps, n, h1, h2, hb, hf, hfl, hno, F.ok S (fun vs H Q E h => ?_) fun cdv A outer s H vs Q E hr h => ?_⟩
  · obtain ⟨a, y, rfl, _⟩ := h
    rw [hp]; rfl
  · obtain ⟨a, y, rfl, T, ea, q⟩ := h
    unfold initB at hi
    split at hi
    · rename_i x1 p1 im p2 s0 q1 m0 k0 q2 pos q3 s1 q4 f' p' w0 q5 q6
      simp only [Bool.and_eq_true, decide_eq_true_eq] at hi
      obtain ⟨rfl, i0, i1, i2, i3, i4, rfl⟩ := hi
      obtain ⟨rfl, hg, ho⟩ := nameB_ok i1
      obtain ⟨hdb, _, _⟩ := okN_d ho
      refine ⟨_, pss_cons (ps_expr (pe_reinit hg hm hga hrd vV (pa_cons (slotB_ok i2) (pa_cons pe_str pa_nil)) hdb (hline := by rw [i0]; simp))) (pss_cons (ps_ost (slotB_ok i3) (slotB_ok i4)) pss_nil), ?_⟩
      obtain ⟨n0, n1, rfl⟩ : ∃ n0 n1, N = [n0, n1] := by
        match N, hN with
        | [a, b], _ => exact ⟨a, b, rfl⟩
      refine ⟨_, rfl, a, nm.cls t.1, _, rfl, by simp, T, ea, ?_⟩
      exact ⟨_, rfl, _, rfl, a, nm.cls t.1, rfl, T, hno, .inl ⟨ea, fun dx n1 n2 => q dx n1 n2⟩⟩
    · cases hi
end Rf
namespace Rf
open PySem PySem.Spec PyProof.Rows L2
section
variable {X : Cx} {nm : Nm} {G : Gi} {C : CT}
theorem de_call {f : Nat} {y x : Str} {as : M} {e : Expr} {es : List Expr} {p pos : Pos} (k : Ct X nm G C) (hf : G.fn[f]? = some y) (hn : nameB X.env.scope y x = true) (ha : PA X (e :: es) (LA X nm (wA C as)))
    (he : starEach (e :: es) X.env = (false, eval e X.env) :: starEach es X.env) (hpl : (backTo pos (starEach es X.env)).any (·.1) = false) : DE X nm (.Call (.Name x p) (e :: es) [] pos) (wE C (.call f as)) := by
  obtain ⟨rfl, hg, ho⟩ := nameB_ok hn
  obtain ⟨hdb, _, _⟩ := okN_d ho
  obtain ⟨a, fd, ps, lv, F, hr, hm, hk, hb⟩ := k.call f _ hf
  refine ⟨fun pins s σ H Q I q => ?_⟩
  obtain ⟨sa, m, h, Qa, Ea, rs, rh, w, tk, fin⟩ := q
  simp only [wE] at w
  refine wpAny_Call_Name_kw (ld_glob I hg hm ?_ hdb)
  refine PySem.W.callWith_K (h₀ := X.base) I.ok.mod.kin hk (thn (ha.run pos pins s σ H (fun vs H1 => ∃ m1 ds h1, RVs X.K H1 m1 vs ds ∧ RH X.K nm H1 m1 h1 ∧ Ext H m H1 m1 ∧ C f ds h1 Qa fun x h' => Ea x sa h') I ⟨sa, m, h, _, Ea, rs, rh, w, tk, fun vs H1 m1 ds h1 rvs rh1 ex1 q1 => ⟨m1, ds, h1, rvs, rh1, ex1, q1⟩⟩)
    fun us s1 ⟨vs, H1, I1, r1, m1, ds, h1, rvs, rh1, ex1, q1⟩ => ⟨I1.kIn, ?_⟩) he hpl
  have sp : spC X.K nm C f vs H1 Q (fun cls d H' => ∃ x m' h', RX X.K nm H' m' cls d x ∧ RH X.K nm H' m' h' ∧ Ext H1 m1 H' m' ∧ Ea x sa h') :=
    ⟨ds, m1, h1, Qa, _, rvs, rh1, q1, fun v H' m' d h' rv rh' ex q => fin v H' m' d h' rv rh' (ex1.trans ex) q, fun cls dx x H' m' h' rx rh' ex q => ⟨x, m', h', rx, rh', ex, q⟩⟩
  have hl : us.length = ps.length := by
    rw [← r1.length]
    exact F.len _ _ _ _ sp
  refine wpAny_call (codeAny_mono (F.run X.A X.stack s1 H1 ⟨us, []⟩ us vs Q _ k.gd hr I1.env0 (by simpa using hb s1 us I1.kIn (by simpa using hl)) r1 sp) fun r s' hq => ?_)
  cases r with
  | error e =>
    refine tk e s' (XE.of_call I1 (W := LW X.K nm H m Ea) (fun cls d H' ⟨x, m', h', rx, rh', ex, q⟩ => ?_) hq)
    exact ⟨x, sa, m', h', rx, (rs.ext ex1).ext ex, rh', ex1.trans ex, q⟩
  | ok fl =>
    cases fl with
    | ret u => exact I1.after hq
    | next => exact False.elim hq
    | brk => exact False.elim hq
    | cont => exact False.elim hq
theorem LA.bf {as : M} {r : List D → AH → QD → Prop} {σ : L2.St} {H : Hp} {Q : VK}
    (q : LE X nm (fun s h Q E => wA C as s h (fun ds h1 => r ds h1 Q) E) σ H Q) : tCB (LB X nm r) (LA X nm (wA C as)) σ H Q := by
  obtain ⟨sa, m, h, Qa, Ea, rs, rh, w, tk, fin⟩ := q
  exact ⟨sa, m, h, _, Ea, rs, rh, w, tk, fun vs H1 m1 ds h1 rvs rh1 ex1 q1 => ⟨m1, h1, ds, Qa, rvs, rh1, q1, fun v H' m' d h' rv rh' ex q => fin _ _ _ _ _ rv rh' (ex1.trans ex) q⟩⟩
theorem mem_blt {x : Str} (k : Ct X nm G C) (h : x ∈ bltS) : X.mg x = none := k.blt x h
theorem de_bf {f : Bf} {x : Str} {as : M} {e : Expr} {es : List Expr} {p pos : Pos} (k : Ct X nm G C) (hd : bfDone f = true) (hn : nameB X.env.scope (bfN f) x = true) (ha : PA X (e :: es) (LA X nm (wA C as)))
    (he : starEach (e :: es) X.env = (false, eval e X.env) :: starEach es X.env) (hpl : (backTo pos (starEach es X.env)).any (·.1) = false) : DE X nm (.Call (.Name x p) (e :: es) [] pos) (wE C (.bf f as)) := by
  obtain ⟨rfl, hg, ho⟩ := nameB_ok hn
  obtain ⟨hdb, _, hnn⟩ := okN_d ho
  have eq : wE C (.bf f as) = fun s h Q E => wA C as s h (fun ds h1 => bfW h1 f ds Q) E := by funext s h Q E; simp only [wE]
  have hm : X.mg (bfN f) = none := mem_blt k (by cases f <;> first | (cases hd; done) | (simp only [bfN, bltS]; simp))
  cases f with
  | len => exact PE.imp (pe_callB (bf_len (nm := nm)) hg hm PySem.boot_len ha hnn hdb he hpl) fun σ H Q q => LA.bf (r := fun ds h Q => bfW h .len ds Q) (eq ▸ q)
  | abs => exact PE.imp (pe_callB (bf_abs (nm := nm)) hg hm (by decide +kernel) ha hnn hdb he hpl) fun σ H Q q => LA.bf (r := fun ds h Q => bfW h .abs ds Q) (eq ▸ q)
  | min2 => exact PE.imp (pe_callB (bf_min2 (nm := nm) k.calm) hg hm (by decide +kernel) ha hnn hdb he hpl) fun σ H Q q => LA.bf (r := fun ds h Q => bfW h .min2 ds Q) (eq ▸ q)
  | max2 => exact PE.imp (pe_callB (bf_max2 (nm := nm) k.calm) hg hm (by decide +kernel) ha hnn hdb he hpl) fun σ H Q q => LA.bf (r := fun ds h Q => bfW h .max2 ds Q) (eq ▸ q)
  | minl => exact PE.imp (pe_callB (bf_minl (nm := nm) k.calm k.hu) hg hm (by decide +kernel) ha hnn hdb he hpl) fun σ H Q q => LA.bf (r := fun ds h Q => bfW h .minl ds Q) (eq ▸ q)
  | maxl => exact PE.imp (pe_callB (bf_maxl (nm := nm) k.calm) hg hm (by decide +kernel) ha hnn hdb he hpl) fun σ H Q q => LA.bf (r := fun ds h Q => bfW h .maxl ds Q) (eq ▸ q)
  | int => exact PE.imp (pe_callTy (bf_int (nm := nm)) hg hm (by decide +kernel) ha hnn hdb he hpl) fun σ H Q q => LA.bf (r := fun ds h Q => bfW h .int ds Q) (eq ▸ q)
  | tuple => exact PE.imp (pe_callTy (bf_tuple (nm := nm)) hg hm (by decide +kernel) ha hnn hdb he hpl) fun σ H Q q => LA.bf (r := fun ds h Q => bfW h .tuple ds Q) (eq ▸ q)
  | list => exact PE.imp (pe_callTy (bf_list (nm := nm) k.calm) hg hm (by decide +kernel) ha hnn hdb he hpl) fun σ H Q q => LA.bf (r := fun ds h Q => bfW h .list ds Q) (eq ▸ q)
  | all => exact PE.imp (pe_callB (bf_all (nm := nm) k.calm) hg hm (by decide +kernel) ha hnn hdb he hpl) fun σ H Q q => LA.bf (r := fun ds h Q => bfW h .all ds Q) (eq ▸ q)
  | any => exact PE.imp (pe_callB (bf_any (nm := nm) k.calm) hg hm (by decide +kernel) ha hnn hdb he hpl) fun σ H Q q => LA.bf (r := fun ds h Q => bfW h .any ds Q) (eq ▸ q)
  | sum => exact PE.imp (pe_callB (bf_sum (nm := nm) k.calm) hg hm (by decide +kernel) ha hnn hdb he hpl) fun σ H Q q => LA.bf (r := fun ds h Q => bfW h .sum ds Q) (eq ▸ q)
  | sorted => exact PE.imp (pe_callB (bf_sorted (nm := nm) k.calm k.hu) hg hm (by decide +kernel) ha hnn hdb he hpl) fun σ H Q q => LA.bf (r := fun ds h Q => bfW h .sorted ds Q) (eq ▸ q)
  | dnew => exact PE.imp (pe_callTy (bf_dnew (nm := nm) k.calm) hg hm (by decide +kernel) ha hnn hdb he hpl) fun σ H Q q => LA.bf (r := fun ds h Q => bfW h .dnew ds Q) (eq ▸ q)
  | lenT => exact PE.imp (pe_callB (bf_lenT (nm := nm) k.nw) hg hm PySem.boot_len ha hnn hdb he hpl) fun σ H Q q => LA.bf (r := fun ds h Q => bfW h .lenT ds Q) (eq ▸ q)
  | repr => exact PE.imp (pe_callB (bf_repr (nm := nm) k.gd k.hu) hg hm (by decide +kernel) ha hnn hdb he hpl) fun σ H Q q => LA.bf (r := fun ds h Q => bfW h .repr ds Q) (eq ▸ q)
  | str => exact PE.imp (pe_callTy (bf_str (nm := nm)) hg hm (by decide +kernel) ha hnn hdb he hpl) fun σ H Q q => LA.bf (r := fun ds h Q => bfW h .str ds Q) (eq ▸ q)
theorem de_isi0 {t : Ty1} {x z : Str} {a : M} {y : Expr} {p pz pos : Pos} (hblt : ∀ y ∈ bltS, X.mg y = none) (hn : nameB X.env.scope (Str.ofString "isinstance") x = true) (hz : nameB X.env.scope t.s z = true) (ha : DE X nm y (wE C a))
    (he : starEach [y, .Name z pz] X.env = (false, eval y X.env) :: starEach [.Name z pz] X.env) (he2 : starEach [.Name z pz] X.env = (false, eval (.Name z pz) X.env) :: starEach [] X.env) (hpl : (backTo pos (starEach [.Name z pz] X.env)).any (·.1) = false) :
    DE X nm (.Call (.Name x p) [y, .Name z pz] [] pos) (wE C (.isi t a)) := by
  obtain ⟨rfl, hg, ho⟩ := nameB_ok hn
  obtain ⟨rfl, hg2, ho2⟩ := nameB_ok hz
  obtain ⟨hdb, _, hnn⟩ := okN_d ho
  obtain ⟨hdb2, _, hnn2⟩ := okN_d ho2
  have hm : X.mg (Str.ofString "isinstance") = none := hblt _ (by simp [bltS])
  have hm2 : X.mg t.s = none := hblt _ (by cases t <;> simp [bltS, Ty1.s, Ty1.tn])
  have hb : bootBuiltins t.s = some (.type t.tn) := by cases t <;> decide +kernel
  have pz' : PE X (.Name t.s pz) (tC (.ty t.tn)) := pe_bltn hg2 hm2 hb rfl hnn2 hdb2
  have ci : CallR X (.builtin "isinstance") (fun xs H Q => ∃ (v : V) (m : List Addr) (h : AH) (d : D) (b : Bool), xs = [v, .ty t.tn] ∧ RV X.K H m v d ∧ RH X.K nm H m h ∧ isTyW h t d = some b ∧ Q (.bl b) H) := by
    intro pins s σ H xs us Q I rv hq
    obtain ⟨v, m, h, d, b, rfl, r, rh, e, q⟩ := hq
    obtain ⟨u, u2, rfl, r1, r2⟩ := vals2 rv
    cases r2
    exact isi_ok (h := h) t I r1 r rh e fun tk => ⟨.bl b, H, I.tok _, rfl, q⟩
  refine PE.imp (pe_callB ci hg hm (by decide +kernel) (pa_cons ha (pa_cons pz' pa_nil he2) he) hnn hdb he hpl) fun σ H Q q => ?_
  obtain ⟨sa, m, h, Qa, Ea, rs, rh, w, tk, fin⟩ := q
  simp only [wE] at w
  refine ⟨sa, m, h, _, Ea, rs, rh, w, tk, fun v H1 m1 d1 h1 rv rh1 ex1 q1 => ?_⟩
  obtain ⟨b, e, q⟩ := q1
  exact ⟨v, m1, h1, d1, b, rfl, rv, rh1, e, fin _ _ _ _ _ (.bl _) rh1 ex1 q⟩
theorem de_isi {t : Ty1} {x z : Str} {a : M} {y : Expr} {p pz pos : Pos} (k : Ct X nm G C) (hn : nameB X.env.scope (Str.ofString "isinstance") x = true) (hz : nameB X.env.scope t.s z = true) (ha : DE X nm y (wE C a))
    (he : starEach [y, .Name z pz] X.env = (false, eval y X.env) :: starEach [.Name z pz] X.env) (he2 : starEach [.Name z pz] X.env = (false, eval (.Name z pz) X.env) :: starEach [] X.env) (hpl : (backTo pos (starEach [.Name z pz] X.env)).any (·.1) = false) :
    DE X nm (.Call (.Name x p) [y, .Name z pz] [] pos) (wE C (.isi t a)) := de_isi0 k.blt hn hz ha he he2 hpl
def bmId : Bm → D → String
  | .append, _ => "list.append"
  | .extend, _ => "list.extend"
  | .pop, _ => "list.pop"
  | .remove, _ => "list.remove"
  | .index, d => ixId d
  | .get, _ => "dict.get"
  | .popk, _ => "dict.pop"
  | .getT, _ => "dict.get"
  | .join, _ => "str.join"
  | .split, _ => "str.split"
  | .count, _ => "str.count"
  | .upper, _ => "str.upper"
def bmTy : Bm → D → String
  | .index, .tup _ => "tuple"
  | .get, _ => "dict"
  | .popk, _ => "dict"
  | .getT, _ => "dict"
  | .join, _ => "str"
  | .split, _ => "str"
  | .count, _ => "str"
  | .upper, _ => "str"
  | _, _ => "list"
theorem joinT_eq (a : List Nat) : ∀ ys : List (List Nat), joinT a ys = TL.joinL a ys
  | [] => rfl
  | [_] => rfl
  | p :: q :: r => by simp only [joinT, TL.joinL, joinT_eq a (q :: r)]
theorem mkS_tls : ∀ l : List (List Nat), (l.map mkS).map TL.tl = l
  | [] => rfl
  | x :: l => congrArg (fun z => x :: z) (mkS_tls l)
theorem join_mkS (a : List Nat) (ys : List (List Nat)) : Txt.join (mkS a) (ys.map mkS) = mkS (TL.joinL a ys) := by
  refine TL.ext_tl ?_
  rw [TL.join_eq, TL.tl_join, mkS_tls]
  rfl
theorem rvs_str {K : PySem.W.Frag} {H : Hp} {m : List Addr} : ∀ {ys : List (List Nat)} {xs : List V}, RVs K H m xs (ys.map D.str) → xs = (ys.map mkS).map V.str
  | [], _, h => by cases h; rfl
  | y :: ys, _, h => by
    cases h with
    | cons h1 h2 => cases h1; rw [rvs_str h2]; rfl
theorem bm_join : MtR X "str.join" (fun x xs H Q => ∃ m h d ds Qa, RV X.K H m x d ∧ RVs X.K H m xs ds ∧ RH X.K nm H m h ∧ bmW h .join d ds Qa ∧ ∀ v H' m' d' h', RV X.K H' m' v d' → RH X.K nm H' m' h' → Ext H m H' m' → Qa d' h' → Q v H') := by
  intro pins s σ H x xs v us Q I rx rv hq
  obtain ⟨m, h, d, ds, Qa, r, rs, rh, w, fin⟩ := hq
  match d, ds, w with
  | .str a, [y], w =>
    obtain ⟨ys, e, hz, q⟩ := w
    obtain ⟨yv, rfl, ry⟩ := rvs1 rs
    obtain ⟨p, zs, rfl, hs, rz⟩ := items_of rh ry e
    have ez := rvs_str rz
    subst ez
    cases r
    refine mt_join pins s σ H _ _ v us Q I rx rv ⟨mkS a, p, ys.map mkS, rfl, rfl, hs, ?_, ?_⟩
    · have e1 : ((ys.map mkS).map (·.length)).sum = (ys.map (·.length)).sum := by rw [List.map_map]; rfl
      rw [e1, List.length_map]
      exact hz
    · have e2 : Txt.join (mkS a) (ys.map mkS) = mkS (joinT a ys) := by rw [joinT_eq]; exact join_mkS a ys
      rw [e2]
      exact fin _ _ _ _ _ (.str _) rh .refl q
theorem spl_splT (c : Nat) : ∀ (l acc : List Nat), TL.spl [c] 0 acc l = splT c acc l
  | [], _ => rfl
  | x :: r, acc => by
    have e : TL.pre [c] (x :: r) = (x == c) := by
      show ([x] == [c]) = (x == c)
      cases h : x == c <;> simp_all
    by_cases h : x = c
    · subst h
      rw [TL.spl_hit (by rw [e]; exact beq_self_eq_true _)]
      show acc :: TL.spl [x] 0 [] r = _
      rw [spl_splT x r []]
      simp [splT]
    · rw [TL.spl_miss (by rw [e]; simpa using h), spl_splT c r (acc ++ [x])]
      simp [splT, h]
theorem split_mkS {c : Nat} (hc : c < 256) (a : List Nat) : Txt.split (mkS a) (mkS [c]) = (splT c [] a).map mkS := by
  refine TL.map_tl_inj ?_
  rw [mkS_tls, TL.split_spl (mkS a) (mkS [c]) (by show [c] ≠ []; simp) (TL.kind_ok (by
    rw [← Array.all_toList]
    show [c].all (· < 256) = true
    simpa using hc))]
  exact spl_splT c a []
theorem rvs_ofS {K : PySem.W.Frag} {H : Hp} {m : List Addr} : ∀ ys : List (List Nat), RVs K H m ((ys.map mkS).map V.str) (ys.map D.str)
  | [] => .nil
  | y :: ys => .cons (.str _) (rvs_ofS ys)
theorem bm_split : MtR X "str.split" (fun x xs H Q => ∃ m h d ds Qa, RV X.K H m x d ∧ RVs X.K H m xs ds ∧ RH X.K nm H m h ∧ bmW h .split d ds Qa ∧ ∀ v H' m' d' h', RV X.K H' m' v d' → RH X.K nm H' m' h' → Ext H m H' m' → Qa d' h' → Q v H') := by
  intro pins s σ H x xs v us Q I rx rv hq
  obtain ⟨m, h, d, ds, Qa, r, rs, rh, w, fin⟩ := hq
  match d, ds, w with
  | .str a, [.str [c]], w =>
    obtain ⟨hc, hz, q⟩ := w
    obtain ⟨yv, rfl, ry⟩ := rvs1 rs
    cases ry
    cases r
    refine mt_split pins s σ H _ _ v us Q I rx rv ⟨mkS a, mkS [c], rfl, rfl, rfl, hz, ?_⟩
    rw [split_mkS hc]
    intro p hp
    obtain ⟨a1, a2, a3⟩ := new_lst rh hp (rvs_ofS (splT c [] a))
    exact fin _ _ _ _ _ a1 a2 a3 q
theorem count_mkS (c : Nat) (a : List Nat) : Txt.count (mkS a) (mkS [c]) = (((splT c [] a).length - 1 : Nat) : Int) := by
  have hy : TL.tl (mkS [c]) ≠ [] := by show [c] ≠ []; simp
  obtain ⟨f, g, hn⟩ := PySem.StrLaws.occ_tight (mkS a) (mkS [c]) (TL.len1 hy)
  have key := TL.parts_spl hy _ 0 f (Nat.zero_le _) g hn
  have h1 := congrArg List.length key
  have h2 : TL.spl (TL.tl (mkS [c])) 0 [] ((TL.tl (mkS a)).drop 0) = splT c [] a := spl_splT c a []
  rw [h2, List.length_map, ← PySem.StrLaws.partsBetween_eq, length_partsBetween] at h1
  unfold Txt.count
  rw [← h1]
  simp
theorem bm_count : MtR X "str.count" (fun x xs H Q => ∃ m h d ds Qa, RV X.K H m x d ∧ RVs X.K H m xs ds ∧ RH X.K nm H m h ∧ bmW h .count d ds Qa ∧ ∀ v H' m' d' h', RV X.K H' m' v d' → RH X.K nm H' m' h' → Ext H m H' m' → Qa d' h' → Q v H') := by
  intro pins s σ H x xs v us Q I rx rv hq
  obtain ⟨m, h, d, ds, Qa, r, rs, rh, w, fin⟩ := hq
  match d, ds, w with
  | .str a, [.str [c]], w =>
    obtain ⟨hc, q⟩ := w
    obtain ⟨yv, rfl, ry⟩ := rvs1 rs
    cases ry
    cases r
    refine mt_count pins s σ H _ _ v us Q I rx rv ⟨mkS a, mkS [c], rfl, rfl, ?_⟩
    rw [count_mkS]
    exact fin _ _ _ _ _ (.int _) rh .refl q
theorem bm_upper : MtR X "str.upper" (fun x xs H Q => ∃ m h d ds Qa, RV X.K H m x d ∧ RVs X.K H m xs ds ∧ RH X.K nm H m h ∧ bmW h .upper d ds Qa ∧ ∀ v H' m' d' h', RV X.K H' m' v d' → RH X.K nm H' m' h' → Ext H m H' m' → Qa d' h' → Q v H') := by
  intro pins s σ H x xs v us Q I rx rv hq
  obtain ⟨m, h, d, ds, Qa, r, rs, rh, w, fin⟩ := hq
  match d, ds, w with
  | .str a, [], w =>
    obtain ⟨hz, ha, q⟩ := w
    cases rs
    cases r
    refine mt_upper pins s σ H _ _ v us Q I rx rv ⟨mkS a, rfl, rfl, by rw [mkS_len]; omega, ?_⟩
    have e : Txt.upper (mkS a) = mkS (a.map PyProof.Rows.up1) := SX.upper_S ha
    rw [e]
    exact fin _ _ _ _ _ (.str _) rh .refl q
theorem bm_on {f : Bm} {pins : List (Addr × Obj)} {s : Shared} {σ : L2.St} {H : Hp} {m : List Addr} {h : AH} {d : D} {x : V} {v : Value} (I : Inv X pins σ H s) (rh : RH X.K nm H m h) (r : RV X.K H m x d) (rx : RelV x v) (t : bmT h f d) :
    PlainAttrs (bmTy f d) ∧ Slot (bmTy f d) (bmN f) (bmId f d) ∧ typeOf (.builtin (bmId f d)) = pure (.type "method_descriptor") ∧ s.TypeIs v (bmTy f d) ∧ ∀ a, v = .ref a → ∃ ob, s.heap.get? a = some ob ∧ ob.dict = none := by
  have lst : ∀ {a : Addr} {xs : List V}, SqL X.K H a xs → s.TypeIs (.ref a) "list" ∧ ∀ b, Value.ref a = .ref b → ∃ ob, s.heap.get? b = some ob ∧ ob.dict = none := by
    intro a xs hs
    obtain ⟨its, _, ⟨o, n, ho, hc, hdn, _⟩, _⟩ := I.list hs
    exact ⟨⟨o, ho, hc⟩, fun b e => by cases e; exact ⟨o, ho, hdn⟩⟩
  have ref : ∀ n, d = .ref n → (∃ xs, h[n]? = some (.lst xs)) → s.TypeIs v "list" ∧ ∀ b, v = .ref b → ∃ ob, s.heap.get? b = some ob ∧ ob.dict = none := by
    rintro n rfl ⟨xs, e⟩
    obtain ⟨a, ws, rfl, hm, hH, rz⟩ := the_lst rh r e
    cases rx
    exact lst (SqL.of hH)
  have dct : (∃ kvs, dictOf h d = some kvs) → s.TypeIs v "dict" ∧ ∀ b, v = .ref b → ∃ ob, s.heap.get? b = some ob ∧ ob.dict = none := by
    rintro ⟨kvs, e⟩
    obtain ⟨a, vs, rfl, hrd, rk⟩ := dict_rd rh r e
    cases rx
    have g : DGet H a (kV (.inl 0)) (valV vs (.inl 0)) := DGet.rd hrd
    exact ⟨dict_typeIs I g, dict_noDict I g⟩
  cases f with
  | join =>
    obtain ⟨a, rfl⟩ := t
    cases r
    obtain ⟨tk, rfl⟩ := rx
    exact ⟨PySem.F.plainAttrs_str, PySem.F.slot_str_join, PySem.F.type_str_join, typeIs_str _ _ _, fun b e => by cases e⟩
  | split =>
    obtain ⟨a, rfl⟩ := t
    cases r
    obtain ⟨tk, rfl⟩ := rx
    exact ⟨PySem.F.plainAttrs_str, PySem.F.slot_str_split, PySem.F.type_str_split, typeIs_str _ _ _, fun b e => by cases e⟩
  | count =>
    obtain ⟨a, rfl⟩ := t
    cases r
    obtain ⟨tk, rfl⟩ := rx
    exact ⟨PySem.F.plainAttrs_str, PySem.F.slot_str_count, PySem.F.type_str_count, typeIs_str _ _ _, fun b e => by cases e⟩
  | upper =>
    obtain ⟨a, rfl⟩ := t
    cases r
    obtain ⟨tk, rfl⟩ := rx
    exact ⟨PySem.F.plainAttrs_str, PySem.F.slot_str_upper, PySem.F.type_str_upper, typeIs_str _ _ _, fun b e => by cases e⟩
  | get => exact ⟨PySem.F.plainAttrs_dict, PySem.F.slot_dict_get, PySem.F.type_dict_get, dct t⟩
  | popk => exact ⟨PySem.F.plainAttrs_dict, PySem.F.slot_dict_pop, PySem.F.type_dict_pop, dct t⟩
  | getT =>
    obtain ⟨n, kvs, rfl, e⟩ := t
    obtain ⟨a, oe, es, ep, zs, rfl, hm, x0⟩ := the_dt rh r e
    obtain rfl : v = Value.ref a := rx
    have g := (I.hok a _ x0.at_).1
    exact ⟨PySem.F.plainAttrs_dict, PySem.F.slot_dict_get, PySem.F.type_dict_get, ⟨oe, g, x0.ex.1⟩, fun b eb => by cases eb; exact ⟨oe, g, x0.ex.2.1⟩⟩
  | append =>
    cases d with
    | ref n => exact ⟨PySem.F.plainAttrs_list, PySem.F.slot_list_append, PySem.F.type_list_append, ref n rfl t⟩
    | _ => exact t.elim
  | extend =>
    cases d with
    | ref n => exact ⟨PySem.F.plainAttrs_list, PySem.F.slot_list_extend, PySem.F.type_list_extend, ref n rfl t⟩
    | _ => exact t.elim
  | pop =>
    cases d with
    | ref n => exact ⟨PySem.F.plainAttrs_list, PySem.F.slot_list_pop, PySem.F.type_list_pop, ref n rfl t⟩
    | _ => exact t.elim
  | remove =>
    cases d with
    | ref n => exact ⟨PySem.F.plainAttrs_list, PySem.F.slot_list_remove, PySem.F.type_list_remove, ref n rfl t⟩
    | _ => exact t.elim
  | index =>
    obtain ⟨zs, e⟩ := t
    cases d with
    | tup xs =>
      refine ⟨PySem.F.plainAttrs_tuple, PySem.F.slot_tuple_index, PySem.F.type_tuple_index, ?_⟩
      cases r with
      | @tup a ws _ hs rs =>
        cases rx
        rcases hs with ⟨o, hH, hd⟩ | ⟨o, its, n, hk, hc, hd, _⟩
        · obtain ⟨ho, _, its, _, ⟨o', ho', hc, _⟩⟩ := I.hok a _ hH
          rw [ho] at ho'; cases ho'
          exact ⟨⟨o, ho, hc⟩, fun b e => by cases e; exact ⟨o, ho, hd⟩⟩
        · exact ⟨⟨o, I.kIn a o hk, hc⟩, fun b e => by cases e; exact ⟨o, I.kIn a o hk, hd⟩⟩
    | rol xs =>
      refine ⟨PySem.F.plainAttrs_list, PySem.F.slot_list_index, PySem.F.type_list_index, ?_⟩
      cases r with
      | rol hs rs => cases rx; exact lst hs.sq
    | ref n =>
      refine ⟨PySem.F.plainAttrs_list, PySem.F.slot_list_index, PySem.F.type_list_index, ref n rfl ?_⟩
      cases q2 : h[n]? with
      | none => simp [itemsOf, q2] at e
      | some ob =>
        cases ob with
        | lst zs => exact ⟨zs, rfl⟩
        | _ => simp [itemsOf, q2] at e
    | _ => simp [itemsOf] at e
theorem bm_call {f : Bm} (hw : nm.w = X.w) (hu : X.A.units + 65 < cLine) {pins : List (Addr × Obj)} {s : Shared} {σ : L2.St} {H : Hp} {m : List Addr} {h : AH} {d : D} {x : V} {v : Value} {xs : List V} {us : List Value} {ds : List D} {Q : VK} {Qa : QD} (I : Inv X pins σ H s) (rh : RH X.K nm H m h) (r : RV X.K H m x d) (rx : RelV x v)
    (rs : RVs X.K H m xs ds) (rv : Vals xs us) (w : bmW h f d ds Qa) (fin : ∀ v H' m' d' h', RV X.K H' m' v d' → RH X.K nm H' m' h' → Ext H m H' m' → Qa d' h' → Q v H') :
    wpAny (model X.prog X.w) X.A (call (.builtin (bmId f d)) (v :: us)) (EP X pins σ Q) X.xe s := by
  cases f with
  | join => exact bm_join pins s σ H x xs v us Q I rx rv ⟨m, h, d, ds, Qa, r, rs, rh, w, fin⟩
  | split => exact bm_split pins s σ H x xs v us Q I rx rv ⟨m, h, d, ds, Qa, r, rs, rh, w, fin⟩
  | count => exact bm_count pins s σ H x xs v us Q I rx rv ⟨m, h, d, ds, Qa, r, rs, rh, w, fin⟩
  | upper => exact bm_upper pins s σ H x xs v us Q I rx rv ⟨m, h, d, ds, Qa, r, rs, rh, w, fin⟩
  | append => exact bm_append pins s σ H x xs v us Q I rx rv ⟨m, h, d, ds, Qa, r, rs, rh, w, fin⟩
  | extend => exact bm_extend pins s σ H x xs v us Q I rx rv ⟨m, h, d, ds, Qa, r, rs, rh, w, fin⟩
  | pop => exact bm_pop pins s σ H x xs v us Q I rx rv ⟨m, h, d, ds, Qa, r, rs, rh, w, fin⟩
  | remove => exact bm_remove pins s σ H x xs v us Q I rx rv ⟨m, h, d, ds, Qa, r, rs, rh, w, fin⟩
  | get => exact bm_get (by omega) pins s σ H x xs v us Q I rx rv ⟨m, h, d, ds, Qa, r, rs, rh, w, fin⟩
  | getT =>
    match d, ds, w with
    | .ref n, [y, z], w =>
      obtain ⟨zs, nk, kvs, rfl, e1, hd, hn, q⟩ := w
      obtain ⟨a, oe, es, ep, ys, rfl, hm, x0⟩ := the_dt rh r hn
      obtain ⟨yv, zv, rfl, ry, rz⟩ := rvs2 rs
      obtain ⟨u, u2, rfl, ru, ru2⟩ := vals2 rv
      obtain ⟨b, rfl, rfl, hk⟩ := key_at I ry e1 hd ru
      obtain rfl : v = Value.ref a := rx
      rw [hw] at x0
      show wpAny (model X.prog X.w) X.A (call (.builtin "dict.get") [.ref a, .ref b, u2]) (EP X pins σ Q) X.xe s
      refine call_meetsIn PySem.F.slot_dict_get (x0.dict I).typeIs PySem.F.entry_dict_get (PySem.F.args_dict_get_3 _ _ _) (meetsH_dict_get_default (nestedKind X.prog X.w) a b x0.ns u2) ⟨room8 hu, nk, ys, hk, x0.dict I, ?_⟩
      cases ev : valT kvs nk with
      | none =>
        rw [ev] at q
        rw [rt_none x0.rt ev]
        exact ⟨zv, H, I.tok _, ru2, fin _ _ _ _ _ rz rh .refl q⟩
      | some d2 =>
        rw [ev] at q
        obtain ⟨b2, u3, v3, g1, g2, g3⟩ := rt_some x0.rt ev
        rw [g1]
        exact ⟨v3, H, I.tok _, g3, fin _ _ _ _ _ g2 rh .refl q⟩
  | popk => exact bm_popk pins s σ H x xs v us Q I rx rv ⟨m, h, d, ds, Qa, r, rs, rh, w, fin⟩
  | index =>
    match ds, w with
    | [y], w =>
      obtain ⟨zs, e, oy, od, j, hj, q⟩ := w
      obtain ⟨yv, rfl, ry⟩ := rvs1 rs
      obtain ⟨u, rfl, ru⟩ := vals1 rv
      exact bm_index (nm := nm) hu I rh r rx e ry ru oy od hj (fin _ _ _ _ _ (.int _) rh .refl q)
theorem de_bm {f : Bm} {o as : M} {x : Expr} {e : Expr} {es : List Expr} {apos cpos : Pos} (k : Ct X nm G C) (ho : DE X nm x (wE C o)) (ha : PA X (e :: es) (LA X nm (wA C as)))
    (hbase : attributeBase x (bmN f) X.env (eval x X.env) = eval x X.env)
    (hfew : ((backTo cpos (starEach (e :: es) X.env)).all (fun x => !x.1) && (backToKw cpos (keywordEach [] X.env)).all (fun x => x.1.isSome)
      && decide ((e :: es).length + ([] : List Keyword).length + (if ([] : List Keyword).isEmpty then 0 else 1) < 30)) = true)
    (hline : (apos.endLine == cpos.line) = true) (hs : starEach (e :: es) X.env = (false, eval e X.env) :: starEach es X.env) (hplain : (backTo cpos (starEach es X.env)).any (·.1) = false) :
    DE X nm (.Call (.Attribute x (bmN f) apos) (e :: es) [] cpos) (wE C (.bm f o as)) := by
  refine ⟨fun pins s σ H Q I q => ?_⟩
  obtain ⟨sa, m, h, Qa, Ea, rs, rh, w, tk, fin⟩ := q
  simp only [wE] at w
  refine wpAny_Call_method_late hbase hfew hline rfl (thn (ho.run pins s σ H (fun v H1 => ∃ m1 d h1, RV X.K H1 m1 v d ∧ RH X.K nm H1 m1 h1 ∧ Ext H m H1 m1 ∧ bmT h1 f d ∧ wA C as sa h1 (fun ds h2 => bmW h2 f d ds Qa) Ea) I
    ⟨sa, m, h, _, Ea, rs, rh, w, tk, fun v H1 m1 d h1 rv rh1 ex1 q1 => ⟨m1, d, h1, rv, rh1, ex1, q1⟩⟩) fun v s1 ⟨xv, H1, I1, r1, m1, d, h1, rv, rh1, ex1, t1, q1⟩ => ?_)
  obtain ⟨b1, b2, b3, b4, b5⟩ := bm_on I1 rh1 rv r1 t1
  refine ⟨bmTy f d, bmId f d, b1, b2, b3, b4, b5, ?_⟩
  have hA := ha.run cpos pins s1 σ H1 (fun vs H2 => ∃ m2 ds h2, RVs X.K H2 m2 vs ds ∧ RH X.K nm H2 m2 h2 ∧ Ext H1 m1 H2 m2 ∧ bmW h2 f d ds Qa) I1 ⟨sa, m1, h1, _, Ea, rs.ext ex1, rh1, q1, tk_ext tk ex1, fun vs H2 m2 ds h2 rvs rh2 ex2 q2 => ⟨m2, ds, h2, rvs, rh2, ex2, q2⟩⟩
  rw [hs] at hA ⊢
  refine Calls.callWith_builtin (by show (false || (backTo cpos (starEach es X.env)).any (·.1)) = false; rw [hplain] <;> rfl) (Calls.evalArgs_plain ?_)
  exact thn hA fun us s2 ⟨vs, H2, I2, r2, m2, ds, h2, rvs, rh2, ex2, q2⟩ => bm_call k.nw k.hu I2 rh2 (rv.ext ex2) r1 rvs r2 q2 fun v' H' m' d' h' r' rh' ex' q' => fin _ _ _ _ _ r' rh' ((ex1.trans ex2).trans ex') q'
theorem de_bm0 {f : Bm} {o : M} {x : Expr} {apos cpos : Pos} (k : Ct X nm G C) (ho : DE X nm x (wE C o))
    (hbase : attributeBase x (bmN f) X.env (eval x X.env) = eval x X.env) (hline : (apos.endLine == cpos.line) = true) :
    DE X nm (.Call (.Attribute x (bmN f) apos) [] [] cpos) (wE C (.bm f o .nil)) := by
  refine ⟨fun pins s σ H Q I q => ?_⟩
  obtain ⟨sa, m, h, Qa, Ea, rs, rh, w, tk, fin⟩ := q
  simp only [wE, wA] at w
  refine wpAny_Call_method0_late hbase hline (thn (ho.run pins s σ H (fun v H1 => ∃ m1 d h1, RV X.K H1 m1 v d ∧ RH X.K nm H1 m1 h1 ∧ Ext H m H1 m1 ∧ bmT h1 f d ∧ bmW h1 f d [] Qa) I
    ⟨sa, m, h, _, Ea, rs, rh, w, tk, fun v H1 m1 d h1 rv rh1 ex1 q1 => ⟨m1, d, h1, rv, rh1, ex1, q1⟩⟩) fun v s1 ⟨xv, H1, I1, r1, m1, d, h1, rv, rh1, ex1, t1, q1⟩ => ?_)
  obtain ⟨b1, b2, b3, b4, b5⟩ := bm_on I1 rh1 rv r1 t1
  refine ⟨bmTy f d, bmId f d, b1, b2, b3, b4, b5, Calls.callWith_builtin rfl (PySem.evalArgs_none ?_)⟩
  exact bm_call k.nw k.hu I1 rh1 rv r1 .nil .nil q1 fun v' H' m' d' h' r' rh' ex' q' => fin _ _ _ _ _ r' rh' (ex1.trans ex') q'
theorem de_lvals {a : M} {x n : Str} {o : Expr} {p ap q pos : Pos} (k : Ct X nm G C) (hn : nameB X.env.scope (Str.ofString "list") x = true) (hv : n = Str.ofString "values") (ha : DE X nm o (wE C a))
    (hbase : attributeBase o (Str.ofString "values") X.env (eval o X.env) = eval o X.env) (hline : (ap.endLine == q.line) = true) :
    DE X nm (.Call (.Name x p) [.Call (.Attribute o n ap) [] [] q] [] pos) (wE C (.lvals a)) := by
  subst hv
  obtain ⟨rfl, hg, ho⟩ := nameB_ok hn
  obtain ⟨hdb, _, hnn⟩ := okN_d ho
  have hm : X.mg (Str.ofString "list") = none := mem_blt k (by simp [bltS])
  refine ⟨fun pins s σ H Q I w0 => ?_⟩
  obtain ⟨sa, m, h, Qa, Ea, rs, rh, w, tk, fin⟩ := w0
  simp only [wE] at w
  refine Call_ (ld_blt (u := .type "list") I hg hm (by decide +kernel) ?_)
  refine PyProof.Rows.callWith_type1 (PyProof.Rows.args_cons ?_ rfl) rfl rfl
  refine wpAny_Call_method (T := "dict") (id := "dict.values") hbase rfl hline F.plainAttrs_dict F.slot_dict_values F.type_dict_values (thn (ha.run pins s σ H (fun v H1 => ∃ m1 d h1, RV X.K H1 m1 v d ∧ RH X.K nm H1 m1 h1 ∧ Ext H m H1 m1 ∧ ∃ n kvs, d = .ref n ∧ h1[n]? = some (.dk kvs) ∧ Qa (.ref h1.length) (h1 ++ [.lst (kvs.map (·.2))])) I
    ⟨sa, m, h, _, Ea, rs, rh, w, tk, fun v H1 m1 d h1 rv rh1 ex1 q1 => ⟨m1, d, h1, rv, rh1, ex1, q1⟩⟩) fun u s1 ⟨x, H1, I1, rx, m1, d, h1, rv, rh1, ex1, n, kvs, ed, e, q1⟩ => ?_)
  subst ed
  obtain ⟨d, vs, rfl, hm1, hH, rk⟩ := the_dk rh1 rv e
  obtain rfl : u = Value.ref d := rx
  obtain ⟨z, lo, ws, kv, hd⟩ := (show ObjOk X.prog X.w H1 s1.heap d (.dK vs) from I1.hok d _ hH)
  obtain ⟨ep, hat⟩ := hd.dictAt
  have hl : vs.length = ws.length := Paired.length kv
  refine ⟨hat.dictOf.typeIs, hat.dictOf.mapOf.noDict, ?_⟩
  have I2 : Inv X pins σ H1 { s1 with heap := s1.heap.push { cls := .type "dict_values", data := .fields #[.ref d] } } := I1.kept (t' := s1.toks) fun b ob q => Heap.get?_push_of_some _ q
  show wpAny _ _ (callWith q (.builtin "dict.values") [.ref d] [] []) _ X.xe s1
  refine method_meetsIn F.slot_dict_values F.entry_dict_values rfl (PySem.evalArgs_none ⟨rfl, hat.dictOf.typeIs, F.args_dict_values_1 _, _, meets_dict_values (mixKind X.prog X.w) d lo, ⟨ws, hat.dictOf⟩, PyProof.Rows.args_nil ?_⟩)
  refine PySem.W.kdl_call (PySem.W.kdl_values (knd := mixKind X.prog X.w) (kvs := ws) (ep := ep)) (I1.ok.hd k.calm) ⟨⟨_, Heap.get?_push_size _ rfl, rfl, rfl⟩, hat.push _⟩ (by rw [← hl]; exact z) fun h' tk acc' c' hkeep hS hacc => ?_
  have hf : H1 (s1.heap.push { cls := .type "dict_values", data := .fields #[.ref d] }).objs.size = none := I1.hok.fresh (by rw [PyProof.Rows.size_push']; exact Nat.le_succ _)
  obtain ⟨a1, a2, a3⟩ := new_lst rh1 hf rk.vals
  refine ⟨.ref _, upd H1 _ (.lst (vs.map (·.2))), I2.laid hkeep (Nat.le_refl _) (show ObjOk X.prog X.w _ _ _ (.lst (vs.map (·.2))) from ⟨?_, acc'.toList, c', ?_, ?_⟩), rfl, fin _ _ _ _ _ a1 a2 (ex1.trans a3) q1⟩
  · rw [List.length_map]; exact z
  · have el : acc'.toList.length = acc'.size := by simp
    refine vals_of_at (by rw [List.length_map, el, hacc.1, hl]) fun j x w h1 h2 => ?_
    obtain ⟨k', hky⟩ := hacc.2 j w (by rw [← Array.getElem?_toList]; exact h2)
    rw [List.getElem?_map] at h1
    cases e3 : vs[j]? with
    | none => rw [e3] at h1; cases h1
    | some p =>
      rw [e3] at h1
      cases h1
      obtain ⟨u', e4, r4⟩ := kv_get kv (show vs[j]? = some (p.1, p.2) from e3)
      rw [hky] at e4
      cases e4
      exact r4
  · rw [Array.toArray_toList]; exact hS
end
end Rf
namespace Rf
open PySem PySem.Spec PyProof.Rows L2
section
variable {X : Cx} {nm : Nm} {G : Gi} {C : CT}
theorem tru_V {H : Hp} {m : List Addr} {h : AH} {v : V} {d : D} {Q : Bool → Prop} (rh : RH X.K nm H m h) (r : RV X.K H m v d) (w : truW h d Q) : ∃ k, TruV X.K v H k ∧ Q k := by
  cases r with
  | non => exact ⟨false, rfl, w⟩
  | bl b => exact ⟨b, rfl, w⟩
  | int i => exact ⟨_, rfl, w⟩
  | str x =>
    refine ⟨_, ⟨by rw [mkS_len, ← SZ_line]; exact w.1, rfl⟩, ?_⟩
    have e : (((mkS x).length : Int) != 0) = !x.isEmpty := by rw [mkS_len]; cases x <;> simp [bne]; omega
    rw [e]; exact w.2
  | @tup a xs ds h1 h2 =>
    have e : (!xs.isEmpty) = !ds.isEmpty := by cases h2 <;> rfl
    exact ⟨_, .inr (.inl ⟨xs, h1.sqT, rfl⟩), by rw [e]; exact w⟩
  | @rol a xs ds h1 h2 =>
    have e : (!xs.isEmpty) = !ds.isEmpty := by cases h2 <;> rfl
    exact ⟨_, .inl ⟨xs, h1.sq, rfl⟩, by rw [e]; exact w⟩
  | wtup _ _ => exact w.elim
  | @ref a n hm =>
    simp only [truW] at w
    split at w
    · rename_i xs e
      obtain ⟨a', vs, e1, _, e2, rz⟩ := the_lst rh (.ref hm) e
      cases e1
      have e3 : (!vs.isEmpty) = !xs.isEmpty := by cases rz <;> rfl
      exact ⟨_, .inl ⟨vs, SqL.of e2, rfl⟩, by rw [e3]; exact w⟩
    · rename_i kvs e
      obtain ⟨a', vs, e1, _, e2, rk⟩ := the_dk rh (.ref hm) e
      cases e1
      have e3 : (!vs.isEmpty) = !kvs.isEmpty := by cases rk <;> rfl
      exact ⟨_, .inr (.inr ⟨vs, e2, rfl⟩), by rw [e3]; exact w⟩
    · exact w.elim
theorem LT.tv {a : M} {e : Expr} (ha : DE X nm e (wE C a)) (he : ∀ whole, isTrue e X.env whole = (do let v ← whole; standAt e.pos; holding [v] (truthy v))) : PT X e (LT X nm (wT C (.tv a))) := by
  refine PT.imp (pt_truth ha he) fun σ H Q q => ?_
  obtain ⟨sa, m, h, Qa, Ea, rs, rh, w, tk, fin⟩ := q
  simp only [wT] at w
  refine ⟨sa, m, h, _, Ea, rs, rh, w, tk, fun v H1 m1 d1 h1 rv rh1 ex1 q1 => ?_⟩
  obtain ⟨k, t, q⟩ := tru_V rh1 rv q1
  exact ⟨k, t, fin _ _ _ _ rh1 ex1 q⟩
theorem dt_cmp {op : Cop} {a b : M} {l r : Expr} {pos : Pos} (c : Ct X nm G C) (hn : notSet r = true) (ha : DE X nm l (wE C a)) (hb : DE X nm r (wE C b)) : PT X (.Compare l [op.op] [r] pos) (LT X nm (wT C (.cmp op a b))) := by
  refine PT.imp (pt_cmpR (op_cmp (nm := nm) op c.nw c.hu) ha hb (nm_ok hn)) fun σ H Q q => ?_
  obtain ⟨sa, m, h, Qa, Ea, rs, rh, w, tk, fin⟩ := q
  simp only [wT] at w
  refine LE.op (X := X) (nm := nm) (r := cmpB op) ⟨sa, m, h, fun d h' => boolOf d fun b => Qa b h', Ea, rs, rh, w, tk, fun v H1 m1 d1 h1 rv rh1 ex1 q1 => ?_⟩
  cases rv with
  | bl b => exact ⟨b, rfl, fin _ _ _ _ rh1 ex1 q1⟩
  | _ => exact q1.elim
theorem dt_ch {o1 o2 : Cop} {a b c : M} {l r t : Expr} {pos : Pos} (k : Ct X nm G C) (hn : notSet t = true) (ha : DE X nm l (wE C a)) (hb : DE X nm r (wE C b)) (hc : DE X nm t (wE C c)) : PT X (.Compare l [o1.op, o2.op] [r, t] pos) (LT X nm (wT C (.ch o1 o2 a b c))) := by
  refine PT.imp (pt_chain (op_cmp (nm := nm) o1 k.nw k.hu) (op_cmp (nm := nm) o2 k.nw k.hu) ha hb hc (by show behindInMarks o2.op t = false; exact nm_ok hn)) fun σ H Q q => ?_
  obtain ⟨sa, m, h, Qa, Ea, rs, rh, w, tk, fin⟩ := q
  simp only [wT] at w
  refine ch_read (Qa := fun d h' => boolOf d fun b => Qa b h') rs rh w tk fun v H1 m1 d1 h1 rv rh1 ex1 q1 => ?_
  cases rv with
  | bl b => exact ⟨b, rfl, fin _ _ _ _ rh1 ex1 q1⟩
  | _ => exact q1.elim
theorem dt_not {a : M} {x : Expr} {pos : Pos} (ha : PT X x (LT X nm (wT C a))) : PT X (.UnaryOp .Not x pos) (LT X nm (wT C (.not a))) := by
  refine PT.imp (pt_not ha) fun σ H Q q => ?_
  obtain ⟨sa, m, h, Qa, Ea, rs, rh, w, tk, fin⟩ := q
  simp only [wT] at w
  exact ⟨sa, m, h, _, Ea, rs, rh, w, tk, fun t H1 m1 h1 rh1 ex1 q1 => fin _ _ _ _ rh1 ex1 q1⟩
theorem tand {a b : M} {σ : L2.St} {H : Hp} {Q : Bool → Hp → Prop} (q : LT X nm (wT C (.and a b)) σ H Q) : tAnd (LT X nm (wT C a)) (LT X nm (wT C b)) σ H Q := by
  obtain ⟨sa, m, h, Qa, Ea, rs, rh, w, tk, fin⟩ := q
  simp only [wT] at w
  refine ⟨sa, m, h, _, Ea, rs, rh, w, tk, fun t H1 m1 h1 rh1 ex1 q1 => ?_⟩
  cases t with
  | true =>
    simp only [if_true] at q1 ⊢
    exact ⟨sa, m1, h1, _, Ea, rs.ext ex1, rh1, q1, tk_ext tk ex1, fun t2 H2 m2 h2 rh2 ex2 q2 => fin _ _ _ _ rh2 (ex1.trans ex2) q2⟩
  | false => simp only [Bool.false_eq_true, if_false] at q1 ⊢; exact fin _ _ _ _ rh1 ex1 q1
theorem tor {a b : M} {σ : L2.St} {H : Hp} {Q : Bool → Hp → Prop} (q : LT X nm (wT C (.or a b)) σ H Q) : tOr (LT X nm (wT C a)) (LT X nm (wT C b)) σ H Q := by
  obtain ⟨sa, m, h, Qa, Ea, rs, rh, w, tk, fin⟩ := q
  simp only [wT] at w
  refine ⟨sa, m, h, _, Ea, rs, rh, w, tk, fun t H1 m1 h1 rh1 ex1 q1 => ?_⟩
  cases t with
  | false =>
    simp only [Bool.false_eq_true, if_false] at q1 ⊢
    exact ⟨sa, m1, h1, _, Ea, rs.ext ex1, rh1, q1, tk_ext tk ex1, fun t2 H2 m2 h2 rh2 ex2 q2 => fin _ _ _ _ rh2 (ex1.trans ex2) q2⟩
  | true => simp only [if_true] at q1 ⊢; exact fin _ _ _ _ rh1 ex1 q1
theorem dt_and {a b : M} {x y : Expr} {rest : List Expr} {pos : Pos} (ha : PT X x (LT X nm (wT C a))) (hb : PW X (.BoolOp .And (y :: rest) pos) (LT X nm (wT C b))) : PW X (.BoolOp .And (x :: y :: rest) pos) (LT X nm (wT C (.and a b))) := PW.imp (pw_and ha hb) fun _ _ _ q => tand q
theorem dt_or {a b : M} {x y : Expr} {rest : List Expr} {pos : Pos} (ha : PT X x (LT X nm (wT C a))) (hb : PW X (.BoolOp .Or (y :: rest) pos) (LT X nm (wT C b))) : PW X (.BoolOp .Or (x :: y :: rest) pos) (LT X nm (wT C (.or a b))) := PW.imp (pw_or ha hb) fun _ _ _ q => tor q
theorem pi_any {tg l : Expr} {tl : TE} (hl : PE X l tl) : PI X tg l (fun σ H R => tl σ H fun x H1 => (∃ a, x = .ref a ∧ (∃ xs, SqL X.K H1 a xs) ∧ R (Itl X.K a) H1) ∨ (∃ a, x = .ref a ∧ (∃ xs, SqT X.K H1 a xs) ∧ R (Itt X.K a) H1) ∨ (∃ a o kvs, x = .ref a ∧ H1 a = some (.frz o (.dK kvs)) ∧ R (Itk a o kvs) H1) ∨ ∃ z, x = .str z ∧ R (Its z) H1) := by
  refine ⟨fun pins s σ H R I h => ?_⟩
  refine thn (hl.run pins s σ H _ I h) fun v s1 ⟨x, H1, I1, r1, q1⟩ => ?_
  rcases q1 with ⟨a, rfl, ⟨xs, hq⟩, q⟩ | ⟨a, rfl, ⟨xs, hq⟩, q⟩ | ⟨a, o, kvs, rfl, hd, q⟩ | ⟨z, rfl, q⟩
  · cases r1
    obtain ⟨its, rv, p, hz⟩ := I1.list hq
    refine wpAny_pyIter_list p.isList ?_
    refine ⟨s1.heap.objs.size, [s1.heap.objs.size], _, _, H1, rfl, I1.kept (t' := s1.toks) fun b o e => Heap.get?_push_of_some _ e, turn_list a _, ⟨_, Heap.get?_push_size _ rfl, rfl, rfl⟩, fun b hb => ?_, q⟩
    have e : b = s1.heap.objs.size := by simpa using hb
    subst e
    exact I1.fpOk (Nat.le_refl _) (I1.hok.fresh (Nat.le_refl _))
  · cases r1
    obtain ⟨its, rv, p, hz⟩ := I1.tuple hq
    refine wpAny_pyIter_tuple (show s1.heap.IsTuple a its.toArray from p) ?_
    refine ⟨s1.heap.objs.size, [s1.heap.objs.size], _, _, H1, rfl, I1.kept (t' := s1.toks) fun b o e => Heap.get?_push_of_some _ e, turn_tuple a _, ⟨_, Heap.get?_push_size _ rfl, rfl, rfl⟩, fun b hb => ?_, q⟩
    have e : b = s1.heap.objs.size := by simpa using hb
    subst e
    exact I1.fpOk (Nat.le_refl _) (I1.hok.fresh (Nat.le_refl _))
  · cases r1
    obtain ⟨hs, hgd, hx, es, ep, vs, hdt, hsz, kv, hm⟩ := I1.frzK hd
    refine iter_keys hs hgd hx hdt (pi_one (tk := s1.toks) I1 _ (turn_keys _ hdt) ⟨_, Heap.get?_push_size _ rfl, rfl, ?_⟩ q)
    rw [hsz] <;> rfl
  · obtain ⟨t, rfl⟩ := r1
    cases ha : z.cps.all (· < 128)
    · exact wpAny_pyIter_wide ha (pi_one (tk := s1.toks) I1 _ (turn_str _ z t "str_iterator" (.inr rfl)) ⟨_, Heap.get?_push_size _ rfl, rfl, rfl⟩ q)
    · exact wpAny_pyIter_ascii ha (pi_one (tk := s1.toks) I1 _ (turn_str _ z t "str_ascii_iterator" (.inl rfl)) ⟨_, Heap.get?_push_size _ rfl, rfl, rfl⟩ q)
theorem di_itv {tg e : Expr} {a : M} (ha : DE X nm e (wE C a)) : PI X tg e (LI X nm (wI C (.itv a))) := by
  refine PI.imp (pi_any ha) fun σ H R q => ?_
  obtain ⟨sa, m, h, Qa, Ea, rs, rh, w, tk, fin⟩ := q
  simp only [wI] at w
  refine ⟨sa, m, h, _, Ea, rs, rh, w, tk, fun v H1 m1 d1 h1 rv rh1 ex1 q1 => ?_⟩
  cases rv with
  | @tup a xs ds h1' h2 => exact .inr (.inl ⟨a, rfl, ⟨xs, h1'.sqT⟩, fin _ _ _ _ _ (rit_tup h1'.sqT h2) rh1 ex1 q1⟩)
  | @rol a xs ds h1' h2 => exact .inl ⟨a, rfl, ⟨xs, h1'.sq⟩, fin _ _ _ _ _ (rit_rol h1' h2) rh1 ex1 q1⟩
  | str x => exact .inr (.inr (.inr ⟨_, rfl, fin _ _ _ _ _ rit_str rh1 ex1 q1⟩))
  | @ref a n hm =>
    simp only [itW] at q1
    split at q1
    · rename_i xs e
      obtain ⟨a', e1, hx, ri⟩ := rit_lst rh1 (.ref hm) e
      cases e1
      exact .inl ⟨a, rfl, hx, fin _ _ _ _ _ ri rh1 ex1 q1⟩
    · rename_i kvs e
      obtain ⟨o, vs, hH, rk⟩ := rh1.ob n _ _ hm e
      exact .inr (.inr (.inl ⟨a, o, vs, rfl, hH, fin _ _ _ _ _ (rit_keys hH rk) rh1 ex1 q1⟩))
    · exact q1.elim
  | _ => exact q1.elim
theorem di_rng1 {tg y : Expr} {x : Str} {p pos : Pos} {a : M} (k : Ct X nm G C) (hn : nameB X.env.scope (Str.ofString "range") x = true) (ha : DE X nm y (wE C a)) (hs : starEach [y] X.env = [(false, eval y X.env)]) :
    PI X tg (.Call (.Name x p) [y] [] pos) (LI X nm (wI C (.rng1 a))) := by
  obtain ⟨rfl, hg, _⟩ := nameB_ok hn
  refine PI.imp (pi_range1 hg (k.blt _ (by simp [bltS])) (pa_cons ha pa_nil (by rw [hs]; rfl)) hs) fun σ H R q => ?_
  obtain ⟨sa, m, h, Qa, Ea, rs, rh, w, tk, fin⟩ := q
  simp only [wI] at w
  refine ⟨sa, m, h, _, Ea, rs, rh, w, tk, fun v H1 m1 d1 h1 rv rh1 ex1 q1 => ?_⟩
  cases rv with
  | int i => exact ⟨i, rfl, q1.1.1, q1.1.2, fin _ _ _ _ _ (rit_range 0 _) rh1 ex1 q1.2⟩
  | _ => exact q1.elim
theorem di_rng2 {tg y z : Expr} {x : Str} {p pos : Pos} {a b : M} (k : Ct X nm G C) (hn : nameB X.env.scope (Str.ofString "range") x = true) (ha : DE X nm y (wE C a)) (hb : DE X nm z (wE C b)) (hs : starEach [y, z] X.env = [(false, eval y X.env), (false, eval z X.env)]) (hs2 : starEach [z] X.env = [(false, eval z X.env)]) :
    PI X tg (.Call (.Name x p) [y, z] [] pos) (LI X nm (wI C (.rng2 a b))) := by
  obtain ⟨rfl, hg, _⟩ := nameB_ok hn
  refine PI.imp (pi_range2 hg (k.blt _ (by simp [bltS])) (pa_cons ha (pa_cons hb pa_nil (by rw [hs2]; rfl)) (by rw [hs, hs2])) hs hs2) fun σ H R q => ?_
  obtain ⟨sa, m, h, Qa, Ea, rs, rh, w, tk, fin⟩ := q
  simp only [wI] at w
  refine ⟨sa, m, h, _, Ea, rs, rh, w, tk, fun v H1 m1 d1 h1 rv rh1 ex1 q1 => ⟨sa, m1, h1, _, Ea, rs.ext ex1, rh1, q1, tk_ext tk ex1, fun v2 H2 m2 d2 h2 rv2 rh2 ex2 q2 => ?_⟩⟩
  cases rv with
  | int i => cases rv2 with
    | int j => exact ⟨i, j, rfl, q2.1, fin _ _ _ _ _ (rit_range i _) rh2 (ex1.trans ex2) q2.2⟩
    | _ => exact q2.elim
  | _ => exact q2.elim
theorem di_rng3 {tg y z u : Expr} {x : Str} {p pos : Pos} {a b c : M} (k : Ct X nm G C) (hn : nameB X.env.scope (Str.ofString "range") x = true) (ha : DE X nm y (wE C a)) (hb : DE X nm z (wE C b)) (hc : DE X nm u (wE C c)) (hs : starEach [y, z, u] X.env = (false, eval y X.env) :: starEach [z, u] X.env) (hs2 : starEach [z, u] X.env = (false, eval z X.env) :: starEach [u] X.env) (hs3 : starEach [u] X.env = (false, eval u X.env) :: starEach [] X.env) :
    PI X tg (.Call (.Name x p) [y, z, u] [] pos) (LI X nm (wI C (.rng3 a b c))) := by
  obtain ⟨rfl, hg, _⟩ := nameB_ok hn
  refine PI.imp (pi_range3 hg (k.blt _ (by simp [bltS])) (pa_cons ha (pa_cons hb (pa_cons hc pa_nil hs3) hs2) hs) hs (by rw [hs2, hs3]; rfl)) fun σ H R q => ?_
  obtain ⟨sa, m, h, Qa, Ea, rs, rh, w, tk, fin⟩ := q
  simp only [wI] at w
  refine ⟨sa, m, h, _, Ea, rs, rh, w, tk, fun v H1 m1 d1 h1 rv rh1 ex1 q1 => ⟨sa, m1, h1, _, Ea, rs.ext ex1, rh1, q1, tk_ext tk ex1, fun v2 H2 m2 d2 h2 rv2 rh2 ex2 q2 => ⟨sa, m2, h2, _, Ea, rs.ext (ex1.trans ex2), rh2, q2, tk_ext tk (ex1.trans ex2), fun v3 H3 m3 d3 h3 rv3 rh3 ex3 q3 => ?_⟩⟩⟩
  cases rv with
  | int i => cases rv2 with
    | int j => cases rv3 with
      | int kk =>
        obtain ⟨n, hr, q3⟩ := q3
        exact ⟨i, j, kk, n, rfl, hr, fin _ _ _ _ _ (rit_rangeC i kk n) rh3 ((ex1.trans ex2).trans ex3) q3⟩
      | _ => exact q3.elim
    | _ => exact q3.elim
  | _ => exact q3.elim
end
end Rf
namespace Rf
open PySem PySem.Spec PyProof.Rows L2
def hotM : M → Bool
  | .var _ => true
  | .k _ => true
  | .and a b => hotM a && hotM b
  | .not a => hotM a
  | .isi _ a => hotM a
  | .cmp _ a b => hotM a && hotM b
  | _ => false
section
variable {X : Cx} {nm : Nm} {G : Gi} {C : CT}
theorem chk_starH {N : List Str} {a : M} {sc : Scope} {e : Expr} (h : chkE G N a sc e = true) : notStar e = true := by
  cases e with
  | Starred => cases a <;> simp [chkE] at h
  | _ => rfl
theorem starH {e : Expr} {es : List Expr} {env : Env} (h : notStar e = true) : starEach (e :: es) env = (false, eval e env) :: starEach es env := by
  cases e <;> first | rfl | (cases h; done)
theorem sndN (hblt : ∀ y ∈ bltS, X.mg y = none) (nw : nm.w = X.w) (hu : X.A.units + 65 < cLine) : ∀ (a : M), hotM a = true → ∀ e, chkE G X.N a X.env.scope e = true → DE X nm e (wE C a)
  | .var i, _, e, h => by
    simp only [chkE] at h
    split at h
    · exact de_var h
    · cases h
  | .k d, _, e, h => by
    simp only [chkE] at h
    split at h
    · exact de_k h
    · cases h
  | .and a b, ho, e, h => by
    simp only [hotM, Bool.and_eq_true] at ho
    simp only [chkE] at h
    split at h
    · simp only [Bool.and_eq_true] at h
      obtain ⟨h1, h2⟩ := h
      split at h2
      · exact de_and (sndN hblt nw hu a ho.1 _ h1) (pe_one (sndN hblt nw hu b ho.2 _ h2))
      · exact de_and (sndN hblt nw hu a ho.1 _ h1) (sndN hblt nw hu b ho.2 _ h2)
    · cases h
  | .not a, ho, e, h => by
    simp only [chkE] at h
    split at h
    · exact de_not (sndN hblt nw hu a ho _ h)
    · cases h
  | .isi t a, ho, e, h => by
    simp only [chkE] at h
    split at h
    · rename_i x p y z pz pos
      simp only [Bool.and_eq_true] at h
      exact de_isi0 hblt h.1 h.2.1 (sndN hblt nw hu a ho _ h.2.2) (starH (chk_starH h.2.2)) rfl rfl
    · cases h
  | .cmp op a b, ho, e, h => by
    simp only [hotM, Bool.and_eq_true] at ho
    simp only [chkE] at h
    split at h
    · simp only [Bool.and_eq_true, decide_eq_true_eq] at h
      obtain ⟨rfl, h0, h1, h2⟩ := h
      exact de_cmp0 nw hu h0 (sndN hblt nw hu a ho.1 _ h1) (sndN hblt nw hu b ho.2 _ h2)
    · cases h
end
end Rf
namespace Rf
open PySem PySem.Spec PyProof.Rows L2
section
variable {X : Cx} {nm : Nm} {G : Gi} {C : CT}
structure SrcIs (K : PySem.W.Frag) (nm : Nm) (H : Hp) (m : List Addr) (c : Src) (it : It) : Prop where
  at_ : ∀ (H2 : Hp) (m2 : List Addr) (h2 : AH), Ext H m H2 m2 → RH K nm H2 m2 h2 → it.ck h2 → ∃ xs, c.sq K H2 xs ∧ RVs K H2 m2 xs it.xs
theorem src_of {H : Hp} {m : List Addr} {h : AH} {v : V} {d : D} {Q : It → Prop} (rh : RH X.K nm H m h) (r : RV X.K H m v d) (w : seqW h d Q) : ∃ c it, v = .ref (Src.a c) ∧ SrcIs X.K nm H m c it ∧ it.ck h ∧ Q it := by
  cases r with
  | @tup a xs ds h1 h2 => exact ⟨.tup a, _, rfl, ⟨fun H2 m2 h2' ex rh2 _ => ⟨xs, ex.sqT h1.sqT, h2.ext ex⟩⟩, trivial, w⟩
  | @rol a xs ds h1 h2 => exact ⟨.lst a, _, rfl, ⟨fun H2 m2 h2' ex rh2 _ => ⟨xs, (ex.sqF h1).sq, h2.ext ex⟩⟩, trivial, w⟩
  | @ref a n hm =>
    simp only [seqW] at w
    split at w
    · rename_i xs e
      refine ⟨.lst a, _, rfl, ⟨fun H2 m2 h2' ex rh2 ck => ?_⟩, e, w⟩
      obtain ⟨a', ws, e1, _, e2, rw'⟩ := the_lst rh2 (.ref (ex.get hm)) ck
      cases e1
      exact ⟨ws, SqL.of e2, rw'⟩
    · exact w.elim
  | _ => exact w.elim
theorem rit_enum {H : Hp} {m : List Addr} {c : Src} {it : It} (s : SrcIs X.K nm H m c it) : RIt X.K nm H m (IteG X.K c) ⟨enumL it.xs, it.ck⟩ := by
  refine ⟨fun H2 m2 h2 ex rh2 ck => ?_⟩
  obtain ⟨xs, hq, rx⟩ := s.at_ H2 m2 h2 ex rh2 ck
  have hl := rx.length
  refine ⟨fun i d hd => ?_, ⟨xs, hq, by simp [enumL, hl]⟩⟩
  have hi : i < it.xs.length := by
    have := (List.getElem?_eq_some_iff.mp hd).1
    simpa [enumL] using this
  have hd2 : it.xs[i]? = some it.xs[i] := List.getElem?_eq_getElem hi
  obtain ⟨w, e3, rw2⟩ := rx.get hd2
  have ed : d = .wtup [.int (i : Int), it.xs[i]] := by
    simp only [enumL, List.getElem?_map, List.getElem?_zipIdx, hd2] at hd
    simpa using hd.symm
  subst ed
  refine ⟨⟨xs, w, hq, e3⟩, fun x H3 y => ?_⟩
  obtain ⟨T, x', rfl, hT, rfl, y⟩ := y
  have := y xs hq
  rw [e3] at this
  cases this
  exact new_wtup rh2 hT (.cons (.int _) (.cons rw2 .nil))
theorem rit_zip {H : Hp} {m : List Addr} {a b : Src} {i1 i2 : It} (s : SrcIs X.K nm H m a i1) (t : SrcIs X.K nm H m b i2) : RIt X.K nm H m (ItzG X.K a b) ⟨zipL i1.xs i2.xs, fun h => i1.ck h ∧ i2.ck h⟩ := by
  refine ⟨fun H2 m2 h2 ex rh2 ck => ?_⟩
  obtain ⟨xs, hq, rx⟩ := s.at_ H2 m2 h2 ex rh2 ck.1
  obtain ⟨ys, hq2, ry⟩ := t.at_ H2 m2 h2 ex rh2 ck.2
  have hl := rx.length
  have hl2 := ry.length
  refine ⟨fun i d hd => ?_, ⟨xs, ys, hq, hq2, by simp [zipL, hl, hl2]⟩⟩
  have hi : i < min i1.xs.length i2.xs.length := by
    have := (List.getElem?_eq_some_iff.mp hd).1
    simpa [zipL] using this
  have hd1 : i1.xs[i]? = some i1.xs[i] := List.getElem?_eq_getElem (by omega)
  have hd2 : i2.xs[i]? = some i2.xs[i] := List.getElem?_eq_getElem (by omega)
  obtain ⟨w, e3, rw2⟩ := rx.get hd1
  obtain ⟨w', e4, rw3⟩ := ry.get hd2
  have ed : d = .wtup [i1.xs[i], i2.xs[i]] := by
    simp only [zipL, List.getElem?_map, List.getElem?_zip_eq_some, List.zip, List.getElem?_zipWith, hd1, hd2] at hd
    simpa using hd.symm
  subst ed
  refine ⟨⟨xs, ys, w, w', hq, hq2, e3, e4⟩, fun x H3 y => ?_⟩
  obtain ⟨T, x', y', rfl, hT, rfl, y1, y2⟩ := y
  have e5 := y1 xs hq
  have e6 := y2 ys hq2
  rw [e3] at e5
  rw [e4] at e6
  cases e5
  cases e6
  exact new_wtup rh2 hT (.cons rw2 (.cons rw3 .nil))
theorem di_enum {elts : List Expr} {kk : Nat} {tpos : Pos} {y : Expr} {x : Str} {p pos : Pos} {a : M} (k : Ct X nm G C) (hn : nameB X.env.scope (Str.ofString "enumerate") x = true) (ha : DE X nm y (wE C a)) (hs : starEach [y] X.env = [(false, eval y X.env)]) :
    PI X (.Tuple elts kk tpos) (.Call (.Name x p) [y] [] pos) (LI X nm (wI C (.enum a))) := by
  obtain ⟨rfl, hg, _⟩ := nameB_ok hn
  refine PI.imp (pi_enumG hg (k.blt _ (by simp [bltS])) (pa_cons ha pa_nil (by rw [hs]; rfl)) hs) fun σ H R q => ?_
  obtain ⟨sa, m, h, Qa, Ea, rs, rh, w, tk, fin⟩ := q
  simp only [wI] at w
  refine ⟨sa, m, h, _, Ea, rs, rh, w, tk, fun v H1 m1 d1 h1 rv rh1 ex1 q1 => ?_⟩
  obtain ⟨c, it, rfl, si, ck, q⟩ := src_of rh1 rv q1
  obtain ⟨xs, hq, _⟩ := si.at_ H1 m1 h1 .refl rh1 ck
  exact ⟨c, xs, rfl, hq, fin _ _ _ _ _ (rit_enum si) rh1 ex1 q⟩
theorem di_zip {elts : List Expr} {kk : Nat} {tpos : Pos} {y z : Expr} {x : Str} {p pos : Pos} {a b : M} (k : Ct X nm G C) (hn : nameB X.env.scope (Str.ofString "zip") x = true) (ha : DE X nm y (wE C a)) (hb : DE X nm z (wE C b)) (hs : starEach [y, z] X.env = (false, eval y X.env) :: starEach [z] X.env) (hs2 : starEach [z] X.env = (false, eval z X.env) :: starEach [] X.env)
    (hpl : (backTo pos (starEach [z] X.env)).any (·.1) = false) : PI X (.Tuple elts kk tpos) (.Call (.Name x p) [y, z] [] pos) (LI X nm (wI C (.zip a b))) := by
  obtain ⟨rfl, hg, _⟩ := nameB_ok hn
  refine PI.imp (pi_zipG hg (k.blt _ (by simp [bltS])) (pa_cons ha (pa_cons hb pa_nil hs2) hs) hs hpl) fun σ H R q => ?_
  obtain ⟨sa, m, h, Qa, Ea, rs, rh, w, tk, fin⟩ := q
  simp only [wI] at w
  refine ⟨sa, m, h, _, Ea, rs, rh, w, tk, fun v H1 m1 d1 h1 rv rh1 ex1 q1 => ⟨sa, m1, h1, _, Ea, rs.ext ex1, rh1, q1, tk_ext tk ex1, fun v2 H2 m2 d2 h2 rv2 rh2 ex2 q2 => ?_⟩⟩
  obtain ⟨c, it, rfl, si, ck, q3⟩ := src_of rh2 (rv.ext ex2) q2
  obtain ⟨c2, it2, rfl, si2, ck2, q4⟩ := src_of rh2 rv2 q3
  obtain ⟨xs, hq, _⟩ := si.at_ H2 m2 h2 .refl rh2 ck
  obtain ⟨ys, hq2, _⟩ := si2.at_ H2 m2 h2 .refl rh2 ck2
  exact ⟨c, c2, xs, ys, rfl, hq, hq2, fin _ _ _ _ _ (rit_zip si si2) rh2 (ex1.trans ex2) q4⟩
structure StOk (X : Cx) (i : Nat) (x : Str) : Prop where
  ix : X.N[i]? = some x
  loc : L2.Loc X.env.scope x
  fn : X.fn x = true ∨ X.env.scope.names.lookup x = some .local
def Only' (is : List Nat) (σ σ' : L2.St) : Prop := ∀ vs, (∀ i ∈ is, i ∈ vs) → wipe σ' vs = wipe σ vs
def LG (X : Cx) (nm : Nm) (tg : Tg) : TG := fun v σ H Q =>
  ∃ sa m h d Qa, RS X.K H m σ sa ∧ RH X.K nm H m h ∧ RV X.K H m v d ∧ tgW tg d sa Qa ∧ ∀ σ' sa', RS X.K H m σ' sa' → Only' (tgSlots tg) σ σ' → Qa sa' → Q σ' H
theorem PG.imp {X : Cx} {e : Expr} {t t' : TG} (h : PG X e t) (i : ∀ v σ H Q, t' v σ H Q → t v σ H Q) : PG X e t' := ⟨fun pins s σ H v u Q I r q => h.run pins s σ H v u Q I r (i v σ H Q q)⟩
theorem wipe_set {σ : L2.St} {i : Nat} {x : Option V} : ∀ {vs : List Nat}, i ∈ vs → wipe (σ.set i x) vs = wipe σ vs
  | v :: vs, h => by
    unfold wipe
    by_cases e : i = v
    · subst e
      by_cases hm : i ∈ vs
      · rw [wipe_set hm]
      · have gen : ∀ (ws : List Nat) (τ : L2.St), i ∉ ws → wipe (τ.set i x) ws = (wipe τ ws).set i x := by
          intro ws
          induction ws with
          | nil => intro τ _; rfl
          | cons w ws ih =>
            intro τ hn
            unfold wipe
            rw [ih τ (fun z => hn (List.mem_cons_of_mem _ z)), List.set_comm _ _ (fun z => hn (by rw [z]; exact List.mem_cons_self))]
        rw [gen vs σ hm, List.set_set]
    · rw [wipe_set (List.mem_of_ne_of_mem e h)]
theorem dg_one {i : Nat} {x : Str} {p : Pos} (nd : X.N.Nodup) (o : StOk X i x) : PG X (.Name x p) (LG X nm (.one i)) := by
  refine PG.imp (pg_name nd o.ix o.loc o.fn) fun v σ H Q q => ?_
  obtain ⟨sa, m, h, d, Qa, rs, rh, rv, w, fin⟩ := q
  exact fin _ _ (rs.set rv) (fun vs hv => wipe_set (hv i (by simp [tgSlots]))) w
inductive NamesOk (X : Cx) : List Nat → List Expr → Prop
  | nil : NamesOk X [] []
  | cons {i : Nat} {x : Str} {p : Pos} {is : List Nat} {es : List Expr} : StOk X i x → NamesOk X is es → NamesOk X (i :: is) (.Name x p :: es)
theorem names_len : ∀ {is : List Nat} {es : List Expr}, NamesOk X is es → (assignEach es X.env).length = is.length ∧ (assignEach es X.env).findIdx? (·.1) = none
  | _, _, .nil => ⟨rfl, rfl⟩
  | _, _, .cons (i := i) (x := x) (p := p) (is := is) (es := es) _ r => by
    obtain ⟨h1, h2⟩ := names_len r
    have e : assignEach (.Name x p :: es) X.env = (false, assign (.Name x p) X.env) :: assignEach es X.env := rfl
    rw [e, List.length_cons, h1, List.findIdx?_cons, h2]
    exact ⟨rfl, rfl⟩
theorem dg_names (nd : X.N.Nodup) : ∀ {is : List Nat} {es : List Expr}, NamesOk X is es →
    PGs X es (fun xs σ H Q => ∃ (sa : Sa) (m : List Addr) (ds : List D) (Qa : Sa → Prop), RS X.K H m σ sa ∧ RVs X.K H m xs ds ∧ ds.length = is.length ∧ Qa (setAll sa is ds) ∧ ∀ σ' sa', RS X.K H m σ' sa' → Only' is σ σ' → Qa sa' → Q σ' H)
  | _, _, .nil => ⟨fun pins s σ H vs us Q I r h => by
      obtain ⟨sa, m, ds, Qa, rs, rv, hl, q, fin⟩ := h
      cases ds with
      | nil =>
        cases rv
        exact pgs_nil.run pins s σ H _ us Q I r ⟨rfl, fin _ _ rs (fun _ _ => rfl) q⟩
      | cons _ _ => simp at hl⟩
  | _, _, .cons (i := i) (x := x) (p := p) (is := is) (es := es) o rr => ⟨fun pins s σ H vs us Q I r h => by
      obtain ⟨sa, m, ds, Qa, rs, rv, hl, q, fin⟩ := h
      cases rv with
      | nil => simp at hl
      | @cons v vs d ds r1 r2 =>
        refine (pgs_cons (pg_name nd o.ix o.loc o.fn) (dg_names nd rr) rfl).run pins s σ H _ us Q I r ⟨v, vs, rfl, ?_⟩
        refine ⟨sa.set i (some d), m, ds, Qa, rs.set r1, r2, by simpa using hl, q, fun σ' sa' rs' on qa => fin σ' sa' rs' (fun ws hw => ?_) qa⟩
        rw [on ws (fun j hj => hw j (List.mem_cons_of_mem _ hj))]
        exact wipe_set (hw i List.mem_cons_self)⟩
theorem dg_many {is : List Nat} {es : List Expr} {kk : Nat} {p : Pos} (k : Ct X nm G C) (o : NamesOk X is es) : PG X (.Tuple es kk p) (LG X nm (.many is)) := by
  obtain ⟨h1, h2⟩ := names_len o
  refine PG.imp (pg_tup k.calm (dg_names k.nd o) h1 h2) fun v σ H Q q => ?_
  obtain ⟨sa, m, h, d, Qa, rs, rh, rv, w, fin⟩ := q
  cases rv with
  | @tup a xs ds hs r => exact ⟨a, xs, rfl, hs.sqT, by rw [r.length]; exact w.1, sa, m, ds, Qa, rs, r, w.1, w.2, fin⟩
  | @wtup a xs ds hs r => exact ⟨a, xs, rfl, hs, by rw [r.length]; exact w.1, sa, m, ds, Qa, rs, r, w.1, w.2, fin⟩
  | _ => exact w.elim
end
end Rf
namespace Rf
open PySem PySem.Spec PyProof.Rows L2
section
variable {X : Cx} {nm : Nm} {G : Gi} {C : CT}
def LTn (K : PySem.W.Frag) (nm : Nm) (w : Sa → AH → (Bool → AH → Prop) → Prop) : TT := fun σ H Q =>
  ∃ sa m h Qa, RS K H m σ sa ∧ RH K nm H m h ∧ w sa h Qa ∧ ∀ b H' m' h', RH K nm H' m' h' → Ext H m H' m' → Qa b h' → Q b H'
def LEn (K : PySem.W.Frag) (nm : Nm) (w : Sa → AH → QD → Prop) : TE := fun σ H Q =>
  ∃ sa m h Qa, RS K H m σ sa ∧ RH K nm H m h ∧ w sa h Qa ∧ ∀ v H' m' d h', RV K H' m' v d → RH K nm H' m' h' → Ext H m H' m' → Qa d h' → Q v H'
def LGn (K : PySem.W.Frag) (nm : Nm) (tg : Tg) : TG := fun v σ H Q =>
  ∃ sa m h d Qa, RS K H m σ sa ∧ RH K nm H m h ∧ RV K H m v d ∧ tgW tg d sa Qa ∧ ∀ σ' sa', RS K H m σ' sa' → Only' (tgSlots tg) σ σ' → Qa sa' → Q σ' H
theorem wipe_wipe {σ : L2.St} {vs : List Nat} : wipe (wipe σ vs) vs = wipe σ vs := by
  have key : ∀ (ws : List Nat) (τ : L2.St), (∀ i ∈ ws, i ∈ vs) → wipe (wipe τ ws) vs = wipe τ vs := by
    intro ws
    induction ws with
    | nil => intro τ _; rfl
    | cons w ws ih =>
      intro τ hw
      show wipe ((wipe τ ws).set w none) vs = wipe τ vs
      rw [wipe_set (hw w List.mem_cons_self), ih τ (fun i hi => hw i (List.mem_cons_of_mem _ hi))]
  exact key vs σ fun _ hi => hi
theorem RS.wipe {K : PySem.W.Frag} {H : Hp} {m : List Addr} {σ : L2.St} {s : Sa} (r : RS K H m σ s) : ∀ (vs : List Nat), RS K H m (L2.wipe σ vs) (wipeA s vs)
  | [] => r
  | v :: vs => by
    have ih := RS.wipe r vs
    unfold L2.wipe wipeA
    refine ⟨by simp [ih.1], fun i d e => ?_⟩
    by_cases hi : v = i
    · subst hi
      by_cases hv : v < (wipeA s vs).length
      · rw [List.getElem?_set_self hv] at e; cases e
      · rw [List.getElem?_eq_none (by simpa using hv)] at e; cases e
    · rw [List.getElem?_set_ne hi] at e
      obtain ⟨w, h1, h2⟩ := ih.2 i d e
      exact ⟨w, by rw [List.getElem?_set_ne hi]; exact h1, h2⟩
theorem lc_read {e : M} {tg : Tg} {src c : M} {own : List Nat} {σ : L2.St} {H : Hp} {Q : VK} (hsub : ∀ i ∈ tgSlots tg, i ∈ own) (q : LE X nm (wE C (.lc e tg src c own)) σ H Q) :
    tLc (LI X nm (wI C src)) (LGn X.K nm tg) (LTn X.K nm (fun s1 h2 Q1 => wT C c s1 h2 Q1 noE)) (LEn X.K nm (fun s1 h2 Q1 => wE C e s1 h2 Q1 noE)) own σ H Q := by
  obtain ⟨sa, m, h, Qa, Ea, rs, rh, w, tk, fin⟩ := q
  simp only [wE] at w
  refine ⟨sa, m, h, _, Ea, rs, rh, w, tk, fun J it H1 m1 h1 ri rh1 ex1 q1 D hD => ?_⟩
  have hDm : D ∉ m1 := rh1.fresh hD
  obtain ⟨W, hW⟩ : ∃ W : Nat → Nat → Hp → Prop, ∀ i n H', W i n H' ↔ (n = it.xs.length - i ∧ i ≤ it.xs.length ∧ ∃ m' h' acc vs, RH X.K nm H' m' h' ∧ Ext H1 m1 H' m' ∧ D ∉ m' ∧ H' D = some (.lst vs) ∧ RVs X.K H' m' vs acc ∧
    lcW it.ck tg (fun s1 h2 Q1 => wT C c s1 h2 Q1 noE) (fun s1 h2 Q1 => wE C e s1 h2 Q1 noE) (it.xs.drop i) acc (wipeA sa own) h' (fun ds h3 => Qa (.ref h3.length) (h3 ++ [.lst ds]))) := ⟨_, fun _ _ _ => Iff.rfl⟩
  refine ⟨W, ⟨it.xs.length, (hW _ _ _).mpr ⟨by simp, Nat.zero_le _, m1, h1, [], [], rh1.upd hD, Ext.side .refl hD, hDm, upd_same, .nil, by simpa using q1⟩⟩, ?_⟩
  intro i n H' w0
  obtain ⟨rfl, hi, m', h', acc, vs, rh', ex', hDm', hDv, rvs, lw⟩ := (hW _ _ _).mp w0
  by_cases hlt : i < it.xs.length
  · rw [List.drop_eq_getElem_cons hlt] at lw
    simp only [lcW] at lw
    obtain ⟨ck, tw⟩ := lw
    obtain ⟨ga, _⟩ := ri.at_ H' m' h' ex' rh' ck
    obtain ⟨go, yl⟩ := ga i _ (List.getElem?_eq_getElem hlt)
    refine .inr ⟨go, W (i + 1) (it.xs.length - (i + 1)), fun H2 w2 => ⟨it.xs.length - (i + 1), by omega, w2⟩, fun x H2 y => ?_⟩
    obtain ⟨rx, rh2, ex2⟩ := yl x H2 y
    have hDv2 : H2 D = some (.lst vs) := ex2.keep D _ hDm' hDv
    have rs2 : RS X.K H2 m' (wipe σ own) (wipeA sa own) := ((rs.ext ex1).ext (ex'.trans ex2)).wipe own
    refine ⟨wipeA sa own, m', h', _, _, rs2, rh2, rx, tw, fun σ' sa' rs' on qa => ⟨by rw [on own hsub, wipe_wipe], sa', m', h', _, rs', rh2, qa, fun b H4 m4 h4 rh4 ex4 q4 => ?_⟩⟩
    have hD4 : D ∉ m4 := by
      obtain ⟨t, e, ht⟩ := ex4.pre
      rw [e]
      intro z
      rcases List.mem_append.mp z with z | z
      · exact hDm' z
      · rw [ht D z] at hDv2; cases hDv2
    have hDv4 : H4 D = some (.lst vs) := ex4.keep D _ hDm' hDv2
    cases b with
    | false =>
      simp only [Bool.false_eq_true, if_false] at q4 ⊢
      exact (hW _ _ _).mpr ⟨rfl, hlt, m4, h4, acc, vs, rh4, (ex'.trans ex2).trans ex4, hD4, hDv4, rvs.ext (ex2.trans ex4), q4⟩
    | true =>
      simp only [if_true] at q4 ⊢
      refine ⟨sa', m4, h4, _, rs'.ext ex4, rh4, q4, fun y' H5 m5 d5 h5 rv5 rh5 ex5 ⟨hz, q5⟩ => ?_⟩
      have hD5 : D ∉ m5 := by
        obtain ⟨t, e, ht⟩ := ex5.pre
        rw [e]
        intro z
        rcases List.mem_append.mp z with z | z
        · exact hD4 z
        · rw [ht D z] at hDv4; cases hDv4
      have hDv5 : H5 D = some (.lst vs) := ex5.keep D _ hD4 hDv4
      have rvs5 := rvs.ext ((ex2.trans ex4).trans ex5)
      have x0 : Ext0 H5 m5 (upd H5 D (.lst (vs ++ [y']))) m5 := Ext0.side hDv5 (fun _ z => nomatch z) (fun _ _ z => nomatch z)
      refine ⟨vs, hDv5, by rw [rvs.length, ← SZ_line]; exact hz, (hW _ _ _).mpr ⟨rfl, hlt, m5, h5, acc ++ [d5], vs ++ [y'], rh5.side hD5 hDv5 (fun _ z => nomatch z) (fun _ _ z => nomatch z), (((ex'.trans ex2).trans ex4).trans ex5).side hD, hD5, upd_same, (rvs5.append (.cons rv5 .nil)).ext0 x0, q5⟩⟩
  · have e1 : i = it.xs.length := by omega
    subst e1
    rw [List.drop_length] at lw
    simp only [lcW] at lw
    obtain ⟨ck, qf⟩ := lw
    obtain ⟨_, st⟩ := ri.at_ H' m' h' ex' rh' ck
    refine .inl ⟨st, ?_⟩
    have hD0 : H D = none := ex1.alive D hD
    refine fin _ _ (m' ++ [D]) _ _ (.ref ?_) (rh'.join hDm' hDv rvs) ((ex1.trans ex').join hD0) qf
    rw [← rh'.len, List.getElem?_append_right (Nat.le_refl _)]
    simp
theorem de_lc {el x it t : Expr} {e : M} {tg : Tg} {src c : M} {own : List Nat} {ifs : List Expr} {scope : Scope} {pos : Pos} {ow : List (Str × Nat)} (k : Ct X nm G C) (how : ow.map (·.2) = own) (ok : BlkOk X.N X.env.scope scope ow) (hsub : ∀ i ∈ tgSlots tg, i ∈ own)
    (hi : PI X t it (LI X nm (wI C src))) (hs : ∀ x, foldedSetIterable it X.env x = pure x)
    (hg : ∀ (s : Shared) (H : Hp) (C : Addr) (cl : List (Str × Addr)) (fp : List Addr), PG (X.blk s H scope (compEnvC scope cl C X.env) fp) t (LG (X.blk s H scope (compEnvC scope cl C X.env) fp) nm tg))
    (ht : ∀ (s : Shared) (H : Hp) (C' : Addr) (cl : List (Str × Addr)) (fp : List Addr), PTs (X.blk s H scope (compEnvC scope cl C' X.env) fp) ifs (LT (X.blk s H scope (compEnvC scope cl C' X.env) fp) nm (wT C c)))
    (he : ∀ (s : Shared) (H : Hp) (C' : Addr) (cl : List (Str × Addr)) (fp : List Addr), DE (X.blk s H scope (compEnvC scope cl C' X.env) fp) nm el (wE C e)) :
    DE X nm (.ListComp el [⟨t, it, ifs, 0⟩] scope pos) (wE C (.lc e tg src c own)) := by
  subst how
  refine PE.imp (pe_lc (g := LGn X.K nm tg) (tt := LTn X.K nm (fun s1 h2 Q1 => wT C c s1 h2 Q1 noE)) (te := LEn X.K nm (fun s1 h2 Q1 => wE C e s1 h2 Q1 noE)) k.calm k.nd hi ok (fun s H C cl fp => hg s H C cl fp)
    (fun s H C' cl fp => ⟨fun pins s1 σ H1 Q I q => (ht s H C' cl fp).run pins s1 σ H1 Q I ?_⟩) (fun s H C' cl fp => PE.imp (he s H C' cl fp) fun σ H1 Q q => ?_) hs) fun σ H Q q => lc_read hsub q
  · obtain ⟨sa, m, h, Qa, rs, rh, w, fin⟩ := q
    exact ⟨sa, m, h, Qa, noE, rs, rh, w, tk_no, fin⟩
  · obtain ⟨sa, m, h, Qa, rs, rh, w, fin⟩ := q
    exact ⟨sa, m, h, Qa, noE, rs, rh, w, tk_no, fin⟩
theorem ds_setLc {i : Nat} {y : Str} {py : Pos} {el it t : Expr} {e : M} {tg : Tg} {src c : M} {own : List Nat} {ifs : List Expr} {scope : Scope} {pos spos : Pos} {ow : List (Str × Nat)} (k : Ct X nm G C) (how : ow.map (·.2) = own) (ok : BlkOk X.N X.env.scope scope ow) (hsub : ∀ i ∈ tgSlots tg, i ∈ own)
    (hy : X.N[i]? = some y) (hyl : X.env.scope.names.lookup y = some .local) (hsw : swapsWith (.ListComp el [⟨t, it, ifs, 0⟩] scope pos) (some (.Name y py)) spos.line X.env = pure true)
    (hi : PI X t it (LI X nm (wI C src))) (hs : ∀ x, foldedSetIterable it X.env x = pure x)
    (hg : ∀ (s : Shared) (H : Hp) (C : Addr) (cl : List (Str × Addr)) (fp : List Addr), PG (X.blk s H scope (compEnvC scope cl C X.env) fp) t (LG (X.blk s H scope (compEnvC scope cl C X.env) fp) nm tg))
    (ht : ∀ (s : Shared) (H : Hp) (C' : Addr) (cl : List (Str × Addr)) (fp : List Addr), PTs (X.blk s H scope (compEnvC scope cl C' X.env) fp) ifs (LT (X.blk s H scope (compEnvC scope cl C' X.env) fp) nm (wT C c)))
    (he : ∀ (s : Shared) (H : Hp) (C' : Addr) (cl : List (Str × Addr)) (fp : List Addr), DE (X.blk s H scope (compEnvC scope cl C' X.env) fp) nm el (wE C e)) :
    PS X (.Assign [.Name y py] (.ListComp el [⟨t, it, ifs, 0⟩] scope pos) spos) (tAsg (LE X nm (wE C (.lc e tg src c own))) (gName i)) := by
  subst how
  refine PS.imp (ps_setLc (g := LGn X.K nm tg) (tt := LTn X.K nm (fun s1 h2 Q1 => wT C c s1 h2 Q1 noE)) (te := LEn X.K nm (fun s1 h2 Q1 => wE C e s1 h2 Q1 noE)) k.calm k.nd hy hyl hsw hi ok (fun s H C cl fp => hg s H C cl fp)
    (fun s H C' cl fp => ⟨fun pins s1 σ H1 Q I q => (ht s H C' cl fp).run pins s1 σ H1 Q I ?_⟩) (fun s H C' cl fp => PE.imp (he s H C' cl fp) fun σ H1 Q q => ?_) hs) fun D σ H q => lc_read hsub q
  · obtain ⟨sa, m, h, Qa, rs, rh, w, fin⟩ := q
    exact ⟨sa, m, h, Qa, noE, rs, rh, w, tk_no, fin⟩
  · obtain ⟨sa, m, h, Qa, rs, rh, w, fin⟩ := q
    exact ⟨sa, m, h, Qa, noE, rs, rh, w, tk_no, fin⟩
theorem getW_none {h : AH} {n : Nat} {kvs : List (Kd × D)} (e : getK h n = some kvs) (e2 : getW h n = none) : h[n]? = some (.lk kvs) := by
  rcases getK_or e with q | q
  · rw [getW_iff.mpr q] at e2; cases e2
  · exact q
theorem getW_same {h : AH} {n : Nat} {kvs ks : List (Kd × D)} (e : getK h n = some kvs) (e2 : getW h n = some ks) : ks = kvs := by
  have := getW_iff.mp e2
  unfold getK at e
  rw [this] at e
  cases e
  rfl
theorem pe_lockOr {X : Cx} {e : Expr} {t : TE} (h : PE X e t) : PE X e (fun σ H Q => tLockE t σ H Q ∨ t σ H Q) := ⟨fun pins s σ H Q I q => q.elim ((pe_lock h).run pins s σ H Q I) (h.run pins s σ H Q I)⟩
theorem ps_lockOr {X : Cx} {e : Stmt} {t : TS} (h : PS X e t) : PS X e (fun D σ H => tLock t D σ H ∨ t D σ H) := ⟨fun pins s σ H D I q => q.elim ((ps_lock h).run pins s σ H D I) (h.run pins s σ H D I)⟩
theorem lcK_lock {e : M} {tg : Tg} {i : Nat} {c : M} {own : List Nat} {σ : L2.St} {H : Hp} {Q : VK} (q : LE X nm (wE C (.lcK e tg i c own)) σ H Q) : tLockE (LE X nm (wE C (.lc e tg (.itv (.var i)) c own))) σ H Q ∨ LE X nm (wE C (.lc e tg (.itv (.var i)) c own)) σ H Q := by
  obtain ⟨sa, m, h, Qa, Ea, rs, rh, w, tk, fin⟩ := q
  simp only [wE, slot] at w
  split at w
  · rename_i d0 e0
    obtain ⟨n, kvs, rfl, e1, w⟩ := w
    obtain ⟨v0, _, rv0⟩ := rs.2 i _ e0
    cases hw : getW h n with
    | some ks =>
      have := getW_same e1 hw
      subst this
      simp only [lockA, unlockA, hw] at w
      have e2 := getW_iff.mp hw
      obtain ⟨a, vs, rfl, hm, hH, rk⟩ := the_dk rh rv0 e2
      refine .inl ⟨a, _, hH, trivial, fun od => ?_⟩
      obtain ⟨rh1, ex1⟩ := rh.lock (od := od) hm hH rk
      have hn : n < h.length := (List.getElem?_eq_some_iff.mp e2).1
      refine ⟨sa, m, h.set n (.lk ks), fun d h4 => Qa d (h4.set n (.dk ks)), noE, rs.ext ex1, rh1, ?_, tk_no, fun v H' m' d h' rv rh' ex' q' => ?_⟩
      · simp only [wE, wI, slot, e0, itW, List.getElem?_set_self hn]
        exact w
      · have hH' : H' a = some (.frz od (.dK vs)) := ex'.frzs _ _ _ upd_same
        have x0 : Ext0 H' m' (upd H' a (.dK vs)) m' := Ext0.unlock hH'
        exact ⟨hH', fin _ _ _ _ _ (rv.ext0 x0) (rh'.unlock (ex'.get hm) hH' ((rk.ext ex1).ext ex')) (ex'.unlock (List.mem_of_getElem? hm) hH) q'⟩
    | none =>
      simp only [lockA, unlockA, hw] at w
      have e2 := getW_none e1 hw
      refine .inr ⟨sa, m, h, Qa, Ea, rs, rh, ?_, tk, fin⟩
      simp only [wE, wI, slot, e0, itW, e2]
      exact w
  · exact w.elim
theorem de_lcK {el t it : Expr} {e : M} {tg : Tg} {i : Nat} {c : M} {own : List Nat} {ifs : List Expr} {scope : Scope} {pos : Pos} (h : DE X nm (.ListComp el [⟨t, it, ifs, 0⟩] scope pos) (wE C (.lc e tg (.itv (.var i)) c own))) :
    DE X nm (.ListComp el [⟨t, it, ifs, 0⟩] scope pos) (wE C (.lcK e tg i c own)) := PE.imp (pe_lockOr h) fun _ _ _ q => lcK_lock q
theorem ds_setLcK {i' : Nat} {st : Stmt} {e : M} {tg : Tg} {i : Nat} {c : M} {own : List Nat} (h : PS X st (tAsg (LE X nm (wE C (.lc e tg (.itv (.var i)) c own))) (gName i'))) : PS X st (tAsg (LE X nm (wE C (.lcK e tg i c own))) (gName i')) :=
  PS.imp (ps_lockOr h) fun D σ H q => by
    rcases lcK_lock q with ⟨a, u, h1, h2, h3⟩ | h3
    · exact .inl ⟨a, u, h1, h2, fun od => h3 od⟩
    · exact .inr h3
end
end Rf
namespace Rf
open PySem PySem.Spec PyProof.Rows L2
section
variable {X : Cx} {nm : Nm} {G : Gi} {C : CT}
structure LEnd (X : Cx) (nm : Nm) (H : Hp) (m : List Addr) (Z : En) (D : Ends) : Prop where
  nx : ∀ σ' sa' H' m' h', RS X.K H' m' σ' sa' → RH X.K nm H' m' h' → Ext H m H' m' → Z.nx sa' h' → D.nx σ' H'
  rt : ∀ v H' m' d h', RV X.K H' m' v d → RH X.K nm H' m' h' → Ext H m H' m' → Z.rt d h' → D.rt v H'
  bk : ∀ σ' sa' H' m' h', RS X.K H' m' σ' sa' → RH X.K nm H' m' h' → Ext H m H' m' → Z.bk sa' h' → D.bk σ' H'
  ct : ∀ σ' sa' H' m' h', RS X.K H' m' σ' sa' → RH X.K nm H' m' h' → Ext H m H' m' → Z.ct sa' h' → D.ct σ' H'
theorem LEnd.ext {H H' : Hp} {m m' : List Addr} {Z : En} {D : Ends} (l : LEnd X nm H m Z D) (x : Ext H m H' m') : LEnd X nm H' m' Z D :=
  ⟨fun σ' sa' H2 m2 h2 a b e q => l.nx σ' sa' H2 m2 h2 a b (x.trans e) q, fun v H2 m2 d h2 a b e q => l.rt v H2 m2 d h2 a b (x.trans e) q, fun σ' sa' H2 m2 h2 a b e q => l.bk σ' sa' H2 m2 h2 a b (x.trans e) q, fun σ' sa' H2 m2 h2 a b e q => l.ct σ' sa' H2 m2 h2 a b (x.trans e) q⟩
def LS (X : Cx) (nm : Nm) (w : Sa → AH → En → EK → Prop) : TS := fun D σ H =>
  ∃ sa m h Z Ea, RS X.K H m σ sa ∧ RH X.K nm H m h ∧ w sa h Z Ea ∧ TKs X nm H m Ea ∧ LEnd X nm H m Z D
theorem ds_nil : PSs X [] (LS X nm (wS C .nil)) := PSs.imp pss_nil fun D σ H q => by
  obtain ⟨sa, m, h, Z, Ea, rs, rh, w, tk, l⟩ := q
  simp only [wS] at w
  exact l.nx _ _ _ _ _ rs rh .refl w
theorem ds_seq {a r : MS} {st : Stmt} {sts : List Stmt} (ha : PS X st (LS X nm (wS C a))) (hr : PSs X sts (LS X nm (wS C r))) : PSs X (st :: sts) (LS X nm (wS C (.seq a r))) := PSs.imp (pss_cons ha hr) fun D σ H q => by
  obtain ⟨sa, m, h, Z, Ea, rs, rh, w, tk, l⟩ := q
  simp only [wS] at w
  exact ⟨sa, m, h, _, Ea, rs, rh, w, tk, fun σ' sa' H' m' h' rs' rh' ex q => ⟨sa', m', h', Z, Ea, rs', rh', q, tk_ext tk ex, l.ext ex⟩, l.rt, l.bk, l.ct⟩
theorem noComp_sw {v : Expr} (h : noComp v = true) (t : Option Expr) (l : Nat) (env : Env) : swapsWith v t l env = pure false := by
  cases v <;> first | (cases h; done) | rfl
theorem set_read {i : Nat} {e : M} {D : Ends} {σ : L2.St} {H : Hp} (q : LS X nm (wS C (.set i e)) D σ H) : tAsg (LE X nm (wE C e)) (gName i) D σ H := by
  obtain ⟨sa, m, h, Z, Ea, rs, rh, w, tk, l⟩ := q
  simp only [wS] at w
  exact ⟨sa, m, h, _, Ea, rs, rh, w, tk, fun v H1 m1 d h1 rv rh1 ex q1 => l.nx _ _ _ _ _ ((rs.ext ex).set rv) rh1 ex q1⟩
theorem ds_set {i : Nat} {e : M} {x : Str} {v : Expr} {p pos : Pos} (k : Ct X nm G C) (o : StOk X i x) (he : DE X nm v (wE C e)) (hs : swapsWith v (some (.Name x p)) pos.line X.env = pure false) : PS X (.Assign [.Name x p] v pos) (LS X nm (wS C (.set i e))) :=
  PS.imp (ps_set k.nd o.ix o.loc he hs o.fn) fun D σ H q => set_read q
theorem ds_setT {is : List Nat} {e : M} {es : List Expr} {v : Expr} {kk : Nat} {p pos : Pos} (k : Ct X nm G C) (o : NamesOk X is es) (he : DE X nm v (wE C e)) (hc : noComp v = true) (hw : swappedStores [.Tuple es kk p] v X.env = pure none) : PS X (.Assign [.Tuple es kk p] v pos) (LS X nm (wS C (.setT is e))) :=
  PS.imp (ps_asg he (dg_many (nm := nm) k o) (by show swapsWith v (some (.Tuple es kk p)) pos.line X.env = pure false; exact noComp_sw hc _ _ _) hw rfl) fun D σ H q => by
    obtain ⟨sa, m, h, Z, Ea, rs, rh, w, tk, l⟩ := q
    simp only [wS] at w
    exact ⟨sa, m, h, _, Ea, rs, rh, w, tk, fun v H1 m1 d h1 rv rh1 ex q1 => ⟨sa, m1, h1, d, _, rs.ext ex, rh1, rv, q1, fun σ' sa' rs' _ q2 => l.nx _ _ _ _ _ rs' rh1 ex q2⟩⟩
theorem ds_setU {is : List Nat} {e : M} {es : List Expr} {v : Expr} {kk : Nat} {p pos : Pos} (k : Ct X nm G C) (o : NamesOk X is es) (he : DE X nm v (wE C e)) (hw : swappedStores [.Tuple es kk p] v X.env = pure none) : PS X (.Assign [.Tuple es kk p] v pos) (LS X nm (wS C (.setU is e))) :=
  PS.imp (ps_asg he (pg_lst k.calm (dg_names k.nd o) (names_len o).1 (names_len o).2) (by show swapsWith v (some (.Tuple es kk p)) pos.line X.env = pure false; cases v <;> rfl) hw rfl) fun D σ H q => by
    obtain ⟨sa, m, h, Z, Ea, rs, rh, w, tk, l⟩ := q
    simp only [wS] at w
    refine ⟨sa, m, h, _, Ea, rs, rh, w, tk, fun v H1 m1 d h1 rv rh1 ex q1 => ?_⟩
    obtain ⟨n, xs, rfl, hn, hl, q1⟩ := q1
    obtain ⟨a, vs, rfl, _, hst, rvs⟩ := the_lst rh1 rv hn
    exact ⟨a, vs, rfl, .inl (.inl hst), by rw [rvs.length]; exact hl, sa, m1, xs, _, rs.ext ex, rvs, hl, q1, fun σ' sa' rs' _ q2 => l.nx _ _ _ _ _ rs' rh1 ex q2⟩
theorem ds_expr {e : M} {v : Expr} {pos : Pos} (he : DE X nm v (wE C e)) (hc : noComp v = true) : PS X (.Expr v pos) (LS X nm (wS C (.expr e))) :=
  PS.imp (ps_expr he (noComp_sw hc _ _ _)) fun D σ H q => by
    obtain ⟨sa, m, h, Z, Ea, rs, rh, w, tk, l⟩ := q
    simp only [wS] at w
    exact ⟨sa, m, h, _, Ea, rs, rh, w, tk, fun v H1 m1 d h1 rv rh1 ex q1 => l.nx _ _ _ _ _ (rs.ext ex) rh1 ex q1⟩
theorem ds_ret {e : M} {v : Expr} {pos : Pos} (he : DE X nm v (wE C e)) : PS X (.Return (some v) pos) (LS X nm (wS C (.ret e))) :=
  PS.imp (ps_ret he) fun D σ H q => by
    obtain ⟨sa, m, h, Z, Ea, rs, rh, w, tk, l⟩ := q
    simp only [wS] at w
    exact ⟨sa, m, h, _, Ea, rs, rh, w, tk, l.rt⟩
theorem ds_ret0 {pos : Pos} : PS X (.Return none pos) (LS X nm (wS C .ret0)) :=
  PS.imp ps_retN fun D σ H q => by
    obtain ⟨sa, m, h, Z, Ea, rs, rh, w, tk, l⟩ := q
    simp only [wS] at w
    exact l.rt _ _ _ _ _ .non rh .refl w
theorem ds_pass {pos : Pos} : PS X (.Pass pos) (LS X nm (wS C .pass_)) :=
  PS.imp ps_pass fun D σ H q => by
    obtain ⟨sa, m, h, Z, Ea, rs, rh, w, tk, l⟩ := q
    simp only [wS] at w
    exact l.nx _ _ _ _ _ rs rh .refl w
theorem ds_brk {pos : Pos} : PS X (.Break pos) (LS X nm (wS C .brk)) :=
  PS.imp ps_break fun D σ H q => by
    obtain ⟨sa, m, h, Z, Ea, rs, rh, w, tk, l⟩ := q
    simp only [wS] at w
    exact l.bk _ _ _ _ _ rs rh .refl w
theorem ds_cont {pos : Pos} : PS X (.Continue pos) (LS X nm (wS C .cont)) :=
  PS.imp ps_continue fun D σ H q => by
    obtain ⟨sa, m, h, Z, Ea, rs, rh, w, tk, l⟩ := q
    simp only [wS] at w
    exact l.ct _ _ _ _ _ rs rh .refl w
theorem ds_cond {c : M} {a b : MS} {t : Expr} {x y : List Stmt} {pos : Pos} (hc : PT X t (LT X nm (wT C c))) (ha : PSs X x (LS X nm (wS C a))) (hb : PSs X y (LS X nm (wS C b))) : PS X (.If t x y pos) (LS X nm (wS C (.cond c a b))) :=
  PS.imp (ps_if hc ha hb) fun D σ H q => by
    obtain ⟨sa, m, h, Z, Ea, rs, rh, w, tk, l⟩ := q
    simp only [wS] at w
    refine ⟨sa, m, h, _, Ea, rs, rh, w, tk, fun t H1 m1 h1 rh1 ex q1 => ?_⟩
    cases t with
    | true => simp only [if_true] at q1 ⊢; exact ⟨sa, m1, h1, Z, Ea, rs.ext ex, rh1, q1, tk_ext tk ex, l.ext ex⟩
    | false => simp only [Bool.false_eq_true, if_false] at q1 ⊢; exact ⟨sa, m1, h1, Z, Ea, rs.ext ex, rh1, q1, tk_ext tk ex, l.ext ex⟩
theorem ip_bop (op : Bop) (hop : op = .add ∨ op = .sub) : PIp X op.op (L2' X nm (fun x y h Q => (∃ i j, x = .int i ∧ y = .int j) ∧ bopW op x y h Q)) := by
  intro pins s σ H x y v u Q I rx ry hq
  obtain ⟨m, h, d, e, Qa, r1, r2, rh, ⟨⟨i, j, rfl, rfl⟩, w⟩, fin⟩ := hq
  cases r1
  cases r2
  rcases hop with rfl | rfl
  · exact ip_add pins s σ H _ _ v u Q I rx ry ⟨i, j, rfl, rfl, fin _ _ _ _ _ (.int _) rh .refl w⟩
  · exact ip_sub pins s σ H _ _ v u Q I rx ry ⟨i, j, rfl, rfl, fin _ _ _ _ _ (.int _) rh .refl w⟩
theorem ds_aug {i : Nat} {op : Bop} {e : M} {x : Str} {v : Expr} {p pos : Pos} (k : Ct X nm G C) (o : StOk X i x) (he : DE X nm v (wE C e)) (hop : op = .add ∨ op = .sub) : PS X (.AugAssign (.Name x p) op.op v pos) (LS X nm (wS C (.aug i op e))) :=
  PS.imp (ps_aug k.nd o.ix o.loc he (ip_bop (nm := nm) op hop) o.fn) fun D σ H q => by
    obtain ⟨sa, m, h, Z, Ea, rs, rh, w, tk, l⟩ := q
    simp only [wS, slot] at w
    split at w
    · rename_i d e1
      obtain ⟨v0, e2, rv0⟩ := rs.2 i d e1
      refine ⟨v0, e2, sa, m, h, _, Ea, rs, rh, w, tk, fun v H1 m1 d1 h1 rv rh1 ex1 q1 => ⟨m1, h1, d, d1, _, rv0.ext ex1, rv, rh1, q1, fun z H2 m2 d2 h2 rz rh2 ex2 q2 => ?_⟩⟩
      exact l.nx _ _ _ _ _ (((rs.ext ex1).ext ex2).set rz) rh2 (ex1.trans ex2) q2
    · exact w.elim
theorem ds_while {c : M} {b : MS} {t : Expr} {x : List Stmt} {pos : Pos} (hp : PassesOwn (model X.prog X.w) X.A X.env X.xe) (hc : PT X t (LT X nm (wT C c))) (hb : PSs X x (LS X nm (wS C b))) : PS X (.While t x [] pos) (LS X nm (wS C (.while_ c b))) :=
  PS.imp (ps_while hp hc hb) fun D σ H q => by
    obtain ⟨sa, m, h, Z, Ea, rs, rh, w, tk, l⟩ := q
    simp only [wS] at w
    obtain ⟨n0, w⟩ := w
    obtain ⟨W, hW⟩ : ∃ W : Nat → L2.St → Hp → Prop, ∀ n σ' H', W n σ' H' ↔ ∃ sa' m' h', RS X.K H' m' σ' sa' ∧ RH X.K nm H' m' h' ∧ Ext H m H' m' ∧ whileW (wT C c) (wS C b) n sa' h' Z Ea := ⟨_, fun _ _ _ => Iff.rfl⟩
    refine ⟨W, ⟨n0, (hW _ _ _).mpr ⟨sa, m, h, rs, rh, .refl, w⟩⟩, fun n σ' H' w0 => ?_⟩
    obtain ⟨sa', m', h', rs', rh', ex, w1⟩ := (hW _ _ _).mp w0
    cases n with
    | zero => exact w1.elim
    | succ n =>
      simp only [whileW] at w1
      refine ⟨sa', m', h', _, Ea, rs', rh', w1, tk_ext tk ex, fun b H2 m2 h2 rh2 ex2 q2 => ?_⟩
      cases b with
      | false => simp only [Bool.false_eq_true, if_false] at q2 ⊢; exact l.nx _ _ _ _ _ (rs'.ext ex2) rh2 (ex.trans ex2) q2
      | true =>
        simp only [if_true] at q2 ⊢
        refine ⟨W n, fun σ3 H3 w3 => ⟨n, Nat.lt_succ_self _, w3⟩, sa', m2, h2, _, Ea, rs'.ext ex2, rh2, q2, tk_ext (tk_ext tk ex) ex2, ?_⟩
        refine ⟨fun σ3 sa3 H3 m3 h3 rs3 rh3 ex3 q3 => (hW _ _ _).mpr ⟨sa3, m3, h3, rs3, rh3, (ex.trans ex2).trans ex3, q3⟩, (l.ext (ex.trans ex2)).rt, (l.ext (ex.trans ex2)).nx, fun σ3 sa3 H3 m3 h3 rs3 rh3 ex3 q3 => (hW _ _ _).mpr ⟨sa3, m3, h3, rs3, rh3, (ex.trans ex2).trans ex3, q3⟩⟩
theorem ds_for {tg : Tg} {src : M} {b : MS} {t it : Expr} {x : List Stmt} {pos : Pos} (k : Ct X nm G C) (hp : PassesOwn (model X.prog X.w) X.A X.env X.xe) (hi : PI X t it (LI X nm (wI C src))) (hg : PG X t (LG X nm tg)) (hb : PSs X x (LS X nm (wS C b)))
    (hs : ∀ x, foldedSetIterable it X.env x = pure x) : PS X (.For t it x [] pos) (LS X nm (wS C (.for_ tg src b))) :=
  PS.imp (ps_for hp k.calm hi hg hb hs) fun D σ H q => by
    obtain ⟨sa, m, h, Z, Ea, rs, rh, w, tk, l⟩ := q
    simp only [wS] at w
    refine ⟨sa, m, h, _, Ea, rs, rh, w, tk, fun J itv H1 m1 h1 ri rh1 ex1 q1 => ?_⟩
    obtain ⟨W, hW⟩ : ∃ W : Nat → Nat → L2.St → Hp → Prop, ∀ i n σ' H', W i n σ' H' ↔ (n = itv.xs.length - i ∧ i ≤ itv.xs.length ∧ ∃ sa' m' h', RS X.K H' m' σ' sa' ∧ RH X.K nm H' m' h' ∧ Ext H1 m1 H' m' ∧ forW itv.ck tg (wS C b) (itv.xs.drop i) sa' h' Z Ea) := ⟨_, fun _ _ _ _ => Iff.rfl⟩
    refine ⟨W, ⟨itv.xs.length, (hW _ _ _ _).mpr ⟨by simp, Nat.zero_le _, sa, m1, h1, rs.ext ex1, rh1, .refl, by simpa using q1⟩⟩, fun i n σ' H' w0 => ?_⟩
    obtain ⟨rfl, hi, sa', m', h', rs', rh', ex', w1⟩ := (hW _ _ _ _).mp w0
    by_cases hlt : i < itv.xs.length
    · rw [List.drop_eq_getElem_cons hlt] at w1
      simp only [forW] at w1
      obtain ⟨ck, tw⟩ := w1
      obtain ⟨ga, _⟩ := ri.at_ H' m' h' ex' rh' ck
      obtain ⟨go, yl⟩ := ga i _ (List.getElem?_eq_getElem hlt)
      refine .inr ⟨go, W (i + 1) (itv.xs.length - (i + 1)), fun σ2 H2 w2 => ⟨itv.xs.length - (i + 1), by omega, w2⟩, fun x H2 y => ?_⟩
      obtain ⟨rx, rh2, ex2⟩ := yl x H2 y
      refine ⟨sa', m', h', _, _, rs'.ext ex2, rh2, rx, tw, fun σ3 sa3 rs3 on q3 => ⟨sa3, m', h', _, Ea, rs3, rh2, q3, tk_ext tk ((ex1.trans ex').trans ex2), ?_⟩⟩
      have e0 := (ex1.trans ex').trans ex2
      exact ⟨fun σ4 sa4 H4 m4 h4 rs4 rh4 ex4 q4 => (hW _ _ _ _).mpr ⟨rfl, hlt, sa4, m4, h4, rs4, rh4, (ex'.trans ex2).trans ex4, q4⟩, (l.ext e0).rt, (l.ext e0).nx, fun σ4 sa4 H4 m4 h4 rs4 rh4 ex4 q4 => (hW _ _ _ _).mpr ⟨rfl, hlt, sa4, m4, h4, rs4, rh4, (ex'.trans ex2).trans ex4, q4⟩⟩
    · have e1 : i = itv.xs.length := by omega
      subst e1
      rw [List.drop_length] at w1
      simp only [forW] at w1
      obtain ⟨_, st⟩ := ri.at_ H' m' h' ex' rh' w1.1
      exact .inl ⟨st, l.nx _ _ _ _ _ rs' rh' (ex1.trans ex') w1.2⟩
theorem ds_forK {tg : Tg} {i : Nat} {b : MS} {t it : Expr} {x : List Stmt} {pos : Pos} (hf : PS X (.For t it x [] pos) (LS X nm (wS C (.for_ tg (.itv (.var i)) b)))) : PS X (.For t it x [] pos) (LS X nm (wS C (.forK tg i b))) :=
  PS.imp (ps_lockOr hf) fun D σ H q => by
    obtain ⟨sa, m, h, Z, Ea, rs, rh, w, tk, l⟩ := q
    simp only [wS, slot] at w
    split at w
    · rename_i d0 e0
      obtain ⟨n, kvs, rfl, e1, w⟩ := w
      obtain ⟨v0, _, rv0⟩ := rs.2 i _ e0
      cases hw : getW h n with
      | none =>
        simp only [lockA, unlockA, hw] at w
        have e2 := getW_none e1 hw
        refine .inr ⟨sa, m, h, { nx := fun s' h' => Z.nx s' h', rt := fun v h' => Z.rt v h', bk := fun _ _ => False, ct := fun _ _ => False }, Ea, rs, rh, ?_, tk, ⟨l.nx, l.rt, fun _ _ _ _ _ _ _ _ q' => q'.elim, fun _ _ _ _ _ _ _ _ q' => q'.elim⟩⟩
        simp only [wS, wI, wE, slot, e0, itW, e2]
        exact w
      | some ks =>
      have := getW_same e1 hw
      subst this
      simp only [lockA, unlockA, hw] at w
      have e2 := getW_iff.mp hw
      obtain ⟨a, vs, rfl, hm, hH, rk⟩ := the_dk rh rv0 e2
      refine .inl ⟨a, _, hH, trivial, fun od => ?_⟩
      obtain ⟨rh1, ex1⟩ := rh.lock (od := od) hm hH rk
      have hn : n < h.length := (List.getElem?_eq_some_iff.mp e2).1
      refine ⟨sa, m, h.set n (.lk ks), { nx := fun s' h' => Z.nx s' (h'.set n (.dk ks)), rt := fun v h' => Z.rt v (h'.set n (.dk ks)), bk := fun _ _ => False, ct := fun _ _ => False }, Ea, rs.ext ex1, rh1, ?_, tk_ext tk ex1, ?_⟩
      · simp only [wS, wI, wE, slot, e0, itW, List.getElem?_set_self hn]
        exact w
      · refine ⟨fun σ' sa' H' m' h' rs' rh' ex' q' => ?_, fun v H' m' d h' rv rh' ex' q' => ?_, fun _ _ _ _ _ _ _ _ q' => q'.elim, fun _ _ _ _ _ _ _ _ q' => q'.elim⟩
        · have hH' : H' a = some (.frz od (.dK vs)) := ex'.frzs _ _ _ upd_same
          have x0 : Ext0 H' m' (upd H' a (.dK vs)) m' := Ext0.unlock hH'
          refine ⟨hH', l.nx _ sa' _ m' _ ⟨rs'.1, fun j d e => ?_⟩ (rh'.unlock (ex'.get hm) hH' ((rk.ext ex1).ext ex')) (ex'.unlock (List.mem_of_getElem? hm) hH) q'⟩
          obtain ⟨v, z1, z2⟩ := rs'.2 j d e
          exact ⟨v, z1, z2.ext0 x0⟩
        · have hH' : H' a = some (.frz od (.dK vs)) := ex'.frzs _ _ _ upd_same
          have x0 : Ext0 H' m' (upd H' a (.dK vs)) m' := Ext0.unlock hH'
          exact ⟨hH', l.rt _ _ m' _ _ (rv.ext0 x0) (rh'.unlock (ex'.get hm) hH' ((rk.ext ex1).ext ex')) (ex'.unlock (List.mem_of_getElem? hm) hH) q'⟩
    · exact w.elim
theorem ds_raise {c : Nat} {y x mm : Str} {j : Nat} {p p2 p3 pos : Pos} (k : Ct X nm G C) (hc : G.cl[c]? = some y) (hx : G.cx.contains y = false) (hn : nameB X.env.scope y x = true) : PS X (.Raise (some (.Call (.Name x p) [.Constant (.str mm) j p2] [] p3)) none pos) (LS X nm (wS C (.raise_ c .nil))) := by
  obtain ⟨rfl, hg, ho⟩ := nameB_ok hn
  obtain ⟨hdb, _, _⟩ := okN_d ho
  obtain ⟨h1, h2, h3, h4, h5⟩ := k.exc c _ hc hx
  refine ⟨fun pins s σ H D I q => ?_⟩
  obtain ⟨sa, m, h, Z, Ea, rs, rh, w, tk, l⟩ := q
  simp only [wS, wA] at w
  exact (ps_raise k.calm tk (pmk_own PySem.F.excBase_ValueError h2 h1 h3 (raises_own h4 h5) hg hdb)).run pins s σ H D I ⟨⟨c, []⟩, sa, m, h, ⟨rfl, .inl ⟨rfl, rfl⟩⟩, rs, rh, .refl, w⟩
end
end Rf
namespace Rf
open PySem PySem.Spec PyProof.Rows L2
section
variable {X : Cx} {nm : Nm} {G : Gi} {C : CT}
theorem mk_heap {H1 : Hp} {a dx : Addr} {o1 o2 o3 u : HO} (ha : H1 a = none) (hd : dx ≠ a) : upd (L2.del (upd (upd (upd H1 a o1) dx o2) a o3) a) dx u = upd H1 dx u := by
  funext b
  by_cases hb : b = dx
  · subst hb; rw [upd_same, upd_same]
  · rw [upd_ne hb, upd_ne hb]
    by_cases hba : b = a
    · subst hba; rw [L2.del_same, ha]
    · rw [L2.del_ne hba, upd_ne hba, upd_ne hb, upd_ne hba]
theorem ds_raiseF {c f : Nat} {e : M} {y x : Str} {a : Expr} {p p3 pos : Pos} (k : Ct X nm G C) (hc : G.cl[c]? = some y) (hn : nameB X.env.scope y x = true) (hl : (G.lx.any fun l => l.1 == c && l.2.1 == f) = true) (he : DE X nm a (wE C e))
    (hst : starEach (a :: []) X.env = (false, eval a X.env) :: starEach [] X.env) : PS X (.Raise (some (.Call (.Name x p) [a] [] p3)) none pos) (LS X nm (wS C (.raiseF c f e))) := by
  obtain ⟨rfl, hg, ho⟩ := nameB_ok hn
  obtain ⟨hdb, _, _⟩ := okN_d ho
  rw [List.any_eq_true] at hl
  obtain ⟨t, ht, hcf⟩ := hl
  simp only [Bool.and_eq_true, beq_iff_eq] at hcf
  obtain ⟨rfl, rfl⟩ := hcf
  have L := k.low t ht
  obtain ⟨fI, fd, ps, n, h1, h2, hb, hf, hfl, hno, F⟩ := L.fn (CX X.prog X.w) X.prog X.w X.base
  have hr := k.hr2 (fun z => by rw [z] at ht; cases ht)
  refine ⟨fun pins s σ H D I q => ?_⟩
  obtain ⟨sa, m, h, Z, Ea, rs, rh, w, tk, l⟩ := q
  simp only [wS] at w
  refine (ps_raise k.calm tk (pmk_oex L.oex h1 h2 F hr hb .nil (passes_call tk fun _ _ _ _ z => z.elim) hg (k.clg t.1 _ hc) (pa_cons he pa_nil (hs := hst)) hdb hst rfl)).run pins s σ H D I ?_
  refine ⟨sa, m, h, _, Ea, rs, rh, w, tk, fun v H1 m1 d h1 rv rh1 ex1 q1 => ⟨by simp, fun a ha => ⟨a, v, rfl, L.oex, upd_same, fun dx n1 n2 => ⟨rfl, dx, [(n, v)], upd_same, ?_, ?_, ?_⟩⟩⟩⟩
  · rw [upd_ne n2, upd_same]
  · rw [upd_ne n2] at n1; exact n1
  · rw [upd_ne n2] at n1
    rw [mk_heap ha n2]
    refine ⟨⟨t.1, [(t.2.1, d)]⟩, sa, m1, h1, ⟨rfl, .inr ⟨by simp, dx, [(n, v)], rfl, rh1.fresh n1, upd_same, ?_⟩⟩, (rs.ext ex1).ext (Ext.upd n1), rh1.upd n1, ex1.trans (Ext.upd n1), q1⟩
    have := RF.cons (N := nm) (k := t.2.1) (rv.ext (Ext.upd (H := H1) (m := m1) (o := HO.xd [(n, v)]) n1)) RF.nil
    rw [hfl] at this
    exact this
end
end Rf
namespace Rf
open PySem PySem.Spec PyProof.Rows L2
section
variable {K : PySem.W.Frag} {H : Hp} {m : List Addr} {N : Nm}
theorem RF.len : ∀ {xs : List (Str × V)} {fs : List (Nat × D)}, RF K H m N xs fs → xs.length = fs.length
  | _, _, .nil => rfl
  | _, _, .cons _ r => by simp [RF.len r]
theorem RF.get {f : Nat} {d : D} (inj : ∀ g, g < N.nf → N.fld g = N.fld f → g = f) : ∀ {xs : List (Str × V)} {fs : List (Nat × D)}, RF K H m N xs fs → (∀ q ∈ fs, q.1 < N.nf) → fs.lookup f = some d → ∃ v, xs.lookup (N.fld f) = some v ∧ RV K H m v d
  | _, _, .nil, _, e => by cases e
  | _, _, @RF.cons _ _ _ _ g v d' xs fs rv r, hb, e => by
    by_cases h : g = f
    · subst h
      simp [List.lookup] at e ⊢
      subst e
      exact rv
    · have h2 : (f == g) = false := by simpa using (Ne.symm h)
      have h3 : (N.fld f == N.fld g) = false := by
        rw [beq_eq_false_iff_ne]
        intro z
        exact h (inj g (hb (g, d') List.mem_cons_self) z.symm)
      simp only [List.lookup, h2, h3] at e ⊢
      exact RF.get inj r (fun q hq => hb q (List.mem_cons_of_mem _ hq)) e
theorem RF.non {n : Str} : ∀ {xs : List (Str × V)} {fs : List (Nat × D)}, RF K H m N xs fs → (∀ q ∈ fs, N.fld q.1 ≠ n) → xs.lookup n = none
  | _, _, .nil, _ => rfl
  | _, _, @RF.cons _ _ _ _ g v d' xs fs rv r, hb => by
    have h3 : (n == N.fld g) = false := by
      rw [beq_eq_false_iff_ne]
      intro z
      exact hb (g, d') List.mem_cons_self z.symm
    simp only [List.lookup, h3]
    exact RF.non r fun q hq => hb q (List.mem_cons_of_mem _ hq)
theorem RF.put {f : Nat} {v : V} {d : D} (rv : RV K H m v d) (inj : ∀ g, g < N.nf → N.fld g = N.fld f → g = f) : ∀ {xs : List (Str × V)} {fs : List (Nat × D)}, RF K H m N xs fs → (∀ q ∈ fs, q.1 < N.nf) → RF K H m N (putF (N.fld f) v xs) (putFd f d fs)
  | _, _, .nil, _ => .cons rv .nil
  | _, _, @RF.cons _ _ _ _ g w d' xs fs rw' r, hb => by
    unfold putF putFd
    by_cases h : g = f
    · subst h
      rw [if_pos rfl, if_pos rfl]
      exact .cons rv r
    · have h3 : ¬ N.fld g = N.fld f := fun z => h (inj g (hb (g, d') List.mem_cons_self) z)
      rw [if_neg h3, if_neg h]
      exact .cons rw' (RF.put rv inj r fun q hq => hb q (List.mem_cons_of_mem _ hq))
theorem putFd_lt {f nf : Nat} {d : D} (hf : f < nf) : ∀ {fs : List (Nat × D)}, (∀ q ∈ fs, q.1 < nf) → ∀ q ∈ putFd f d fs, q.1 < nf
  | [], _, q, hq => by simp [putFd] at hq; subst hq; exact hf
  | (g, x) :: r, hb, q, hq => by
    unfold putFd at hq
    split at hq
    · rcases List.mem_cons.mp hq with rfl | hq
      · exact hb (g, x) List.mem_cons_self
      · exact hb q (List.mem_cons_of_mem _ hq)
    · rcases List.mem_cons.mp hq with rfl | hq
      · exact hb (g, x) List.mem_cons_self
      · exact putFd_lt hf (fun q hq => hb q (List.mem_cons_of_mem _ hq)) q hq
theorem the_ins {h : AH} {v : V} {d : D} {Q : Nat → Nat → List (Nat × D) → Prop} (rh : RH K N H m h) (rv : RV K H m v d) (q : instW h d Q) :
    ∃ n c fs a dx xs, d = .ref n ∧ v = .ref a ∧ m[n]? = some a ∧ h[n]? = some (.ins c fs) ∧ H a = some (.ins (N.cls c) dx xs) ∧ RF K H m N xs fs ∧ InsK K N c ∧ (∀ q ∈ fs, q.1 < N.nf) ∧ Q n c fs := by
  unfold instW at q
  split at q
  · rename_i n
    split at q
    · rename_i c fs e
      cases rv with
      | ref hm =>
        obtain ⟨dx, xs, h1, h2, h3, h4⟩ := rh.ob n _ _ hm e
        exact ⟨n, c, fs, _, dx, xs, rfl, rfl, hm, e, h1, h2, h3, h4, q⟩
    · exact q.elim
  · exact q.elim
end
section
variable {X : Cx} {nm : Nm} {G : Gi} {C : CT}
theorem att_ok {x : Expr} {n : Str} {env : Env} (h : notCall x = true) : attributeBase x n env (eval x env) = eval x env := by
  cases x <;> first | rfl | (cases h; done)
theorem Ct.inj (k : Ct X nm G C) {f : Nat} {n : Str} {c : Nat} (hf : G.fl[f]? = some n) (i : InsK X.K nm c) : f < nm.nf ∧ ∀ g, g < nm.nf → nm.fld g = nm.fld f → g = f := by
  have h1 : f < nm.nf := by rw [k.flk.1]; exact (List.getElem?_eq_some_iff.mp hf).1
  exact ⟨h1, fun g hg e => i.inj g f hg h1 e⟩
theorem de_attr {a : M} {f : Nat} {x : Expr} {n : Str} {pos : Pos} (k : Ct X nm G C) (ha : DE X nm x (wE C a)) (hf : G.fl[f]? = some n) (hc : notCall x = true) : DE X nm (.Attribute x n pos) (wE C (.attr a f)) := by
  refine PE.imp (pe_fld ha (att_ok hc)) fun σ H Q q => ?_
  obtain ⟨sa, m, h, Qa, Ea, rs, rh, w, tk, fin⟩ := q
  simp only [wE] at w
  refine ⟨sa, m, h, _, Ea, rs, rh, w, tk, fun v H1 m1 d h1 rv rh1 ex1 q1 => ?_⟩
  obtain ⟨n', c, fs, a', dx, xs, rfl, rfl, hm, e, eH, rf, ik, hb, d', hd, q2⟩ := the_ins rh1 rv q1
  obtain ⟨hlt, inj⟩ := k.inj hf ik
  obtain ⟨v', hv, rv'⟩ := rf.get inj hb hd
  have e2 := k.flk.2 f n hf
  have no := ik.no f hlt
  rw [e2] at hv no
  exact ⟨a', _, dx, xs, v', rfl, eH, ik.cls, no, hv, fin _ _ _ _ _ rv' rh1 ex1 q2⟩
theorem de_meth {tb : List (Nat × Nat)} {o as : M} {x : Expr} {n : Str} {es : List Expr} {p pos : Pos} (k : Ct X nm G C) (ho : DE X nm x (wE C o)) (ha : PA X es (LA X nm (wA C as))) (hc : notCall x = true) (htb : ∀ c f, tb.lookup c = some f → (c, f, n) ∈ G.mt) (hn : n ∉ G.fl)
    (hfew : ((backTo pos (starEach es X.env)).all (fun x => !x.1) && (backToKw pos (keywordEach [] X.env)).all (fun x => x.1.isSome) && decide (es.length + ([] : List Keyword).length + (if ([] : List Keyword).isEmpty then 0 else 1) < 30)) = true)
    (hline : (p.endLine == pos.line) = true) (has : es = [] → as = .nil) (hst : ∀ e es', es = e :: es' → starEach (e :: es') X.env = (false, eval e X.env) :: starEach es' X.env ∧ (backTo pos (starEach es' X.env)).any (·.1) = false) :
    DE X nm (.Call (.Attribute x n p) es [] pos) (wE C (.meth tb o as)) := by
  refine ⟨fun pins s σ H Q I q => ?_⟩
  obtain ⟨sa, m, h, Qa, Ea, rs, rh, w, tk, fin⟩ := q
  simp only [wE] at w
  rw [arm_eval_Call, att_ok hc]
  refine wpAny_bind (thn (ho.run pins s σ H (fun v H1 => ∃ m1 d h1, RV X.K H1 m1 v d ∧ RH X.K nm H1 m1 h1 ∧ Ext H m H1 m1 ∧ instW h1 d fun _ c _ => ∃ f, tb.lookup c = some f ∧ wA C as sa h1 (fun ds h2 => C f (d :: ds) h2 Qa fun x h' => Ea x sa h') Ea) I
    ⟨sa, m, h, _, Ea, rs, rh, w, tk, fun v H1 m1 d h1 rv rh1 ex1 q1 => ⟨m1, d, h1, rv, rh1, ex1, q1⟩⟩) fun u s1 ⟨xv, H1, I1, r1, m1, d, h1, rv, rh1, ex1, q1⟩ => ?_)
  obtain ⟨n', c, fs, a', dx, xs, rfl, rfl, hm, e, eH, rf, ik, hb, f, hf, q2⟩ := the_ins rh1 rv q1
  obtain rfl : u = Value.ref a' := r1
  obtain ⟨fa, fd, ps, lv, F, hr, cls, me, bi⟩ := k.mt _ (htb c f hf)
  have hno : xs.lookup n = none := rf.non fun q hq e2 => by
    have hlt := hb q hq
    rw [k.flk.1] at hlt
    obtain ⟨z, hz⟩ : ∃ z, G.fl[q.1]? = some z := ⟨_, List.getElem?_eq_getElem hlt⟩
    rw [k.flk.2 _ _ hz] at e2
    subst e2
    exact hn (List.mem_of_getElem? hz)
  refine wpAny_bind (wpAny_standAt ?_)
  have hform : methodCallForm (es.length + ([] : List Keyword).length) (backTo pos (starEach es X.env)) (backToKw pos (keywordEach [] X.env)) = true := hfew
  have hpos : methodCallPos true x X.env p pos = pure pos := by unfold methodCallPos; simp [hline]
  unfold methodCall
  rw [hform]
  refine wpAny_bind (wpAny_holding (getmeth_ok I1 eH cls me hno ?_))
  refine wpAny_bind (wpAny_of_eq hpos ?_)
  have fin2 : ∀ {us : List Value} {s2 : Shared} {vs : List V} {H2 : Hp} {m2 : List Addr} {ds : List D} {h2 : AH}, L2.Inv X pins σ H2 s2 → Vals vs us → RVs X.K H2 m2 vs ds → RH X.K nm H2 m2 h2 → Ext H1 m1 H2 m2 → C f (.ref n' :: ds) h2 Qa (fun x h' => Ea x sa h') →
      wpAny (model X.prog X.w) X.A (call (.ref fa) (.ref a' :: us)) (EP X pins σ Q) X.xe s2 := by
    intro us s2 vs H2 m2 ds h2 I2 r2 rvs rh2 ex2 q3
    have rv2 : RV X.K H2 m2 (.ref a') (.ref n') := (RV.ref hm).ext ex2
    have sp : spC X.K nm C f (.ref a' :: vs) H2 Q (fun cls d H' => ∃ x m' h', RX X.K nm H' m' cls d x ∧ RH X.K nm H' m' h' ∧ Ext H2 m2 H' m' ∧ Ea x sa h') :=
      ⟨.ref n' :: ds, m2, h2, Qa, _, .cons rv2 rvs, rh2, q3, fun v H' m' d h' rv rh' ex q => fin v H' m' d h' rv rh' ((ex1.trans ex2).trans ex) q, fun cls dx x H' m' h' rx rh' ex q => ⟨x, m', h', rx, rh', ex, q⟩⟩
    have r3 : Vals (V.ref a' :: vs) (Value.ref a' :: us) := .cons rfl r2
    have hl : (Value.ref a' :: us).length = ps.length := by
      rw [← r3.length]
      exact F.len _ _ _ _ sp
    refine wpAny_call (codeAny_mono (F.run X.A X.stack s2 H2 ⟨.ref a' :: us, []⟩ (.ref a' :: us) (.ref a' :: vs) Q _ k.gd hr I2.env0 (by simpa using bi s2 (.ref a' :: us) I2.kIn (by simpa using hl)) r3 sp) fun r s' hq => ?_)
    cases r with
    | error e =>
      refine tk e s' (XE.of_call I2 (W := LW X.K nm H m Ea) (fun cls d H' ⟨x, m', h', rx, rh', ex, q⟩ => ?_) hq)
      exact ⟨x, sa, m', h', rx, ((rs.ext ex1).ext ex2).ext ex, rh', (ex1.trans ex2).trans ex, q⟩
    | ok fl =>
      cases fl with
      | ret u => exact I2.after hq
      | next => exact False.elim hq
      | brk => exact False.elim hq
      | cont => exact False.elim hq
  cases es with
  | nil =>
    refine PySem.W.callWith_K0 (first := [.ref a']) I1.kIn me.kp ?_
    obtain rfl := has rfl
    simp only [wA] at q2
    exact fin2 (us := []) I1 .nil .nil rh1 .refl q2
  | cons e0 es' =>
    obtain ⟨he, hpl⟩ := hst e0 es' rfl
    refine PySem.W.callWith_K (first := [.ref a']) (h₀ := X.base) I1.ok.mod.kin me.kp (thn (ha.run pos pins s1 σ H1 (fun vs H2 => ∃ m2 ds h2, RVs X.K H2 m2 vs ds ∧ RH X.K nm H2 m2 h2 ∧ Ext H1 m1 H2 m2 ∧ C f (.ref n' :: ds) h2 Qa fun x h' => Ea x sa h') I1
      ⟨sa, m1, h1, _, Ea, rs.ext ex1, rh1, q2, tk_ext tk ex1, fun vs H2 m2 ds h2 rvs rh2 ex2 q3 => ⟨m2, ds, h2, rvs, rh2, ex2, q3⟩⟩) fun us s2 ⟨vs, H2, I2, r2, m2, ds, h2, rvs, rh2, ex2, q3⟩ => ⟨I2.kIn, ?_⟩) he hpl
    exact fin2 I2 r2 rvs rh2 ex2 q3
theorem make_gd {A : Around} {c : Addr} {us : List Value} {kw : List (Str × Value)} (h : A.guards = some []) : (A.under (.builtin "type.__call__" ⟨.ref c :: us, kw⟩)).guards = some [] := by
  simp [Around.under, h, Code.guards, Code.isGuard, guardIds, pushGuards]
theorem de_make {c f : Nat} {as : M} {x y : Str} {es : List Expr} {p pos : Pos} (k : Ct X nm G C) (hcl : G.cl[c]? = some y) (hn : nameB X.env.scope y x = true) (hmk : (c, f) ∈ G.mks) (ha : PA X es (LA X nm (wA C as))) (has : es = [] → as = .nil)
    (hst : ∀ e es', es = e :: es' → starEach (e :: es') X.env = (false, eval e X.env) :: starEach es' X.env ∧ (backTo pos (starEach es' X.env)).any (·.1) = false) :
    DE X nm (.Call (.Name x p) es [] pos) (wE C (.make c f as)) := by
  obtain ⟨rfl, hg, ho⟩ := nameB_ok hn
  obtain ⟨hdb, _, _⟩ := okN_d ho
  obtain ⟨fa, fd, ps, lv, F, hr, mk, bi, ik⟩ := k.mks _ hmk
  have hm := k.clg c _ hcl
  -- what is told at the arguments' end
  have key : ∀ {m : List Addr} {Qa : QD} {Ea : EK} {Q : VK} {sa : Sa} {H1 : Hp} {m1 : List Addr} {vs : List V} {ds : List D} {h1 : AH}, RVs X.K H1 m1 vs ds → RH X.K nm H1 m1 h1 →
      (∀ v H' m' d h', RV X.K H' m' v d → RH X.K nm H' m' h' → Ext H1 m1 H' m' → Qa d h' → Q v H') → C f (.ref h1.length :: ds) (h1 ++ [.ins c []]) (fun v h2 => v = .non ∧ Qa (.ref h1.length) h2) (fun x h' => Ea x sa h') →
      ∀ a dx, H1 a = none → H1 dx = none → dx ≠ a → spC X.K nm C f (.ref a :: (vs ++ [])) (upd (upd H1 dx (.own a)) a (.ins (nm.cls c) dx [])) (fun v H2 => v = .non ∧ Q (.ref a) H2) (fun cls d H' => ∃ x m' h', RX X.K nm H' m' cls d x ∧ RH X.K nm H' m' h' ∧ Ext H1 m1 H' m' ∧ Ea x sa h') := by
    intro m Qa Ea Q sa H1 m1 vs ds h1 rvs rh1 fin q a dx na nd ne
    have e1 : Ext H1 m1 (upd H1 dx (.own a)) m1 := Ext.upd nd
    have rh2 := rh1.upd (o := .own a) nd
    have na2 : (upd H1 dx (.own a)) a = none := by rw [upd_ne (Ne.symm ne)]; exact na
    have rh3 : RH X.K nm (upd (upd H1 dx (.own a)) a (.ins (nm.cls c) dx [])) (m1 ++ [a]) (h1 ++ [.ins c []]) := rh2.new na2 ⟨(fun _ z => nomatch z), (fun _ _ _ z => nomatch z)⟩ ⟨dx, [], upd_same, .nil, ik, by simp⟩
    have e2 : Ext (upd H1 dx (.own a)) m1 (upd (upd H1 dx (.own a)) a (.ins (nm.cls c) dx [])) (m1 ++ [a]) := Ext.new na2
    have e3 := e1.trans e2
    have hlen : (m1 ++ [a])[h1.length]? = some a := by rw [← rh1.len]; simp
    refine ⟨.ref h1.length :: ds, m1 ++ [a], _, _, _, .cons (.ref hlen) (by rw [List.append_nil]; exact rvs.ext e3), rh3, q, fun v H' m' d h' rv rh' ex ⟨e, q⟩ => ?_, fun cls dx x H' m' h' rx rh' ex q => ⟨x, m', h', rx, rh', e3.trans ex, q⟩⟩
    subst e
    cases rv
    exact ⟨rfl, fin _ _ _ _ _ (.ref (ex.get hlen)) rh' (e3.trans ex) q⟩
  refine ⟨fun pins s σ H Q I q => ?_⟩
  obtain ⟨sa, m, h, Qa, Ea, rs, rh, w, tk, fin⟩ := q
  simp only [wE] at w
  refine wpAny_Call_Name_kw (ld_glob I hg hm ?_ hdb)
  have run : ∀ {us : List Value} {s1 : Shared} {vs : List V} {H1 : Hp} {m1 : List Addr} {ds : List D} {h1 : AH}, L2.Inv X pins σ H1 s1 → Vals vs us → RVs X.K H1 m1 vs ds → RH X.K nm H1 m1 h1 → Ext H m H1 m1 → C f (.ref h1.length :: ds) (h1 ++ [.ins c []]) (fun v h2 => v = .non ∧ Qa (.ref h1.length) h2) (fun x h' => Ea x sa h') →
      wpAny (model X.prog X.w) X.A (call (.ref (nm.cls c)) us) (EP X pins σ Q) X.xe s1 := by
    intro us s1 vs H1 m1 ds h1 I1 r1 rvs rh1 ex1 q1
    have hsp := key (m := m1) (Q := Q) rvs rh1 (fun v H' m' d h' rv rh' ex q => fin _ _ _ _ _ rv rh' (ex1.trans ex) q) q1
    have hq := hsp (s1.heap.objs.size + 1) s1.heap.objs.size (I1.hok.fresh (Nat.le_succ _)) (I1.hok.fresh (Nat.le_refl _)) (Nat.ne_of_lt (Nat.lt_succ_self _))
    have I2 := Inv.made (C := nm.cls c) I1
    have r2 : Vals (V.ref (s1.heap.objs.size + 1) :: (vs ++ [])) (Value.ref (s1.heap.objs.size + 1) :: us) := .cons rfl (by rw [List.append_nil]; exact r1)
    have hl : (Value.ref (s1.heap.objs.size + 1) :: us).length = ps.length := by
      rw [← r2.length]
      exact F.len _ _ _ _ hq
    refine wpAny_call (make_map (f := fa) I1.kIn mk.makes mk.init (beq_iff_eq.mp mk.fn) (codeAny_mono (F.run _ X.stack _ _ ⟨Value.ref (s1.heap.objs.size + 1) :: us, []⟩ (Value.ref (s1.heap.objs.size + 1) :: us) _ _ _ (make_gd k.gd) (hr.make (nm.cls c) us [])
      (I2.env0.make (nm.cls c) us []) (by simpa using bi _ (Value.ref (s1.heap.objs.size + 1) :: us) I2.kIn (by simpa using hl)) r2 hq) fun r s' hq' => ?_))
    cases r with
    | error e =>
      refine tk e s' (XE.of_call I2 (W := LW X.K nm H m Ea) (fun cls d H' ⟨x, m', h', rx, rh', ex, q⟩ => ?_) hq')
      exact ⟨x, sa, m', h', rx, (rs.ext ex1).ext ex, rh', ex1.trans ex, q⟩
    | ok fl =>
      cases fl with
      | ret u =>
        obtain ⟨v, H', I3, rv, ev, q3⟩ := I2.after hq'
        subst ev
        exact ⟨rv, ⟨V.ref (s1.heap.objs.size + 1), H', I3, rfl, q3⟩⟩
      | next => exact False.elim hq'
      | brk => exact False.elim hq'
      | cont => exact False.elim hq'
  cases es with
  | nil =>
    obtain rfl := has rfl
    simp only [wA] at w
    exact PySem.W.callWith_K0 I.kIn mk.kp (run (us := []) I .nil .nil rh .refl w)
  | cons e0 es' =>
    obtain ⟨he, hpl⟩ := hst e0 es' rfl
    refine PySem.W.callWith_K (h₀ := X.base) I.ok.mod.kin mk.kp (thn (ha.run pos pins s σ H (fun vs H1 => ∃ m1 ds h1, RVs X.K H1 m1 vs ds ∧ RH X.K nm H1 m1 h1 ∧ Ext H m H1 m1 ∧ C f (.ref h1.length :: ds) (h1 ++ [.ins c []]) (fun v h2 => v = .non ∧ Qa (.ref h1.length) h2) (fun x h' => Ea x sa h')) I
      ⟨sa, m, h, _, Ea, rs, rh, w, tk, fun vs H1 m1 ds h1 rvs rh1 ex1 q1 => ⟨m1, ds, h1, rvs, rh1, ex1, q1⟩⟩) fun us s1 ⟨vs, H1, I1, r1, m1, ds, h1, rvs, rh1, ex1, q1⟩ => ⟨I1.kIn, ?_⟩) he hpl
    exact run I1 r1 rvs rh1 ex1 q1
theorem ds_setA {o e : M} {f : Nat} {x v : Expr} {n : Str} {p pos : Pos} (k : Ct X nm G C) (ho : DE X nm x (wE C o)) (he : DE X nm v (wE C e)) (hf : G.fl[f]? = some n) (hc : noComp v = true) : PS X (.Assign [.Attribute x n p] v pos) (LS X nm (wS C (.setA o f e))) := by
  refine PS.imp (ps_fld ho he (noComp_sw hc _ _ _)) fun D σ H q => ?_
  obtain ⟨sa, m, h, Z, Ea, rs, rh, w, tk, l⟩ := q
  simp only [wS] at w
  refine ⟨sa, m, h, _, Ea, rs, rh, w, tk, fun y H1 m1 d1 h1 rv1 rh1 ex1 q1 => ⟨sa, m1, h1, _, Ea, rs.ext ex1, rh1, q1, tk_ext tk ex1, fun z H2 m2 d2 h2 rv2 rh2 ex2 q2 => ?_⟩⟩
  obtain ⟨n', c, fs, a', dx, xs, rfl, rfl, hm, e0, eH, rf, ik, hb, hl, q3⟩ := the_ins rh2 rv2 q2
  obtain ⟨hlt, inj⟩ := k.inj hf ik
  have e2 := k.flk.2 f n hf
  have no := ik.no f hlt
  rw [e2] at no
  have rf2 := rf.put (rv1.ext ex2) inj hb
  rw [e2] at rf2
  have wr := rh2.write (o := .ins (nm.cls c) dx (putF n y xs)) (ao := .ins c (putFd f d1 fs)) hm (fun ob w z => by rw [eH] at z; cases z) ⟨(fun _ z => nomatch z), (fun _ _ _ z => nomatch z)⟩
    ⟨dx, _, upd_same, rf2.ext (Ext.write (List.mem_of_getElem? hm) eH (fun _ z => nomatch z) (fun _ _ z => nomatch z)), ik, putFd_lt hlt hb⟩
  exact ⟨a', _, dx, xs, rfl, eH, ik.cls, no, by rw [rf.len]; exact hl, l.nx _ _ _ _ _ (((rs.ext ex1).ext ex2).ext wr.2) wr.1 ((ex1.trans ex2).trans wr.2) q3⟩
def augI (op : Bop) (i j : Int) : Int := match op with
  | .add => i + j
  | _ => i - j
theorem ds_augA {o e : M} {f : Nat} {op : Bop} {x v : Expr} {n : Str} {p pos : Pos} (k : Ct X nm G C) (ho : DE X nm x (wE C o)) (he : DE X nm v (wE C e)) (hf : G.fl[f]? = some n) (hop : op = .add ∨ op = .sub) : PS X (.AugAssign (.Attribute x n p) op.op v pos) (LS X nm (wS C (.augA o f op e))) := by
  have main : ∀ {rd : V → V → Hp → VK → Prop}, (∀ i j H Q, rd (.int i) (.int j) H Q = Q (.int (augI op i j)) H) → InOp X op.op rd → PS X (.AugAssign (.Attribute x n p) op.op v pos) (LS X nm (wS C (.augA o f op e))) := by
    intro rd hrd hin
    refine PS.imp (ps_fldaug ho he hin) fun D σ H q => ?_
    obtain ⟨sa, m, h, Z, Ea, rs, rh, w, tk, l⟩ := q
    simp only [wS] at w
    refine ⟨sa, m, h, _, Ea, rs, rh, w, tk, fun y H1 m1 d1 h1 rv1 rh1 ex1 q1 => ?_⟩
    obtain ⟨n', c, fs, a', dx, xs, rfl, rfl, hm, e0, eH, rf, ik, hb, d, hd, q2⟩ := the_ins rh1 rv1 q1
    obtain ⟨hlt, inj⟩ := k.inj hf ik
    have e2 := k.flk.2 f n hf
    have no := ik.no f hlt
    obtain ⟨v', hv, rv'⟩ := rf.get inj hb hd
    rw [e2] at no hv
    refine ⟨a', _, dx, xs, v', rfl, eH, ik.cls, no, hv, sa, m1, h1, _, Ea, rs.ext ex1, rh1, q2, tk_ext tk ex1, fun z H2 m2 d2 h2 rv2 rh2 ex2 q3 => ?_⟩
    obtain ⟨⟨i, j, rfl, rfl⟩, q3⟩ := q3
    cases rv'
    cases rv2
    rw [hrd]
    have q4 : instW h2 (.ref n') fun _ c' fs' => c' = c ∧ fs'.length < 1000 ∧ Z.nx sa (h2.set n' (.ins c (putFd f (.int (augI op i j)) fs'))) := by
      rcases hop with rfl | rfl <;> simpa only [bopW, augI] using q3
    obtain ⟨n3, c', fs', a3, dx', xs', en, ea, hm3, e3, eH3, rf3, ik3, hb3, ec, hl3, q5⟩ := the_ins rh2 ((RV.ref hm).ext ex2) q4
    cases en
    cases ea
    subst ec
    have rf2 := rf3.put (RV.int (augI op i j)) inj hb3
    rw [e2] at rf2
    have wr := rh2.write (o := .ins (nm.cls c') dx' (putF n (.int (augI op i j)) xs')) (ao := .ins c' (putFd f (.int (augI op i j)) fs')) hm3 (fun ob w z => by rw [eH3] at z; cases z) ⟨(fun _ z => nomatch z), (fun _ _ _ z => nomatch z)⟩
      ⟨dx', _, upd_same, rf2.ext (Ext.write (List.mem_of_getElem? hm3) eH3 (fun _ z => nomatch z) (fun _ _ z => nomatch z)), ik3, putFd_lt hlt hb3⟩
    exact ⟨dx', xs', eH3, by rw [rf3.len]; exact hl3, l.nx _ _ _ _ _ (((rs.ext ex1).ext ex2).ext wr.2) wr.1 ((ex1.trans ex2).trans wr.2) q5⟩
  rcases hop with rfl | rfl
  · exact main (rd := rAdd) (fun i j H Q => by simp [rAdd, augI]) in_add
  · exact main (rd := rSub) (fun i j H Q => by simp [rSub, augI]) in_sub
end
end Rf
namespace Rf
open PySem PySem.Spec PyProof.Rows L2
def rdB (σ : L2.St) (j : Nat) : Option Bool := match σ[j]? with
  | some (some (.bl b)) => some b
  | _ => none
def RXd (K : PySem.W.Frag) (nm : Nm) (H : Hp) (m : List Addr) (d : Option Addr) (x : Exc) : Prop :=
  (x.fs = [] ∧ d = none) ∨ (x.fs ≠ [] ∧ ∃ dx fs, d = some dx ∧ dx ∉ m ∧ H dx = some (.xd fs) ∧ RF K H m nm fs x.fs)
theorem RXd.dOk {K : PySem.W.Frag} {nm : Nm} {H : Hp} {m : List Addr} {d : Option Addr} {x : Exc} (h : RXd K nm H m d x) : dOk H d := by
  rcases h with ⟨_, e⟩ | ⟨_, dx, fs, e, _, h, _⟩ <;> intro dd z <;> rw [e] at z <;> cases z
  exact ⟨fs, h⟩
def tX (nm : Nm) (sb : Sb) (x : Exc) (i : Nat) (a : Addr) (d : Option Addr) : XE → TE
  | .fld f => fun σ H Q => σ[i]? = some (some (.ref a)) ∧ ∃ dd fs v, d = some dd ∧ H dd = some (.xd fs) ∧ fs.lookup (nm.fld f) = some v ∧ Q v H
  | .tfld f => fun σ H Q => σ[i]? = some (some (.ref a)) ∧ ∃ dd fs v, d = some dd ∧ H dd = some (.xd fs) ∧ fs.lookup (nm.fld f) = some v ∧ ∀ p its, H p = none → Q (.ref p) (L2.upd H p (.frz (tO its) (.tup [v])))
  | .intx e => fun σ H Q => σ[i]? = some (some (.ref a)) ∧ dOk H d ∧ ∃ b, evX sb x.cls (rdB σ) e = some b ∧ ∀ H', Gr H H' → Q (.int (if b then 1 else 0)) H'
  | e => fun σ H Q => σ[i]? = some (some (.ref a)) ∧ dOk H d ∧ ∃ b, evX sb x.cls (rdB σ) e = some b ∧ ∀ H', Gr H H' → Q (.bl b) H'
theorem Gr.dOk {H H' : Hp} {d : Option Addr} (g : Gr H H') (h : dOk H d) : dOk H' d := by
  induction g with
  | refl => exact h
  | upd _ hp ih =>
    intro dd e
    obtain ⟨fs, q⟩ := ih dd e
    exact ⟨fs, by rw [upd_ne (ne_of_none q hp)]; exact q⟩
theorem inst_at {X : Cx} {a D : Addr} {oe : Obj} {d : Option Addr} {pins : List (Addr × Obj)} {σ : L2.St} {H : Hp} {s : Shared} (hpn : (a, oe) ∈ X.pn) (hz : Zc (.ref D) d oe) (hf : ∃ vs, oe.data = .fields vs) (I : L2.Inv X pins σ H s) (hd : dOk H d) :
    ∃ od, PySem.W.InstAt s.heap a oe D od := by
  obtain ⟨hget, _⟩ := I.pin (a, oe) (List.mem_append.mpr (.inl hpn))
  obtain ⟨vs, hv⟩ := hf
  obtain ⟨oc, od, oda, osl⟩ := oe
  obtain ⟨h1, h2⟩ := hz
  dsimp only at h1 h2 hv
  subst h1 h2 hv
  cases od with
  | none => exact ⟨none, hget, rfl, rfl, trivial⟩
  | some dd =>
    obtain ⟨fs, q⟩ := hd dd rfl
    obtain ⟨mA, hns, _⟩ := (show ObjOk X.prog X.w H s.heap dd (.xd fs) from I.hok dd _ q)
    obtain ⟨od, ho, _⟩ := lookIn_ns hns
    exact ⟨some od, hget, rfl, rfl, ho⟩
theorem kitx_of {K : PySem.W.Frag} {D x : Addr} {ox : Obj} {od : Option Obj} (C : ExcC K D) : PySem.W.KitX K (.ref x) (.ref D) (fun h => PySem.W.InstAt h x ox D od) :=
  PySem.W.kitx_exc (by obtain ⟨cd, h, _⟩ := PySem.W.any_some C.hd; rw [h]; rfl) C.hg C.hk C.hs C.ha C.hn C.ht C.hm
def rIsE' (K : PySem.W.Frag) (D a : Addr) (d : Option Addr) : List V → Hp → VK → Prop := fun xs H Q => ∃ (c : V) (cv : Value) (b : Bool), xs = [.ref a, c] ∧ dOk H d ∧ (∀ u, RelV c u → u = cv) ∧ PySem.W.kitOne K (.ref D) cv = some b ∧ Q (.bl b) H
theorem call_isE'p {X : Cx} {a D : Addr} {oe : Obj} {d : Option Addr} (hpn : (a, oe) ∈ X.pn) (C : ExcC X.K D) (hz : Zc (.ref D) d oe) (hf : ∃ vs, oe.data = .fields vs) : CallR X (.builtin "isinstance") (rIsE' X.K D a d) := by
  intro pins s σ H xs us Q I r h
  obtain ⟨c, cv, b, rfl, hd, hcv, e, q⟩ := h
  obtain ⟨u1, u2, rfl, r1, r2⟩ := vals2 r
  cases (show u1 = Value.ref a from r1)
  have ec := hcv _ r2
  subst ec
  obtain ⟨od, J⟩ := inst_at hpn hz hf I hd
  exact PySem.W.kia_one (kitx_of C) I.kIn J e (fun z => nomatch z) fun tk => ⟨.bl b, H, I.kept (t' := tk) fun _ _ z => z, rfl, q⟩
def rIsET (K : PySem.W.Frag) (D a : Addr) (d : Option Addr) : List V → Hp → VK → Prop := fun xs H Q => ∃ (tp : Addr) (cs : List V) (us : List Value) (b : Bool), xs = [.ref a, .ref tp] ∧ dOk H d ∧ H tp = some (.tup cs) ∧ (∀ vs, Vals cs vs → vs = us) ∧ PySem.W.kitAny K (.ref D) us = some b ∧ Q (.bl b) H
theorem call_isETp {X : Cx} {a D : Addr} {oe : Obj} {d : Option Addr} (hpn : (a, oe) ∈ X.pn) (C : ExcC X.K D) (hz : Zc (.ref D) d oe) (hf : ∃ vs, oe.data = .fields vs) : CallR X (.builtin "isinstance") (rIsET X.K D a d) := by
  intro pins s σ H xs us Q I r h
  obtain ⟨tp, cs, ws, b, rfl, hd, hT, hcv, e, q⟩ := h
  obtain ⟨u1, u2, rfl, r1, r2⟩ := vals2 r
  cases (show u2 = Value.ref tp from r2)
  cases (show u1 = Value.ref a from r1)
  obtain ⟨od, J⟩ := inst_at hpn hz hf I hd
  obtain ⟨_, its, rv, o, h1, h2, n, h3⟩ := (show ObjOk X.prog X.w H s.heap tp (.tup cs) from I.hok tp _ hT)
  have e3 := hcv _ rv
  subst e3
  obtain ⟨oc, od, dt, sl⟩ := o
  simp only at h2 h3
  subst h2 h3
  exact PySem.W.kia_tup (kitx_of C) I.kIn J h1 e (fun z => nomatch z) fun tk => ⟨.bl b, H, I.tok tk, rfl, q⟩
theorem call_isE' {X : Cx} {a D : Addr} {oe : Obj} {d : Option Addr} {pn : List (Addr × Obj)} (C : ExcC X.K D) (hz : Zc (.ref D) d oe) (hf : ∃ vs, oe.data = .fields vs) : CallR (X.suite a ((a, oe) :: pn)) (.builtin "isinstance") (rIsE' X.K D a d) := call_isE'p List.mem_cons_self C hz hf
theorem call_isET {X : Cx} {a D : Addr} {oe : Obj} {d : Option Addr} {pn : List (Addr × Obj)} (C : ExcC X.K D) (hz : Zc (.ref D) d oe) (hf : ∃ vs, oe.data = .fields vs) : CallR (X.suite a ((a, oe) :: pn)) (.builtin "isinstance") (rIsET X.K D a d) := call_isETp List.mem_cons_self C hz hf
structure XOk (X : Cx) (nm : Nm) (G : Gi) (sb : Sb) (c0 : Nat) (x : Exc) (a : Addr) (d : Option Addr) : Prop where
  ins : X.mg (Str.ofString "isinstance") = none
  ve : X.mg (Str.ofString "ValueError") = none
  int : X.mg (Str.ofString "int") = none
  cls : ∀ (c : Nat) (y : Str), G.cl[c]? = some y → X.mg y = some (.ref (nm.cls c))
  one : ∀ c b, sbL sb x.cls c = some b → PySem.W.kitOne X.K (.ref (nm.cls x.cls)) (.ref (nm.cls c)) = some b
  vat : PySem.W.kitOne X.K (.ref (nm.cls x.cls)) (.type "ValueError") = some true
  c1 : CallR X (.builtin "isinstance") (rIsE' X.K (nm.cls x.cls) a d)
  c2 : CallR X (.builtin "isinstance") (rIsET X.K (nm.cls x.cls) a d)
  fd : ∀ (f : Nat) (n : Str), G.fl[f]? = some n → lowB G c0 f = true → nm.fld f = n ∧ ∀ {e : Expr} {te : TE} {pos : Pos}, (attributeBase e n X.env (eval e X.env) = eval e X.env) → PE X e te → PE X (.Attribute e n pos) (tXf a (.ref (nm.cls x.cls)) d (nm.cls x.cls) n te)
  fd2 : ∀ (f : Nat) (n : Str), G.fl[f]? = some n → (G.lx.any fun l => l.1 == x.cls && l.2.1 == f) = true → nm.fld f = n ∧ ∀ {e : Expr} {te : TE} {pos : Pos}, (attributeBase e n X.env (eval e X.env) = eval e X.env) → PE X e te → PE X (.Attribute e n pos) (tXf a (.ref (nm.cls x.cls)) d (nm.cls x.cls) n te)
theorem kitAny_of {K : PySem.W.Frag} {D : Addr} {nm : Nm} {sb : Sb} {xc : Nat} (one : ∀ c b, sbL sb xc c = some b → PySem.W.kitOne K (.ref D) (.ref (nm.cls c)) = some b) : ∀ {cs : List Nat} {b : Bool}, anyO (cs.map (sbL sb xc)) = some b → PySem.W.kitAny K (.ref D) (cs.map fun c => Value.ref (nm.cls c)) = some b
  | [], b, h => by simpa [anyO, PySem.W.kitAny] using h
  | c :: cs, b, h => by
    rw [List.map_cons] at h ⊢
    cases e : sbL sb xc c with
    | none => rw [e] at h; simp [anyO] at h
    | some d =>
      rw [e] at h
      have o := one c d e
      cases d with
      | true => simp [anyO] at h; subst h; simp [PySem.W.kitAny, o]
      | false =>
        simp only [anyO] at h
        have := kitAny_of one h
        simp [PySem.W.kitAny, o, this]
section
variable {X : Cx} {nm : Nm} {G : Gi} {sb : Sb} {c0 i : Nat} {x : Exc} {a : Addr} {d : Option Addr}
theorem pe_slot {j : Nat} {y : Str} {p : Pos} (h : slotB X.N X.env.scope j y = true) : PE X (.Name y p) (tVar j) := by
  simp only [slotB, Bool.and_eq_true, decide_eq_true_eq] at h
  obtain ⟨o1, o2, o3⟩ := okN_d h.2.2
  exact pe_var h.1 (visB_ok h.2.1) o1 o2
theorem pe_cls (o : XOk X nm G sb c0 x a d) {c : Nat} {z : Str} {p : Pos} (h : (match G.cl[c]? with | some y => nameB X.env.scope y z | none => false) = true) : PE X (.Name z p) (tC (.ref (nm.cls c))) := by
  split at h
  · rename_i y hy
    obtain ⟨rfl, hg, ho⟩ := nameB_ok h
    obtain ⟨hdb, _, _⟩ := okN_d ho
    exact pe_glob hg (o.cls c _ hy) rfl hdb
  · cases h
theorem pa_cls (o : XOk X nm G sb c0 x a d) : ∀ {cs : List Nat} {es : List Expr}, cnB G X.env.scope cs es = true → PA X es (fun σ H Q => Q (cs.map fun c => V.ref (nm.cls c)) H)
  | [], [], _ => pa_nil
  | c :: cs, .Name x p :: es, h => by
    simp only [cnB, Bool.and_eq_true] at h
    exact pa_cons (pe_cls o h.1) (pa_cls o h.2) rfl
  | [], _ :: _, h => by simp [cnB] at h
  | _ :: _, [], h => by simp [cnB] at h
theorem cn_len {G : Gi} {sc : Scope} : ∀ {cs : List Nat} {es : List Expr}, cnB G sc cs es = true → cs.length = es.length
  | [], [], _ => rfl
  | c :: cs, .Name x p :: es, h => by
    simp only [cnB, Bool.and_eq_true] at h
    simp [cn_len h.2]
  | [], _ :: _, h => by simp [cnB] at h
  | _ :: _, [], h => by simp [cnB] at h
theorem vals_cls {nm : Nm} : ∀ {cs : List Nat} {vs : List Value}, Vals (cs.map fun c => V.ref (nm.cls c)) vs → vs = cs.map fun c => Value.ref (nm.cls c)
  | [], _, r => by cases r; rfl
  | c :: cs, _, r => by
    cases r with
    | cons q t =>
      cases (show _ = Value.ref (nm.cls c) from q)
      rw [vals_cls t]; rfl
theorem tX_of {e : XE} {σ : L2.St} {H : Hp} {Q : VK} {b : Bool} (h : σ[i]? = some (some (.ref a))) (hd : dOk H d) (e1 : evX sb x.cls (rdB σ) e = some b) (q : ∀ H', Gr H H' → Q (.bl b) H') : tX nm sb x i a d e σ H Q := by
  cases e <;> first | exact ⟨h, hd, b, e1, q⟩ | (simp [evX] at e1)
theorem fld_star {G : Gi} {N : List Str} {sc : Scope} {c0 f : Nat} {e : Expr} {env : Env} (h : fldB G N sc i c0 f e = true) : starEach (e :: []) env = (false, eval e env) :: starEach [] env := by
  unfold fldB at h
  split at h
  · rfl
  · cases h
theorem pe_fld (o : XOk X nm G sb c0 x a d) {f : Nat} {e : Expr} (h : fldB G X.N X.env.scope i c0 f e = true) : PE X e (tXf a (.ref (nm.cls x.cls)) d (nm.cls x.cls) (nm.fld f) (tVar i)) := by
  unfold fldB at h
  split at h
  · simp only [Bool.and_eq_true, decide_eq_true_eq] at h
    obtain ⟨h1, h2, h3⟩ := h
    obtain ⟨rfl, q⟩ := o.fd _ _ h2 h3
    exact q rfl (pe_slot h1)
  · cases h
theorem pe_x (o : XOk X nm G sb c0 x a d) : ∀ (e : XE) (ex : Expr), chkX G X.N X.env.scope i c0 e ex = true → PE X ex (tX nm sb x i a d e)
  | .var j, ex, h => by
    cases ex <;> first | (simp [chkX] at h; done) | skip
    simp only [chkX] at h
    refine PE.imp (pe_slot h) fun σ H Q q => ?_
    obtain ⟨_, _, b, e, q⟩ := q
    simp only [evX, rdB] at e
    split at e
    · rename_i b' e'
      cases e
      exact ⟨_, e', q _ .refl⟩
    · cases e
  | .isi c, ex, h => by
    simp only [chkX] at h
    split at h <;> first | (cases h; done) | skip
    simp only [Bool.and_eq_true] at h
    obtain ⟨h1, h2, h3⟩ := h
    obtain ⟨rfl, hg, ho⟩ := nameB_ok h1
    obtain ⟨hdb, _, hnn⟩ := okN_d ho
    refine PE.imp (pe_callB o.c1 hg o.ins (by decide +kernel) (pa_cons (pe_slot h2) (pa_cons (pe_cls o h3) pa_nil)) hnn hdb) fun σ H Q q => ?_
    obtain ⟨ha, hd, b, e, q⟩ := q
    exact ⟨_, ha, .ref (nm.cls c), .ref (nm.cls c), b, rfl, hd, fun u z => z, o.one c b e, q _ .refl⟩
  | .isv, ex, h => by
    simp only [chkX] at h
    split at h <;> first | (cases h; done) | skip
    rename_i f pf ev pe cn pc pos
    simp only [Bool.and_eq_true] at h
    obtain ⟨h1, h2, h3⟩ := h
    obtain ⟨rfl, hg, ho⟩ := nameB_ok h1
    obtain ⟨hdb, _, hnn⟩ := okN_d ho
    obtain ⟨rfl, hg2, ho2⟩ := nameB_ok h3
    obtain ⟨hdb2, _, hnn2⟩ := okN_d ho2
    have pv : PE X (.Name (Str.ofString "ValueError") pc) (tC (.ty "ValueError")) := pe_bltn hg2 o.ve (by decide +kernel) rfl hnn2 hdb2
    refine PE.imp (pe_callB o.c1 hg o.ins (by decide +kernel) (pa_cons (pe_slot h2) (pa_cons pv pa_nil)) hnn hdb) fun σ H Q q => ?_
    obtain ⟨ha, hd, b, e, q⟩ := q
    cases e
    exact ⟨_, ha, .ty "ValueError", .type "ValueError", true, rfl, hd, fun u z => z, o.vat, q _ .refl⟩
  | .isn cs, ex, h => by
    simp only [chkX] at h
    split at h <;> first | (cases h; done) | skip
    simp only [Bool.and_eq_true] at h
    obtain ⟨h1, h2, h3, h4⟩ := h
    obtain ⟨rfl, hg, ho⟩ := nameB_ok h1
    obtain ⟨hdb, _, hnn⟩ := okN_d ho
    have hz := cn_len h3
    refine PE.imp (pe_callB o.c2 hg o.ins (by decide +kernel) (pa_cons (pe_slot h2) (pa_cons (pe_tup (pa_cls o h3)) pa_nil)) hnn hdb) fun σ H Q q => ?_
    obtain ⟨ha, hd, b, e, q⟩ := q
    simp only [evX] at e
    refine ⟨_, ha, by rw [List.length_map, hz, ← SZ_line]; have := of_decide_eq_true h4; unfold SZ; omega, fun p hp => ⟨p, _, _, b, rfl, Gr.dOk (.upd .refl hp) hd, L2.upd_same, fun vs z => vals_cls z, kitAny_of o.one e, q _ (.upd .refl hp)⟩⟩
  | .and p q, ex, h => by
    simp only [chkX] at h
    split at h <;> first | (cases h; done) | skip
    simp only [Bool.and_eq_true] at h
    refine PE.imp (pe_and (pe_x o p _ h.1) (pe_one (pe_x o q _ h.2))) fun σ H Q z => ?_
    obtain ⟨ha, hd, b, e, z⟩ := z
    simp only [evX] at e
    split at e
    · rename_i e1
      exact tX_of ha hd e1 fun H1 g1 => ⟨true, rfl, by rw [if_pos rfl]; exact tX_of ha (g1.dOk hd) e fun H2 g2 => z H2 (g1.trans g2)⟩
    · rename_i e1
      cases e
      exact tX_of ha hd e1 fun H1 g1 => ⟨false, rfl, z H1 g1⟩
    · cases e
  | .not p, ex, h => by
    simp only [chkX] at h
    split at h <;> first | (cases h; done) | skip
    refine PE.imp (pe_not (pe_x o p _ h)) fun σ H Q z => ?_
    obtain ⟨ha, hd, b, e, z⟩ := z
    simp only [evX, Option.map_eq_some_iff] at e
    obtain ⟨c, e1, rfl⟩ := e
    exact tX_of ha hd e1 fun H1 g1 => ⟨c, rfl, z H1 g1⟩
  | .fld f, ex, h => by
    simp only [chkX] at h
    refine PE.imp (pe_fld o h) fun σ H Q z => ?_
    obtain ⟨ha, dd, fs, v, e1, e2, e3, z⟩ := z
    exact ⟨_, ha, rfl, rfl, dd, fs, v, e1, e2, e3, z⟩
  | .tfld f, ex, h => by
    simp only [chkX] at h
    split at h <;> first | (cases h; done) | skip
    refine PE.imp (pe_tupF (pa_cons (pe_fld o h) pa_nil (hs := fld_star h))) fun σ H Q z => ?_
    obtain ⟨ha, dd, fs, v, e1, e2, e3, z⟩ := z
    exact ⟨_, ha, rfl, rfl, dd, fs, v, e1, e2, e3, by simp [sizeLine_eq], z⟩
  | .intx p, ex, h => by
    simp only [chkX] at h
    split at h <;> first | (cases h; done) | skip
    rename_i f pf y pos
    simp only [Bool.and_eq_true] at h
    obtain ⟨h1, h2, h3⟩ := h
    obtain ⟨rfl, hg, ho⟩ := nameB_ok h1
    obtain ⟨hdb, _, hnn⟩ := okN_d ho
    have hst : starEach [y] X.env = (false, eval y X.env) :: starEach [] X.env := by cases y <;> first | rfl | (simp [isCall] at h2)
    refine PE.imp (pe_callTy L2.call_int1 hg o.int (by decide +kernel) (pa_cons (pe_x o p _ h3) pa_nil (hs := hst)) hnn hdb hst (by rfl)) fun σ H Q z => ?_
    obtain ⟨ha, hd, b, e, z⟩ := z
    exact tX_of ha hd e fun H1 g1 => .inr ⟨b, rfl, z H1 g1⟩
end
end Rf
namespace Rf
open PySem PySem.Spec PyProof.Rows L2
def wAsL (K : PySem.W.Frag) (i : Nat) (Wout : WX) (D : Ends) : List (Value × (Addr → Value → Option Addr → TS)) → WX
  | [] => Wout
  | (c, ts) :: r => fun cls d σ H => ∃ b, PySem.W.exmOne K cls c = some b ∧ (b = true → ∀ a, H a = none → ts a cls d { nx := fun σ' H' => D.nx (σ'.set i none) H', rt := D.rt, bk := fun σ' H' => D.bk (σ'.set i none) H', ct := fun σ' H' => D.ct (σ'.set i none) H' } (σ.set i (some (.ref a))) H) ∧ (b = false → wAsL K i Wout D r cls d σ H)
inductive HdsA (X : Cx) (n : Str) : List ExceptHandler → List (Value × (Addr → Value → Option Addr → TS)) → Prop
  | nil : HdsA X n [] []
  | cons {x : Str} {c : Value} {ts : Addr → Value → Option Addr → TS} {b₀ : Stmt} {suite : List Stmt} {np pos' : Pos} {hds : List ExceptHandler} {l : List (Value × (Addr → Value → Option Addr → TS))} (hc : Names X x c)
      (hsu : ∀ (a : Addr) (oe : Obj) (cls : Value) (d : Option Addr) (pn : List (Addr × Obj)), Zc cls d oe → (∃ vs, oe.data = .fields vs) → PSs (X.suite a ((a, oe) :: pn)) (b₀ :: suite) (ts a cls d)) (r : HdsA X n hds l) :
      HdsA X n (.ExceptHandler (some (.Name x np)) (some n) (b₀ :: suite) pos' :: hds) ((c, ts) :: l)
section
variable {X : Cx} {body : List Stmt} {h₀ : ExceptHandler} {hds : List ExceptHandler} {l : List (Value × (Addr → Value → Option Addr → TS))} {n : Str} {i : Nat} {pos : Pos} {tb : WX → TS} {Wout : WX}
theorem ps_try_asL (hs : X.stack = X.env :: X.outer) (hf : X.env.frame = some X.env.locals) (hN : X.N.Nodup) (hi : X.N[i]? = some n) (hln : X.env.kindOf n = some .local) (tk : Takes X Wout)
    (hb : ∀ (W : WX) (pn : List (Addr × Obj)) (xe : Value → Shared → Prop), Takes (X.tr pn xe) W → PassesOwn (model X.prog X.w) X.A X.env xe → PSs (X.tr pn xe) body (tb W))
    (hh : HdsA X n (h₀ :: hds) l) : PS X (.Try body (h₀ :: hds) [] [] pos) (fun D σ H => tb (wAsL X.K i Wout D l) D σ H) := by
  refine ⟨fun pins s σ H D I h => ?_⟩
  have ok := I.ok
  have hloc : Loc X.env.scope n := .inl hln
  have fr : X.A.frames = some (X.env :: X.outer) := by rw [ok.frames, hs]
  refine wpAny_Try_except ?_
  refine wpAny_mono ((hb (wAsL X.K i Wout D l) (X.pn ++ pins) (fun e s₁ => wpAny (model X.prog X.w) X.A (noteFrame e X.env) (fun _ s₂ => wpAny (model X.prog X.w) X.A (setFlight e none) (fun _ s₃ =>
    wpAny (model X.prog X.w) X.A (handleBy e X.env (h₀ :: hds)) (SP X pins D) X.xe s₃) X.xe s₂) X.xe s₁) (fun u s' xx => ?_) PassesOwn.looking).run [] s σ H D (I.toTry _) h) (fun f s1 z => ?_) (fun _ _ z => z)
  · obtain ⟨a, B, sI, pins', σ', H', cls, d, rfl, J', nb, up, sky, na, os, ag, w⟩ := xx
    have J : L2.Inv X pins σ' H' sI := J'.ofTry ok
    have sk : Sky B (X.env :: X.outer) a (Zc cls d) X.env.locals s'.heap := by rw [← hs]; exact sky
    show wpAny (model X.prog X.w) X.A (noteFrame (.ref a) X.env) _ _ _
    refine Sky.land Zc.steady fr hf sk fun h3 fl3 up3 => ?_
    have J3 : L2.Inv X pins σ' H' { s' with heap := h3 } := J.landed nb fl3.1 (up.trans up3) os ag
    obtain ⟨oe3, vs3, he3, hz3, hd3⟩ := fl3.there
    have nfr : a ∉ frs (X.env :: X.outer) := fun hm => by
      obtain ⟨_, o', e', hnf⟩ := fl3.2.2.1.mem hm
      rw [he3] at e'
      cases e'
      exact hnf _ hd3
    have nL : a ≠ X.env.locals := fun z => nfr (List.mem_filterMap.mpr ⟨X.env, List.mem_cons_self, by rw [hf, z]⟩)
    have nF : a ∉ X.fs := fun hm => by
      obtain ⟨e, he, q⟩ := List.mem_filterMap.mp hm
      exact nfr (List.mem_filterMap.mpr ⟨e, List.mem_cons_of_mem _ he, q⟩)
    have S3 := J3.suite he3 hd3 na nL nF
    have go : ∀ {hds' : List ExceptHandler} {l' : List (Value × (Addr → Value → Option Addr → TS))}, HdsA X n hds' l' → wAsL X.K i Wout D l' cls d σ' H' →
        wpAny (model X.prog X.w) X.A (handleBy (.ref a) X.env hds') (SP X pins D) X.xe { s' with heap := h3 } := by
      intro hds' l' hk
      induction hk with
      | nil =>
        intro w
        refine wpAny_handleBy_nil ?_
        obtain ⟨k1, k2, k3, oe, vs, T, oT, ts', he, hz, hd, h1, hr⟩ := id fl3
        unfold PySem.passOn
        refine wpAny_bind (wpAny_field he hd h1 ?_)
        rw [if_neg (show ¬ ((Value.ref T == Value.none) = true) from by simp)]
        have fin : wpAny (model X.prog X.w) X.A (setFlight (.ref a) X.env.frame) (fun _ s4 => wpAny (model X.prog X.w) X.A (throw (.ref a) : Sem Flow) (SP X pins D) X.xe s4) X.xe { s' with heap := h3 } := by
          rw [hf]
          refine HandSPX.setFlight_upZ fl3 fun h4 hh4 up4 => wpAny_throw (tk _ _ ?_)
          exact ⟨a, B, sI, pins, σ', H', cls, d, rfl, J, nb, (up.trans up3).trans up4, .inr (.inr (by rw [hs]; exact hh4)), na, os, ag, w⟩
        first
          | exact wpAny_bind (wpAny_pure (wpAny_bind fin))
          | exact wpAny_bind fin
      | @cons x c ts b₀ suite np pos' hds2 l2 hc hsu r ih =>
        intro w
        obtain ⟨b, hb1, hyes, hno⟩ := w
        refine wpAny_handleBy_cons (codeAny_handlers_test ?_) (by intro q; cases q)
        have LT : PySem.W.Looks (model X.prog X.w) h3 (typeOf (.ref a)) cls := fun A Q E s k q => wpAny_typeOf_ref (k _ _ he3) (by rw [hz3.1]; exact q)
        have LM := PySem.W.exm_one (M := model X.prog X.w) (J3.kIn) LT hb1
        have test : ∀ {Q : Value → Shared → Prop} {E : Value → Shared → Prop}, Q c { s' with heap := h3 } → wpAny (model X.prog X.w) (X.A.mark (some (.ref a))) (eval (.Name x np) X.env) Q E { s' with heap := h3 } := fun {Q E} q => by
          obtain ⟨hg, hdbg, hm | ⟨hm, hv, hnn⟩⟩ := hc
          · exact ld_glob (X := X.suite a ((a, oe3) :: (X.pn ++ pins))) S3 hg hm q hdbg
          · exact ld_blt (X := X.suite a ((a, oe3) :: (X.pn ++ pins))) S3 hg hm hv q hnn hdbg
        refine test (LM.here ?_)
        cases b with
        | true =>
          refine codeAny_handlers_suite_as ?_
          refine HandSPX.lands_againZ fl3 fun h4 fl4 up4 => ?_
          have J4 : L2.Inv X pins σ' H' { s' with heap := h4 } := J.landed nb fl4.1 ((up.trans up3).trans up4) os ag
          obtain ⟨oe4, vs4, he4, hz4, hd4⟩ := fl4.there
          have S4 := J4.suite he4 hd4 na nL nF
          refine store_ok (X := X.suite a ((a, oe4) :: (X.pn ++ pins))) (v := .ref a) S4 hN hi hloc rfl (fun s5 S5 => ?_) (.inr hln)
          refine wpAny_mono ((hsu a oe4 cls d (X.pn ++ pins) hz4 ⟨_, hd4⟩).run [] s5 _ H' _ S5 (hyes rfl a na)) (fun f s6 q => ?_) (fun _ _ z => False.elim z)
          have over : ∀ {σ6 : L2.St} {H6 : Hp} {Q : Shared → Prop}, L2.Inv (X.suite a ((a, oe4) :: (X.pn ++ pins))) [] σ6 H6 s6 → (∀ s7, L2.Inv X pins (σ6.set i none) H6 s7 → Q s7) →
              wpAny (model X.prog X.w) X.A (do bindName X.env n .none; unbindBehindTheSuite X.env n pos') (fun _ s7 => Q s7) X.xe s6 := fun {_ _ _} S6 hq => gone_ok (S6.unsuite ok) hN hi hln hq
          cases f with
          | next => exact q.elim fun _ q => q.elim fun _ q => over q.1 fun s7 J7 => ⟨_, _, J7, q.2⟩
          | brk => exact q.elim fun _ q => q.elim fun _ q => over q.1 fun s7 J7 => ⟨_, _, J7, q.2⟩
          | cont => exact q.elim fun _ q => q.elim fun _ q => over q.1 fun s7 J7 => ⟨_, _, J7, q.2⟩
          | ret u => exact q.elim fun _ q => q.elim fun _ q => q.elim fun _ q => over q.1 fun s7 J7 => ⟨_, _, _, J7, q.2.1, q.2.2⟩
        | false =>
          show wpAny _ X.A (handleBy (.ref a) X.env hds2) _ _ _
          exact ih (hno rfl)
    exact go hh w
  · cases f with
    | next => exact z.elim fun _ z => z.elim fun _ z => wpAny_execs_nil ⟨_, _, z.1.ofTry ok, z.2⟩
    | brk => exact z.elim fun _ z => z.elim fun _ z => ⟨_, _, z.1.ofTry ok, z.2⟩
    | cont => exact z.elim fun _ z => z.elim fun _ z => ⟨_, _, z.1.ofTry ok, z.2⟩
    | ret u => exact z.elim fun _ z => z.elim fun _ z => z.elim fun _ z => ⟨_, _, _, z.1.ofTry ok, z.2.1, z.2.2⟩
end
end Rf
namespace Rf
open PySem PySem.Spec PyProof.Rows L2
def tryW (w : Sa → AH → En → EK → Prop) (sb : Sb) (c i : Nat) (hs : List (Nat × XE)) : Sa → AH → En → EK → Prop := fun s h Z E => w s h Z fun x s' h' => tryE sb c i hs Z E x s' h'
theorem evX_mono {sb : Sb} {xc : Nat} {rd rd' : Nat → Option Bool} (h : ∀ j b, rd j = some b → rd' j = some b) : ∀ {e : XE} {b : Bool}, evX sb xc rd e = some b → evX sb xc rd' e = some b
  | .var j, b, q => h j b q
  | .isi c, b, q => q
  | .fld _, b, q => q
  | .tfld _, b, q => q
  | .intx _, b, q => q
  | .isv, b, q => q
  | .isn cs, b, q => q
  | .and x y, b, q => by
    simp only [evX] at q ⊢
    split at q
    · rename_i e1
      rw [evX_mono h e1]
      exact evX_mono h q
    · rename_i e1
      rw [evX_mono h e1]
      exact q
    · cases q
  | .not x, b, q => by
    simp only [evX, Option.map_eq_some_iff] at q ⊢
    obtain ⟨d, e1, e2⟩ := q
    exact ⟨d, evX_mono h e1, e2⟩
theorem sbL_mem {sb : Sb} {a b : Nat} {v : Bool} (h : sbL sb a b = some v) : (a, b, v) ∈ sb := by
  unfold sbL at h
  rw [Option.map_eq_some_iff] at h
  obtain ⟨t, h1, h2⟩ := h
  have h3 := List.find?_some h1
  have h4 := List.mem_of_find?_eq_some h1
  simp only [Bool.and_eq_true, beq_iff_eq] at h3
  obtain ⟨t1, t2, t3⟩ := t
  simp only at h2 h3
  rw [← h2, ← h3.1, ← h3.2]
  exact h4
section
variable {X : Cx} {nm : Nm} {G : Gi} {sb : Sb} {c0 i : Nat} {x : Exc} {a : Addr} {d : Option Addr}
theorem RS.rd {K : PySem.W.Frag} {H : Hp} {m : List Addr} {σ : L2.St} {s : Sa} (r : RS K H m σ s) (j : Nat) (b : Bool) (h : rdA s j = some b) : rdB σ j = some b := by
  unfold rdA at h
  split at h
  · rename_i b' e
    cases h
    obtain ⟨v, e1, rv⟩ := r.2 j _ e
    have := rv_bl rv
    subst this
    unfold rdB
    rw [e1]
  · cases h
theorem RS.hide {K : PySem.W.Frag} {H : Hp} {m : List Addr} {σ : L2.St} {s : Sa} {i : Nat} {v : Option V} (r : RS K H m σ s) : RS K H m (σ.set i v) (s.set i none) := by
  refine ⟨by simp [r.1], fun j d e => ?_⟩
  by_cases hj : i = j
  · subst hj
    rw [List.getElem?_set] at e
    split at e
    · split at e <;> cases e
    · exact absurd rfl ‹_›
  · rw [List.getElem?_set_ne hj] at e
    obtain ⟨w, h1, h2⟩ := r.2 j d e
    exact ⟨w, by rw [List.getElem?_set_ne hj]; exact h1, h2⟩
theorem Gr.ext {K : PySem.W.Frag} {H H' : Hp} {m : List Addr} {h : AH} (g : Gr H H') (rh : RH K nm H m h) : RH K nm H' m h ∧ Ext H m H' m := by
  induction g with
  | refl => exact ⟨rh, .refl⟩
  | upd _ hp ih => exact ⟨ih.1.upd hp, ih.2.trans (Ext.upd hp)⟩
def hsT (nm : Nm) (sb : Sb) (x : Exc) (i : Nat) (a : Addr) (d : Option Addr) : List (Nat × XE) → TS
  | [] => tNext
  | (j, e) :: r => tSeq (tAsg (tX nm sb x i a d e) (gName j)) (hsT nm sb x i a d r)
theorem pss_h (hN : X.N.Nodup) (hf : ∀ x, X.fn x = true) (o : XOk X nm G sb c0 x a d) : ∀ (hs : List (Nat × XE)) (sts : List Stmt), chkH G X.N X.env.scope i c0 hs sts = true → PSs X sts (hsT nm sb x i a d hs)
  | [], sts, h => by
    simp only [chkH, List.isEmpty_iff] at h
    subst h
    exact pss_nil
  | (j, e) :: r, sts, h => by
    simp only [chkH] at h
    split at h <;> first | (cases h; done) | skip
    simp only [tgB1, Bool.and_eq_true, decide_eq_true_eq] at h
    obtain ⟨h1, ⟨h2, h3, h4⟩, h5, h6, h7⟩ := h
    exact pss_cons (ps_set hN h2 (locB_ok h3) (pe_x o e _ h5) (noComp_sw h6 _ _ _) (.inl (hf _))) (pss_h hN hf o r _ h7)
theorem RXd.ext {K : PySem.W.Frag} {H H' : Hp} {m : List Addr} {d : Option Addr} {x : Exc} (ex : Ext H m H' m) (h : RXd K nm H m d x) : RXd K nm H' m d x := by
  rcases h with h | ⟨h1, dx, fs, h2, h3, h4, h5⟩
  · exact .inl h
  · exact .inr ⟨h1, dx, fs, h2, h3, ex.keep _ _ h3 h4, h5.ext ex⟩
theorem RXd.fld {K : PySem.W.Frag} {H : Hp} {m : List Addr} {d : Option Addr} {x : Exc} {f : Nat} {w : D} (h : RXd K nm H m d x) (e : fldE x f = some w) : ∃ dd fs v, d = some dd ∧ H dd = some (.xd fs) ∧ fs.lookup (nm.fld f) = some v ∧ RV K H m v w := by
  unfold fldE at e
  split at e
  · rename_i g w' hx
    split at e
    · rename_i hg
      subst hg
      cases e
      rcases h with ⟨h, _⟩ | ⟨_, dx, fs, h2, _, h4, h5⟩
      · rw [hx] at h; cases h
      · rw [hx] at h5
        cases h5 with
        | cons rv r0 =>
          cases r0
          exact ⟨dx, _, _, h2, h4, by simp [List.lookup], rv⟩
    · cases e
  · cases e
theorem hs_run {H : Hp} {m : List Addr} {h : AH} {D : Ends} {D' : Sa → AH → Prop} (hD : ∀ σ' sa' H' h', RS X.K H' m σ' sa' → RH X.K nm H' m h' → Ext H m H' m → D' sa' h' → D.nx σ' H') :
    ∀ (hs : List (Nat × XE)) (hj : ∀ q ∈ hs, q.1 ≠ i) {σ : L2.St} {sa s2 : Sa} {H1 : Hp}, Ext H m H1 m → RH X.K nm H1 m h → RXd X.K nm H1 m d x → RS X.K H1 m σ sa → σ[i]? = some (some (.ref a)) → hsW sb x hs sa = some s2 → D' s2 h → hsT nm sb x i a d hs D σ H1
  | [], _, σ, sa, s2, H1, ex, rh, _, rs, _, e, q => by
    cases e
    exact hD _ _ _ _ rs rh ex q
  | (j, e) :: r, hj, σ, sa, s2, H1, ex, rh, rx, rs, ha, ev, q => by
    simp only [hsW] at ev
    split at ev
    · rename_i w ew
      have hne : j ≠ i := hj (j, e) List.mem_cons_self
      have next : ∀ {H2 : Hp} {v : V}, RH X.K nm H2 m h → Ext H1 m H2 m → RV X.K H2 m v w → hsT nm sb x i a d r D (σ.set j (some v)) H2 := fun {H2 v} rh2 ex2 rv =>
        hs_run hD r (fun q' h' => hj q' (List.mem_cons_of_mem _ h')) (ex.trans ex2) rh2 (rx.ext ex2) ((rs.ext ex2).set rv) (by rw [List.getElem?_set_ne hne]; exact ha) ev q
      have third : ∀ b, evX sb x.cls (rdA sa) e = some b → w = .bl b → hsT nm sb x i a d ((j, e) :: r) D σ H1 := fun b eb hw => by
        subst hw
        exact tX_of ha rx.dOk (evX_mono (rs.rd) eb) fun H2 g => by
          obtain ⟨rh2, ex2⟩ := g.ext rh
          exact next rh2 ex2 (.bl b)
      cases e with
      | fld f =>
        obtain ⟨dd, fs, v, e1, e2, e3, rv⟩ := rx.fld ew
        exact ⟨ha, dd, fs, v, e1, e2, e3, next rh .refl rv⟩
      | intx e' =>
        simp only [evH, Option.map_eq_some_iff] at ew
        obtain ⟨b, eb, hw⟩ := ew
        subst hw
        refine ⟨ha, rx.dOk, b, evX_mono (rs.rd) eb, fun H2 g => ?_⟩
        obtain ⟨rh2, ex2⟩ := g.ext rh
        exact next rh2 ex2 (.int _)
      | tfld f =>
        simp only [evH, Option.map_eq_some_iff] at ew
        obtain ⟨w', ew, rfl⟩ := ew
        obtain ⟨dd, fs, v, e1, e2, e3, rv⟩ := rx.fld ew
        refine ⟨ha, dd, fs, v, e1, e2, e3, fun p its hp => ?_⟩
        obtain ⟨a1, a2, a3⟩ := new_tup its rh hp (.cons rv .nil)
        exact next a2 a3 a1
      | _ =>
        simp only [evH, Option.map_eq_some_iff] at ew
        obtain ⟨b, eb, hw⟩ := ew
        exact third b eb hw.symm
    · cases ev
def tbW (X : Cx) (nm : Nm) (w : Sa → AH → En → EK → Prop) (W : WX) : TS := fun D σ H =>
  ∃ sa m h Z Ea, RS X.K H m σ sa ∧ RH X.K nm H m h ∧ w sa h Z Ea ∧ (∀ cls d σ' H', LW X.K nm H m Ea cls d σ' H' → W cls d σ' H') ∧ LEnd X nm H m Z D
def tsW (nm : Nm) (sb : Sb) (c i : Nat) (hs : List (Nat × XE)) (a : Addr) (cls : Value) (d : Option Addr) : TS := fun D σ H =>
  ∃ x, sbL sb x.cls c = some true ∧ cls = .ref (nm.cls x.cls) ∧ hsT nm sb x i a d hs D σ H
theorem ds_try {w : Sa → AH → En → EK → Prop} {c : Nat} {hsl : List (Nat × XE)} {body suite : List Stmt} {b₀ : Stmt} {y n : Str} {np pos pos' : Pos}
    (hs : X.stack = X.env :: X.outer) (hf : X.env.frame = some X.env.locals) (hN : X.N.Nodup) (hfn : ∀ x, X.fn x = true)
    (hb : ∀ (pn : List (Addr × Obj)) (xe : Value → Shared → Prop), PassesOwn (model X.prog X.w) X.A X.env xe → PSs (X.tr pn xe) body (LS (X.tr pn xe) nm w))
    (hi : X.N[i]? = some n) (hln : X.env.kindOf n = some .local) (hc : Names X y (.ref (nm.cls c)))
    (exm : ∀ xc b, sbL sb xc c = some b → PySem.W.exmOne X.K (.ref (nm.cls xc)) (.ref (nm.cls c)) = some b)
    (xok : ∀ x : Exc, sbL sb x.cls c = some true → ∀ (a : Addr) (oe : Obj) (d : Option Addr) (pn : List (Addr × Obj)), Zc (.ref (nm.cls x.cls)) d oe → (∃ vs, oe.data = .fields vs) → XOk (X.suite a ((a, oe) :: pn)) nm G sb c x a d)
    (hh : chkH G X.N X.env.scope i c hsl (b₀ :: suite) = true) (hj : ∀ q ∈ hsl, q.1 ≠ i) :
    PS X (.Try body [.ExceptHandler (some (.Name y np)) (some n) (b₀ :: suite) pos'] [] [] pos) (LS X nm (tryW w sb c i hsl)) := by
  refine ⟨fun pins s σ H D I q => ?_⟩
  obtain ⟨sa, m, h, Z, Ea, rs, rh, wq, tk, l⟩ := q
  refine (ps_try_as (tb := tbW X nm w) (ts := tsW nm sb c i hsl) hs hf hN hi hln hc tk (fun W pn xe tW po => ?_) (fun a oe cls d pn hz hv => ?_)).run pins s σ H D I ?_
  · refine PSs.imp (hb pn xe po) fun D' σ' H' q' => ?_
    obtain ⟨sa', m', h', Z', Ea', rs', rh', w', sub, l'⟩ := q'
    exact ⟨sa', m', h', Z', Ea', rs', rh', w', tW.imp sub, ⟨l'.nx, l'.rt, l'.bk, l'.ct⟩⟩
  · refine ⟨fun pins' s' σ' H' D' I' q' => ?_⟩
    obtain ⟨x, hx, rfl, q'⟩ := q'
    exact (pss_h (X := X.suite a ((a, oe) :: pn)) hN hfn (xok x hx a oe d pn hz hv) hsl _ hh).run pins' s' σ' H' D' I' q'
  · refine ⟨sa, m, h, Z, _, rs, rh, wq, fun cls d σ' H' z => ?_, l⟩
    obtain ⟨xx, sa', m', h', rx, rs', rh', ex, qx⟩ := z
    unfold tryE at qx
    split at qx
    · rename_i e1
      obtain ⟨hil, s2, ev, q2⟩ := qx
      obtain ⟨r1, r2⟩ := rx
      refine ⟨true, by rw [r1]; exact exm _ _ e1, fun _ a ha => ?_, fun z => nomatch z⟩
      refine ⟨xx, e1, r1, ?_⟩
      · refine hs_run (X := X) (nm := nm) (x := xx) (d := d) (D := { nx := fun σ' H' => D.nx (σ'.set i none) H', rt := D.rt, bk := fun σ' H' => D.bk (σ'.set i none) H', ct := fun σ' H' => D.ct (σ'.set i none) H' }) (m := m') (D' := fun s3 h3 => Z.nx (s3.set i none) h3) (fun σ2 sa2 H2 h2 rs2 rh2 ex2 q3 => l.nx _ _ _ _ _ rs2.hide rh2 (ex.trans ex2) q3) hsl hj .refl rh' r2 rs'.hide ?_ ev q2
        rw [List.getElem?_set_self (by rw [rs'.1]; exact hil)]
    · rename_i e1
      refine ⟨false, by rw [rx.1]; exact exm _ _ e1, ?_, fun _ => ⟨xx, sa', m', h', rx, rs', rh', ex, qx⟩⟩
      intro z
      cases z
    · exact qx.elim
theorem xok_of {C : CT} {c : Nat} (k : Ct X nm G C) {x : Exc} (e : sbL G.sb x.cls c = some true) {a : Addr} {oe : Obj} {d : Option Addr} {pn : List (Addr × Obj)} (hz : Zc (.ref (nm.cls x.cls)) d oe) (hv : ∃ vs, oe.data = .fields vs) : XOk (X.suite a ((a, oe) :: pn)) nm G G.sb c x a d := by
  have i1 : X.mg (Str.ofString "isinstance") = none := mem_blt k (by simp [bltS])
  have i2 : X.mg (Str.ofString "ValueError") = none := mem_blt k (by simp [bltS])
  have i3 : X.mg (Str.ofString "int") = none := mem_blt k (by simp [bltS])
  have key : ∀ (f : Nat) (n : Str), G.fl[f]? = some n → (G.lx.any fun l => l.1 == x.cls && l.2.1 == f) = true → nm.fld f = n ∧ ∀ {e : Expr} {te : TE} {pos : Pos}, (attributeBase e n (X.suite a ((a, oe) :: pn)).env (eval e (X.suite a ((a, oe) :: pn)).env) = eval e (X.suite a ((a, oe) :: pn)).env) → PE (X.suite a ((a, oe) :: pn)) e te → PE (X.suite a ((a, oe) :: pn)) (.Attribute e n pos) (tXf a (.ref (nm.cls x.cls)) d (nm.cls x.cls) n te) := fun f n hf q => by
    simp only [List.any_eq_true, Bool.and_eq_true, beq_iff_eq] at q
    obtain ⟨l, hl1, hl2, rfl⟩ := q
    have L := k.low l hl1
    obtain ⟨fI, fd, x0, qual, params, body, scope, N, ps, n', r, R, mc, _, _, _, _, _, _, _, _, h9, h10, h11, _⟩ := L.ini
    have : n' = n := Option.some.inj (h9.symm.trans hf)
    subst this
    refine ⟨h10, fun {e te pos} hb he => ?_⟩
    rw [← hl2]
    exact pe_xf L.xf h11 (by rw [hl2]; exact hz) hv he hb
  refine ⟨i1, i2, i3, k.clg, fun c' b' e' => k.sbk.kit _ _ _ e', k.sbk.ve _ _ _ e, call_isE' (k.sbk.xc _ _ _ e) hz hv, call_isET (k.sbk.xc _ _ _ e) hz hv, fun f n hf hl => ?_, key⟩
  have q := List.all_eq_true.mp hl _ (sbL_mem e)
  simp only [beq_self_eq_true, Bool.and_true, Bool.not_true, Bool.false_or] at q
  exact key f n hf q
theorem ds_tryC {C : CT} {w : Sa → AH → En → EK → Prop} {c : Nat} {hsl : List (Nat × XE)} {body suite : List Stmt} {b₀ : Stmt} {y0 n : Str} {np pos pos' : Pos} (k : Ct X nm G C)
    (hs : X.stack = X.env :: X.outer) (hf : X.env.frame = some X.env.locals) (hfn : ∀ x, X.fn x = true)
    (hb : ∀ (pn : List (Addr × Obj)) (xe : Value → Shared → Prop), PassesOwn (model X.prog X.w) X.A X.env xe → PSs (X.tr pn xe) body (LS (X.tr pn xe) nm w))
    (hi : X.N[i]? = some n) (hln : X.env.scope.names.lookup n = some .local) (hc : (match G.cl[c]? with | some y => nameB X.env.scope y y0 | none => false) = true)
    (hh : chkH G X.N X.env.scope i c hsl (b₀ :: suite) = true) (hj : ∀ q ∈ hsl, q.1 ≠ i) :
    PS X (.Try body [.ExceptHandler (some (.Name y0 np)) (some n) (b₀ :: suite) pos'] [] [] pos) (LS X nm (tryW w G.sb c i hsl)) := by
  split at hc
  · rename_i y hy
    obtain ⟨rfl, hg, ho⟩ := nameB_ok hc
    obtain ⟨hdb, _, _⟩ := okN_d ho
    refine ds_try hs hf k.nd hfn hb hi hln (y := y) (show Names X y (.ref (nm.cls c)) from ⟨hg, hdb, .inl (k.clg c _ hy)⟩) (fun xc b e => k.sbk.exm _ _ _ e) (fun x e a oe d pn hz hv => ?_) hh hj
    exact xok_of k e hz hv
  · cases hc
def tryRW (w : Sa → AH → En → EK → Prop) (sb : Sb) (c i : Nat) (u : List Nat) (f : Nat) : Sa → AH → En → EK → Prop := fun s h Z E => w s h Z fun x s' h' => tryRE sb c i u f Z E x s' h'
def rtT (nm : Nm) (i : Nat) (a : Addr) (d : Option Addr) (u : Str) (f : Nat) : TS := fun D σ H => σ[i]? = some (some (.ref a)) ∧ ∃ dd fs v, d = some dd ∧ H dd = some (.xd fs) ∧ fs.lookup (nm.fld f) = some v ∧ ∀ p its, H p = none → D.rt (.ref p) (L2.upd H p (.frz (tO its) (.tup [.str u, v])))
theorem pss_r (o : XOk X nm G sb c0 x a d) {f : Nat} {u : Str} {ex : Expr} {k x1 : Nat} {cp tp rp : Pos} (h : fldB G X.N X.env.scope i c0 f ex = true) : PSs X [.Return (some (.Tuple [.Constant (.str u) k cp, ex] x1 tp)) rp] (rtT nm i a d u f) :=
  PSs.imp (pss_cons (ps_ret (pe_tupF (pa_cons pe_str (pa_cons (pe_fld o h) pa_nil (hs := fld_star h))))) pss_nil) fun D σ H z => by
    obtain ⟨ha, dd, fs, v, e1, e2, e3, z⟩ := z
    exact ⟨_, ha, rfl, rfl, dd, fs, v, e1, e2, e3, by simp [sizeLine_eq], z⟩
def tsR (nm : Nm) (sb : Sb) (c i : Nat) (u : Str) (f : Nat) (a : Addr) (cls : Value) (d : Option Addr) : TS := fun D σ H =>
  ∃ x : Exc, sbL sb x.cls c = some true ∧ cls = .ref (nm.cls x.cls) ∧ rtT nm i a d u f D σ H
theorem ds_tryR0 {w : Sa → AH → En → EK → Prop} {c f : Nat} {u : List Nat} {body : List Stmt} {ex : Expr} {k x1 : Nat} {y n : Str} {np cp tp rp pos pos' : Pos}
    (hs : X.stack = X.env :: X.outer) (hf : X.env.frame = some X.env.locals) (hN : X.N.Nodup) (hfn : ∀ x, X.fn x = true)
    (hb : ∀ (pn : List (Addr × Obj)) (xe : Value → Shared → Prop), PassesOwn (model X.prog X.w) X.A X.env xe → PSs (X.tr pn xe) body (LS (X.tr pn xe) nm w))
    (hi : X.N[i]? = some n) (hln : X.env.kindOf n = some .local) (hc : Names X y (.ref (nm.cls c)))
    (exm : ∀ xc b, sbL sb xc c = some b → PySem.W.exmOne X.K (.ref (nm.cls xc)) (.ref (nm.cls c)) = some b)
    (xok : ∀ x : Exc, sbL sb x.cls c = some true → ∀ (a : Addr) (oe : Obj) (d : Option Addr) (pn : List (Addr × Obj)), Zc (.ref (nm.cls x.cls)) d oe → (∃ vs, oe.data = .fields vs) → XOk (X.suite a ((a, oe) :: pn)) nm G sb c x a d)
    (hh : fldB G X.N X.env.scope i c f ex = true) :
    PS X (.Try body [.ExceptHandler (some (.Name y np)) (some n) [.Return (some (.Tuple [.Constant (.str (mkS u)) k cp, ex] x1 tp)) rp] pos'] [] [] pos) (LS X nm (tryRW w sb c i u f)) := by
  refine ⟨fun pins s σ H D I q => ?_⟩
  obtain ⟨sa, m, h, Z, Ea, rs, rh, wq, tk, l⟩ := q
  refine (ps_try_as (tb := tbW X nm w) (ts := tsR nm sb c i (mkS u) f) hs hf hN hi hln hc tk (fun W pn xe tW po => ?_) (fun a oe cls d pn hz hv => ?_)).run pins s σ H D I ?_
  · refine PSs.imp (hb pn xe po) fun D' σ' H' q' => ?_
    obtain ⟨sa', m', h', Z', Ea', rs', rh', w', sub, l'⟩ := q'
    exact ⟨sa', m', h', Z', Ea', rs', rh', w', tW.imp sub, ⟨l'.nx, l'.rt, l'.bk, l'.ct⟩⟩
  · refine ⟨fun pins' s' σ' H' D' I' q' => ?_⟩
    obtain ⟨x, hx, rfl, q'⟩ := q'
    exact (pss_r (X := X.suite a ((a, oe) :: pn)) (xok x hx a oe d pn hz hv) hh).run pins' s' σ' H' D' I' q'
  · refine ⟨sa, m, h, Z, _, rs, rh, wq, fun cls d σ' H' z => ?_, l⟩
    obtain ⟨xx, sa', m', h', rx, rs', rh', ex', qx⟩ := z
    unfold tryRE at qx
    split at qx
    · rename_i e1
      obtain ⟨hil, dv, ev, q2⟩ := qx
      have r1 := rx.1
      refine ⟨true, by rw [r1]; exact exm _ _ e1, fun _ a ha => ?_, fun z => nomatch z⟩
      obtain ⟨dd, fs, v, g1, g2, g3, rv⟩ := RXd.fld (nm := nm) (x := xx) rx.2 ev
      refine ⟨xx, e1, r1, ?_, dd, fs, v, g1, g2, g3, fun p its hp => ?_⟩
      · rw [List.getElem?_set_self (by rw [rs'.1]; exact hil)]
      · obtain ⟨a1, a2, a3⟩ := new_tup its rh' hp (.cons (.str u) (.cons rv .nil))
        exact l.rt _ _ _ _ _ a1 a2 (ex'.trans a3) q2
    · rename_i e1
      refine ⟨false, by rw [rx.1]; exact exm _ _ e1, ?_, fun _ => ⟨xx, sa', m', h', rx, rs', rh', ex', qx⟩⟩
      intro z
      cases z
    · exact qx.elim
theorem ds_tryR {C : CT} {w : Sa → AH → En → EK → Prop} {c f : Nat} {u : List Nat} {body : List Stmt} {ex : Expr} {k1 x1 : Nat} {y0 n : Str} {np cp tp rp pos pos' : Pos} (k : Ct X nm G C)
    (hs : X.stack = X.env :: X.outer) (hf : X.env.frame = some X.env.locals) (hfn : ∀ x, X.fn x = true)
    (hb : ∀ (pn : List (Addr × Obj)) (xe : Value → Shared → Prop), PassesOwn (model X.prog X.w) X.A X.env xe → PSs (X.tr pn xe) body (LS (X.tr pn xe) nm w))
    (hi : X.N[i]? = some n) (hln : X.env.scope.names.lookup n = some .local) (hc : (match G.cl[c]? with | some y => nameB X.env.scope y y0 | none => false) = true)
    (hh : fldB G X.N X.env.scope i c f ex = true) :
    PS X (.Try body [.ExceptHandler (some (.Name y0 np)) (some n) [.Return (some (.Tuple [.Constant (.str (mkS u)) k1 cp, ex] x1 tp)) rp] pos'] [] [] pos) (LS X nm (tryRW w G.sb c i u f)) := by
  split at hc
  · rename_i y hy
    obtain ⟨rfl, hg, ho⟩ := nameB_ok hc
    obtain ⟨hdb, _, _⟩ := okN_d ho
    refine ds_tryR0 hs hf k.nd hfn hb hi hln (y := y) (show Names X y (.ref (nm.cls c)) from ⟨hg, hdb, .inl (k.clg c _ hy)⟩) (fun xc b e => k.sbk.exm _ _ _ e) (fun x e a oe d pn hz hv => ?_) hh
    exact xok_of k e hz hv
  · cases hc
def tryNW (w : Sa → AH → En → EK → Prop) (sb : Sb) (c i : Nat) (g : XE) (f : Nat) (lc : List Nat) (j : Option Nat) (k : Int) : Sa → AH → En → EK → Prop := fun s h Z E => w s h Z fun x s' h' => tryNE sb c i g f lc j k Z E x s' h'
def yV (σ : L2.St) (j : Option Nat) (k : Int) : Option Int := match j with
  | none => some k
  | some j => (match σ[j]? with
    | some (some (.int i)) => some i
    | _ => none)
theorem yN_V {K : PySem.W.Frag} {H : Hp} {m : List Addr} {σ : L2.St} {s : Sa} (r : RS K H m σ s) {j : Option Nat} {k b : Int} (h : yN s j k = some b) : yV σ j k = some b := by
  cases j with
  | none => exact h
  | some j =>
    simp only [yN] at h
    split at h
    · rename_i i e
      cases h
      obtain ⟨v, e1, rv⟩ := r.2 j _ e
      cases rv
      simp only [yV, e1]
    · cases h
theorem pe_y {j : Option Nat} {k b : Int} {e : Expr} (h : yB X.N X.env.scope j k e = true) : PE X e (fun σ H Q => yV σ j k = some b ∧ Q (.int b) H) := by
  cases j with
  | none =>
    cases e <;> simp only [yB] at h <;> first | (cases h; done) | skip
    rename_i cc _ _
    cases cc <;> simp only [yB] at h <;> first | (cases h; done) | skip
    have := of_decide_eq_true h
    subst this
    refine PE.imp pe_int fun σ H Q q => ?_
    obtain ⟨e, q⟩ := q
    cases e
    exact q
  | some j =>
    cases e <;> simp only [yB] at h <;> first | (cases h; done) | skip
    refine PE.imp (pe_slot h) fun σ H Q q => ?_
    obtain ⟨e, q⟩ := q
    simp only [yV] at e
    split at e
    · rename_i i e1
      cases e
      exact ⟨_, e1, q⟩
    · cases e
def tN (X : Cx) (nm : Nm) (sb : Sb) (x : Exc) (i : Nat) (a : Addr) (d : Option Addr) (g : XE) (f : Nat) (lc : List Nat) (j : Option Nat) (k : Int) : TE := fun σ H Q => σ[i]? = some (some (.ref a)) ∧ dOk H d ∧ ∃ t, evX sb x.cls (rdB σ) g = some t ∧ (∃ m h, RH X.K nm H m h ∧
  (t = true → x.cls ∈ lc ∧ ∃ aa bb, (∃ dd fs, d = some dd ∧ H dd = some (.xd fs) ∧ fs.lookup (nm.fld f) = some (.int aa)) ∧ yV σ j k = some bb ∧ ∀ H' m', RH X.K nm H' m' h → Ext H m H' m' → Q (.bl (decide (aa = bb))) H') ∧ (t = false → ∀ H' m', RH X.K nm H' m' h → Ext H m H' m' → Q (.bl false) H'))
structure SmN (X : Cx) (nm : Nm) (G : Gi) (fn : Nat) : Prop where
  ex : ∃ y a fd ps p, G.fn[fn]? = some y ∧ FnN X.prog X.w X.K X.mg X.base 1 a fd ps (spN X.K nm) ∧ L2H.RoomH 1 X.A ∧ p ∈ X.pn ∧ X.mg y = some (.ref a) ∧ PySem.W.keepIn X.K (.ref a) = true ∧ Binds X.K fd ps []
theorem pe_fldN (o : XOk X nm G sb c0 x a d) {f : Nat} {lc : List Nat} (hl : x.cls ∈ lc) {e : Expr} (h : fldN G X.N X.env.scope i f lc e = true) : PE X e (tXf a (.ref (nm.cls x.cls)) d (nm.cls x.cls) (nm.fld f) (tVar i)) := by
  unfold fldN at h
  split at h
  · simp only [Bool.and_eq_true, decide_eq_true_eq] at h
    obtain ⟨h1, h2, h3⟩ := h
    obtain ⟨rfl, q⟩ := o.fd2 _ _ h2 (List.all_eq_true.mp h3 _ hl)
    exact q rfl (pe_slot h1)
  · cases h
theorem starN {f : Nat} {lc : List Nat} {G : Gi} {N : List Str} {sc : Scope} {e : Expr} {es : List Expr} {env : Env} (h : fldN G N sc i f lc e = true) : starEach (e :: es) env = (false, eval e env) :: starEach es env := by
  unfold fldN at h
  split at h
  · rfl
  · cases h
theorem Gr.keepx {H H' : Hp} {p : Addr} {o : HO} (g : Gr H H') (h : H p = some o) : H' p = some o := by
  induction g with
  | refl => exact h
  | upd _ hp ih =>
    rw [upd_ne (ne_of_none ih hp)]
    exact ih
theorem pe_cllN (o : XOk X nm G sb c0 x a d) {f fn : Nat} {lc : List Nat} {j : Option Nat} {k : Int} (sm : SmN X nm G fn) {e : Expr} (h : cllN G X.N X.env.scope i f lc fn j k e = true) :
    PE X e (fun σ H Q => x.cls ∈ lc ∧ σ[i]? = some (some (.ref a)) ∧ ∃ m h aa bb, RH X.K nm H m h ∧ (∃ dd fs, d = some dd ∧ H dd = some (.xd fs) ∧ fs.lookup (nm.fld f) = some (.int aa)) ∧ yV σ j k = some bb ∧ ∀ H' m', RH X.K nm H' m' h → Ext H m H' m' → Q (.bl (decide (aa = bb))) H') := by
  unfold cllN at h
  split at h
  · rename_i z pz ex ey pos
    simp only [Bool.and_eq_true] at h
    obtain ⟨h1, h2, h3⟩ := h
    obtain ⟨y, af, fd, ps, p, e1, F, hr, hp, hm, hk, hb⟩ := sm.ex
    rw [e1] at h1
    obtain ⟨rfl, hg, ho⟩ := nameB_ok h1
    obtain ⟨hdb, _, _⟩ := okN_d ho
    have hy1 : starEach [ey] X.env = (false, eval ey X.env) :: starEach [] X.env := by
      cases j <;> cases ey <;> first | rfl | (simp [yB] at h3)
    refine ⟨fun pins s0 σ H Q I q => ?_⟩
    obtain ⟨hl, ha, m, h, aa, bb, rh, ⟨dd, fs, e2, e3, e4⟩, ey2, fin⟩ := q
    refine (pe_callN F hr hp hg hm hk hb (pa_cons (pe_fldN o hl h2) (pa_cons (pe_y (b := bb) h3) pa_nil hy1) (starN h2)) hdb (starN h2) (by rw [hy1]; rfl)).run pins s0 σ H Q I ?_
    exact ⟨_, ha, rfl, rfl, dd, fs, _, e2, e3, e4, ey2, m, h, aa, bb, rh, rfl, fin⟩
  · cases h
theorem pss_N (o : XOk X nm G sb c0 x a d) {g : XE} {f fn : Nat} {lc : List Nat} {j : Option Nat} {k : Int} (sm : SmN X nm G fn) {suite : List Stmt} (h : chkN G X.N X.env.scope i c0 g f lc fn j k suite = true) :
    PSs X suite (fun D σ H => tN X nm sb x i a d g f lc j k σ H D.rt) := by
  unfold chkN at h
  split at h
  · rename_i ex ey ez pp pr
    split at h
    · rename_i ga gb
      simp only [Bool.and_eq_true] at h
      obtain ⟨h1, h2, h3⟩ := h
      refine PSs.imp (pss_cons (ps_ret (pe_and (pe_x o ga _ h1) (pe_and (pe_x o gb _ h2) (pe_one (pe_cllN o sm h3))))) pss_nil) fun D σ H q => ?_
      obtain ⟨ha, hd, t, et, m, hh, rh, y1, y2⟩ := q
      simp only [evX] at et
      split at et
      · rename_i e1
        refine tX_of ha hd e1 fun H1 g1 => ⟨true, rfl, ?_⟩
        rw [if_pos rfl]
        refine tX_of ha (g1.dOk hd) et fun H2 g2 => ⟨t, rfl, ?_⟩
        obtain ⟨r2, x2⟩ := (g1.trans g2).ext rh
        cases t with
        | true =>
          rw [if_pos rfl]
          obtain ⟨hl, aa, bb, ⟨dd, fs, e2, e3, e4⟩, ey2, fin⟩ := y1 rfl
          exact ⟨hl, ha, m, hh, aa, bb, r2, ⟨dd, fs, e2, Gr.keepx (g1.trans g2) e3, e4⟩, ey2, fun H' m' r' x' => fin H' m' r' (x2.trans x')⟩
        | false =>
          rw [if_neg (by simp)]
          exact y2 rfl H2 m r2 x2
      · rename_i e1
        cases et
        refine tX_of ha hd e1 fun H1 g1 => ⟨false, rfl, ?_⟩
        obtain ⟨r1, x1⟩ := g1.ext rh
        rw [if_neg (by simp)]
        exact y2 rfl H1 m r1 x1
      · cases et
    · cases h
  · rename_i et0 k1 p1 p2 pi ez pr
    split at h
    · rename_i ga
      simp only [Bool.and_eq_true] at h
      obtain ⟨h0, h1, h3⟩ := h
      have pt := pt_val (pe_x o ga _ h1) (by
        cases et0 <;> first | (simp [isCall] at h0; done) | (intro w; rfl))
      refine PSs.imp (pss_cons (ps_if pt (pss_cons (ps_ret pe_bl) pss_nil) pss_nil) (pss_cons (ps_ret (pe_cllN o sm h3)) pss_nil)) fun D σ H q => ?_
      obtain ⟨ha, hd, t, et, m, hh, rh, y1, y2⟩ := q
      simp only [evX, Option.map_eq_some_iff] at et
      obtain ⟨b, e1, rfl⟩ := et
      refine tX_of ha hd e1 fun H1 g1 => ⟨b, rfl, ?_⟩
      obtain ⟨r1, x1⟩ := g1.ext rh
      cases b with
      | true =>
        rw [if_pos rfl]
        exact y2 rfl H1 m r1 x1
      | false =>
        rw [if_neg (by simp)]
        obtain ⟨hl, aa, bb, ⟨dd, fs, e2, e3, e4⟩, ey2, fin⟩ := y1 rfl
        exact ⟨hl, ha, m, hh, aa, bb, r1, ⟨dd, fs, e2, Gr.keepx g1 e3, e4⟩, ey2, fun H' m' r' x' => fin H' m' r' (x1.trans x')⟩
    · cases h
  · cases h
def tsN (nm : Nm) (sb : Sb) (c i : Nat) (g : XE) (f : Nat) (lc : List Nat) (j : Option Nat) (k : Int) (X : Cx) (a : Addr) (cls : Value) (d : Option Addr) : TS := fun D σ H =>
  ∃ x : Exc, sbL sb x.cls c = some true ∧ cls = .ref (nm.cls x.cls) ∧ tN X nm sb x i a d g f lc j k σ H D.rt
theorem ds_tryN {C : CT} {w : Sa → AH → En → EK → Prop} {c f fn : Nat} {g : XE} {lc : List Nat} {j : Option Nat} {kk : Int} {body suite : List Stmt} {y0 n : Str} {np pos pos' : Pos} (k : Ct X nm G C)
    (hs : X.stack = X.env :: X.outer) (hf : X.env.frame = some X.env.locals)
    (hb : ∀ (pn : List (Addr × Obj)) (xe : Value → Shared → Prop), PassesOwn (model X.prog X.w) X.A X.env xe → PSs (X.tr pn xe) body (LS (X.tr pn xe) nm w))
    (hi : X.N[i]? = some n) (hln : X.env.scope.names.lookup n = some .local) (hc : (match G.cl[c]? with | some y => nameB X.env.scope y y0 | none => false) = true) (hsn : fn ∈ G.sn)
    (hh : chkN G X.N X.env.scope i c g f lc fn j kk suite = true) :
    PS X (.Try body [.ExceptHandler (some (.Name y0 np)) (some n) suite pos'] [] [] pos) (LS X nm (tryNW w G.sb c i g f lc j kk)) := by
  split at hc
  · rename_i y hy
    obtain ⟨rfl, hg, ho⟩ := nameB_ok hc
    obtain ⟨hdb, _, _⟩ := okN_d ho
    obtain ⟨b₀, sr, rfl⟩ : ∃ b₀ sr, suite = b₀ :: sr := by
      cases suite with
      | nil => simp [chkN] at hh
      | cons b r => exact ⟨b, r, rfl⟩
    obtain ⟨ys, af, fd, ps, s1, s2, s3, s4, s5⟩ := k.sn fn hsn
    refine ⟨fun pins s σ H D I q => ?_⟩
    obtain ⟨sa, m, h, Z, Ea, rs, rh, wq, tk, l⟩ := q
    have room := k.rmh
    refine (ps_try_as (tb := tbW X nm w) (ts := fun a cls d => tsN nm G.sb c i g f lc j kk X a cls d) hs hf k.nd hi hln (show Names X y (.ref (nm.cls c)) from ⟨hg, hdb, .inl (k.clg c _ hy)⟩) tk (fun W pn xe tW po => ?_) (fun a oe cls d pn hz hv => ?_)).run pins s σ H D I ?_
    · refine PSs.imp (hb pn xe po) fun D' σ' H' q' => ?_
      obtain ⟨sa', m', h', Z', Ea', rs', rh', w', sub, l'⟩ := q'
      exact ⟨sa', m', h', Z', Ea', rs', rh', w', tW.imp sub, ⟨l'.nx, l'.rt, l'.bk, l'.ct⟩⟩
    · refine ⟨fun pins' s' σ' H' D' I' q' => ?_⟩
      obtain ⟨x, hx, rfl, q'⟩ := q'
      have sm : SmN (X.suite a ((a, oe) :: pn)) nm G fn := ⟨ys, af, fd, ps, (a, oe), s1, s2, ⟨room.dp, room.un⟩, List.mem_cons_self, s3, s4, s5⟩
      exact (pss_N (X := X.suite a ((a, oe) :: pn)) (xok_of k hx hz hv) sm hh).run pins' s' σ' H' D' I' q'
    · refine ⟨sa, m, h, Z, _, rs, rh, wq, fun cls d σ' H' z => ?_, l⟩
      obtain ⟨xx, sa', m', h', rx, rs', rh', ex', qx⟩ := z
      unfold tryNE at qx
      split at qx
      · rename_i e1
        obtain ⟨hil, t, et, q1, q0⟩ := qx
        obtain ⟨r1, r2⟩ := rx
        refine ⟨true, by rw [r1]; exact k.sbk.exm _ _ _ e1, fun _ a ha => ?_, fun z => nomatch z⟩
        have rsa : RS X.K H' m' (σ'.set i (some (.ref a))) (sa'.set i none) := rs'.hide
        refine ⟨xx, e1, r1, ?_, RXd.dOk r2, t, evX_mono (rsa.rd) et, m', h', rh', fun ht => ?_, fun ht H2 m2 rh2 ex2 => ?_⟩
        · rw [List.getElem?_set_self (by rw [rs'.1]; exact hil)]
        · obtain ⟨hl, aa, bb, ev, ey, q2⟩ := q1 ht
          obtain ⟨dd, fs, v, g1, g2, g3, rv⟩ := RXd.fld (nm := nm) (x := xx) r2 ev
          cases rv
          exact ⟨hl, aa, bb, ⟨dd, fs, g1, g2, g3⟩, yN_V rsa ey, fun H2 m2 rh2 ex2 => l.rt _ _ _ _ _ (.bl _) rh2 (ex'.trans ex2) q2⟩
        · exact l.rt _ _ _ _ _ (.bl _) rh2 (ex'.trans ex2) (q0 ht)
      · rename_i e1
        refine ⟨false, by rw [rx.1]; exact k.sbk.exm _ _ _ e1, ?_, fun _ => ⟨xx, sa', m', h', rx, rs', rh', ex', qx⟩⟩
        intro z
        cases z
      · exact qx.elim
  · cases hc
end
end Rf
namespace Rf
open PySem PySem.Spec PyProof.Rows L2
section
variable {X : Cx} {nm : Nm} {G : Gi} {sb : Sb} {c0 i : Nat} {x : Exc} {a : Addr} {d : Option Addr}
theorem pe_cls0 (cls : ∀ (c : Nat) (y : Str), G.cl[c]? = some y → X.mg y = some (.ref (nm.cls c))) {c : Nat} {z : Str} {p : Pos} (h : (match G.cl[c]? with | some y => nameB X.env.scope y z | none => false) = true) : PE X (.Name z p) (tC (.ref (nm.cls c))) := by
  split at h
  · rename_i y hy
    obtain ⟨rfl, hg, ho⟩ := nameB_ok h
    obtain ⟨hdb, _, _⟩ := okN_d ho
    exact pe_glob hg (cls c _ hy) rfl hdb
  · cases h
theorem pa_cls0 (cls : ∀ (c : Nat) (y : Str), G.cl[c]? = some y → X.mg y = some (.ref (nm.cls c))) : ∀ {cs : List Nat} {es : List Expr}, cnB G X.env.scope cs es = true → PA X es (fun σ H Q => Q (cs.map fun c => V.ref (nm.cls c)) H)
  | [], [], _ => pa_nil
  | c :: cs, .Name x p :: es, h => by
    simp only [cnB, Bool.and_eq_true] at h
    exact pa_cons (pe_cls0 cls h.1) (pa_cls0 cls h.2) rfl
  | [], _ :: _, h => by simp [cnB] at h
  | _ :: _, [], h => by simp [cnB] at h
theorem pe_isn0 (ins : X.mg (Str.ofString "isinstance") = none) (cls : ∀ (c : Nat) (y : Str), G.cl[c]? = some y → X.mg y = some (.ref (nm.cls c))) (one : ∀ c b, sbL sb x.cls c = some b → PySem.W.kitOne X.K (.ref (nm.cls x.cls)) (.ref (nm.cls c)) = some b)
    (c2 : CallR X (.builtin "isinstance") (rIsET X.K (nm.cls x.cls) a d)) {cs : List Nat} {ex : Expr} (h : chkX G X.N X.env.scope i c0 (.isn cs) ex = true) : PE X ex (tX nm sb x i a d (.isn cs)) := by
  simp only [chkX] at h
  split at h <;> first | (cases h; done) | skip
  simp only [Bool.and_eq_true] at h
  obtain ⟨h1, h2, h3, h4⟩ := h
  obtain ⟨rfl, hg, ho⟩ := nameB_ok h1
  obtain ⟨hdb, _, hnn⟩ := okN_d ho
  have hz := cn_len h3
  refine PE.imp (pe_callB c2 hg ins (by decide +kernel) (pa_cons (pe_slot h2) (pa_cons (pe_tup (pa_cls0 cls h3)) pa_nil)) hnn hdb) fun σ H Q q => ?_
  obtain ⟨ha, hd, b, e, q⟩ := q
  simp only [evX] at e
  refine ⟨_, ha, by rw [List.length_map, hz, ← SZ_line]; have := of_decide_eq_true h4; unfold SZ; omega, fun p hp => ⟨p, _, _, b, rfl, Gr.dOk (.upd .refl hp) hd, L2.upd_same, fun vs z => vals_cls z, kitAny_of one e, q _ (.upd .refl hp)⟩⟩
def tO2 (x : Exc) (sb : Sb) (i dd : Nat) (cs : List Nat) (w : List Nat) (a : Addr) (d : Option Addr) : TE := fun σ H Q => σ[i]? = some (some (.ref a)) ∧ dOk H d ∧ ∃ b1 b2, sbL sb x.cls dd = some b1 ∧ anyO (cs.map (sbL sb x.cls)) = some b2 ∧ ∀ H' p its, Gr H H' → H' p = none → Q (.ref p) (L2.upd H' p (.frz (tO its) (.tup [.str (mkS w), .bl b1, .bl b2])))
structure OtN (X : Cx) (nm : Nm) (G : Gi) (fn : Nat) (cs : List Nat) (a : Addr) (oe : Obj) : Prop where
  ex : ∃ y af fd ps, G.fn[fn]? = some y ∧ FnN X.prog X.w X.K X.mg X.base 1 af fd ps (spO X.K nm G.sb cs) ∧ L2H.RoomH 1 X.A ∧ (a, oe) ∈ X.pn ∧ X.mg y = some (.ref af) ∧ PySem.W.keepIn X.K (.ref af) = true ∧ Binds X.K fd ps []
theorem pe_O2 (o : XOk X nm G G.sb c0 x a d) {fn dd : Nat} {cs : List Nat} {oe : Obj} (ot : OtN X nm G fn cs a oe) (hz : Zc (.ref (nm.cls x.cls)) d oe) (hv : ∃ vs, oe.data = .fields vs) (hx : ∃ c v, sbL G.sb x.cls c = some v) {w : List Nat} {u z ev : Str} {k1 x1 : Nat} {p1 pz pe pc tp : Pos} {e1 : Expr}
    (hu : mkS w = u) (hc : isCall e1 = true) (h1 : chkX G X.N X.env.scope i c0 (.isi dd) e1 = true) (h2 : (match G.fn[fn]? with | some y => nameB X.env.scope y z | none => false) = true) (h3 : slotB X.N X.env.scope i ev = true) :
    PE X (.Tuple [.Constant (.str u) k1 p1, e1, .Call (.Name z pz) [.Name ev pe] [] pc] x1 tp) (tO2 x G.sb i dd cs w a d) := by
  obtain ⟨y, af, fd, ps, e2, F, hr, hp, hm, hk, hb⟩ := ot.ex
  rw [e2] at h2
  obtain ⟨rfl, hg, ho⟩ := nameB_ok h2
  obtain ⟨hdb, _, _⟩ := okN_d ho
  subst hu
  have hst : starEach [e1, .Call (.Name y pz) [.Name ev pe] [] pc] X.env = (false, eval e1 X.env) :: starEach [.Call (.Name y pz) [.Name ev pe] [] pc] X.env := by cases e1 <;> first | rfl | (simp [isCall] at hc)
  refine PE.imp (pe_tupF (pa_cons pe_str (pa_cons (pe_x o (.isi dd) _ h1) (pa_cons (pe_callN F hr hp hg hm hk hb (pa_cons (pe_slot h3) pa_nil) hdb rfl rfl) pa_nil) (hs := hst)))) fun σ H Q q => ?_
  obtain ⟨ha, hd, b1, b2, s1, s2, q⟩ := q
  exact ⟨ha, hd, b1, s1, fun H1 g1 => ⟨_, ha, x.cls, d, b2, hz, hv, hx, rfl, g1.dOk hd, s2, fun H2 g2 => ⟨by simp [sizeLine_eq], fun p its hp => q H2 p its (g1.trans g2) hp⟩⟩⟩
def try2W (w : Sa → AH → En → EK → Prop) (sb : Sb) (i j : Nat) (cs : List Nat) (hs : List (Nat × List Nat × Nat)) : Sa → AH → En → EK → Prop := fun s h Z E => w s h Z fun x s' h' => try2E sb i j cs Z E x s' h' hs
def tsO (nm : Nm) (sb : Sb) (i j : Nat) (cs : List Nat) (t : Nat × List Nat × Nat) (a : Addr) (cls : Value) (d : Option Addr) : TS := fun D σ H =>
  ∃ x : Exc, sbL sb x.cls t.1 = some true ∧ cls = .ref (nm.cls x.cls) ∧ tO2 x sb i t.2.2 cs t.2.1 a d σ H fun v H' => D.nx (σ.set j (some v)) H'
theorem hds_of {C : CT} (k : Ct X nm G C) (hfn : ∀ x, X.fn x = true) {j fn : Nat} {cs : List Nat} (hon : (fn, cs) ∈ G.on) {n : Str} (hi : X.N[i]? = some n) : ∀ {hs : List (Nat × List Nat × Nat)} {hds : List ExceptHandler}, chkHo G X.N X.env.scope i j fn hs hds = true → HdsA X n hds (hs.map fun t => (Value.ref (nm.cls t.1), tsO nm G.sb i j cs t))
  | [], hds, h => by
    simp only [chkHo, List.isEmpty_iff] at h
    subst h
    exact .nil
  | (c, w, dd) :: r, hds, h => by
    simp only [chkHo] at h
    split at h <;> first | (cases h; done) | skip
    simp only [Bool.and_eq_true, decide_eq_true_eq] at h
    obtain ⟨h1, h2, h3, h4, h5, h6, h7, h8, h9, h10, h11⟩ := h
    cases hi.symm.trans h1
    split at h3
    · rename_i y hy
      obtain ⟨rfl, hg, ho⟩ := nameB_ok h3
      obtain ⟨hdb, _, _⟩ := okN_d ho
      obtain ⟨ys, af, fd, ps, s1, s2, s3, s4, s5⟩ := k.on _ hon
      have room := k.rmh
      refine .cons (show Names X _ (.ref (nm.cls c)) from ⟨hg, hdb, .inl (k.clg c _ hy)⟩) (fun a oe cls d pn hz hv => ⟨fun pins' s' σ' H' D' I' q' => ?_⟩) (hds_of k hfn hon hi h11)
      obtain ⟨x, hx, rfl, q'⟩ := q'
      simp only [tgB1, Bool.and_eq_true, decide_eq_true_eq] at h4
      obtain ⟨t1, t2, t3⟩ := h4
      have ot : OtN (X.suite a ((a, oe) :: pn)) nm G fn cs a oe := ⟨ys, af, fd, ps, s1, s2, ⟨room.dp, room.un⟩, List.mem_cons_self, s3, s4, s5⟩
      exact (pss_cons (ps_set (X := X.suite a ((a, oe) :: pn)) k.nd t1 (locB_ok t2) (pe_O2 (xok_of k hx hz hv) ot hz hv ⟨c, true, hx⟩ h5 h6 h7 h8 h9) (noComp_sw h10 _ _ _) (.inl (hfn _))) pss_nil).run pins' s' σ' H' D' I' q'
    · cases h3
theorem ds_try2 {C : CT} {w : Sa → AH → En → EK → Prop} {j fn : Nat} {cs : List Nat} {hs : List (Nat × List Nat × Nat)} {hds : List ExceptHandler} {body : List Stmt} {pos : Pos} (k : Ct X nm G C)
    (hst : X.stack = X.env :: X.outer) (hf : X.env.frame = some X.env.locals) (hfn : ∀ x, X.fn x = true)
    (hb : ∀ (pn : List (Addr × Obj)) (xe : Value → Shared → Prop), PassesOwn (model X.prog X.w) X.A X.env xe → PSs (X.tr pn xe) body (LS (X.tr pn xe) nm w))
    (hon : (fn, cs) ∈ G.on) (hji : j ≠ i) (hne : hds ≠ []) (hh : chkHo G X.N X.env.scope i j fn hs hds = true) :
    PS X (.Try body hds [] [] pos) (LS X nm (try2W w G.sb i j cs hs)) := by
  obtain ⟨h0, hr, rfl⟩ : ∃ h0 hr, hds = h0 :: hr := by
    cases hds with
    | nil => exact absurd rfl hne
    | cons a b => exact ⟨a, b, rfl⟩
  obtain ⟨n, hi, hln⟩ : ∃ n, X.N[i]? = some n ∧ X.env.scope.names.lookup n = some .local := by
    have h := hh
    cases hs with
    | nil => simp [chkHo] at h
    | cons t r =>
      obtain ⟨c, w, dd⟩ := t
      simp only [chkHo] at h
      split at h <;> first | (cases h; done) | skip
      simp only [Bool.and_eq_true, decide_eq_true_eq] at h
      exact ⟨_, h.1, h.2.1⟩
  have hds := hds_of k hfn hon hi hh
  refine ⟨fun pins s σ H D I q => ?_⟩
  obtain ⟨sa, m, h, Z, Ea, rs, rh, wq, tk, l⟩ := q
  refine (ps_try_asL (tb := tbW X nm w) hst hf k.nd hi hln tk (fun W pn xe tW po => ?_) hds).run pins s σ H D I ?_
  · refine PSs.imp (hb pn xe po) fun D' σ' H' q' => ?_
    obtain ⟨sa', m', h', Z', Ea', rs', rh', w', sub, l'⟩ := q'
    exact ⟨sa', m', h', Z', Ea', rs', rh', w', tW.imp sub, ⟨l'.nx, l'.rt, l'.bk, l'.ct⟩⟩
  · refine ⟨sa, m, h, Z, _, rs, rh, wq, fun cls d σ' H' z => ?_, l⟩
    obtain ⟨xx, sa', m', h', rx, rs', rh', ex', qx⟩ := z
    have key : ∀ hs : List (Nat × List Nat × Nat), try2E G.sb i j cs Z Ea xx sa' h' hs → wAsL X.K i (LW X.K nm H m Ea) D (hs.map fun t => (Value.ref (nm.cls t.1), tsO nm G.sb i j cs t)) cls d σ' H' := by
      intro hs
      induction hs with
      | nil => exact fun qx => ⟨xx, sa', m', h', rx, rs', rh', ex', qx⟩
      | cons t r ih =>
        intro qx
        obtain ⟨c, w, dd⟩ := t
        unfold try2E at qx
        obtain ⟨r1, r2⟩ := rx
        split at qx
        · rename_i e1
          obtain ⟨hil, b1, b2, e2, e3, q2⟩ := qx
          refine ⟨true, by rw [r1]; exact k.sbk.exm _ _ _ e1, fun _ a ha => ?_, fun z => nomatch z⟩
          have rsa : RS X.K H' m' (σ'.set i (some (.ref a))) (sa'.set i none) := rs'.hide
          refine ⟨xx, e1, r1, ?_, RXd.dOk r2, b1, b2, e2, e3, fun H2 p its g hp => ?_⟩
          · rw [List.getElem?_set_self (by rw [rs'.1]; exact hil)]
          · obtain ⟨rh2, ex2⟩ := g.ext rh'
            obtain ⟨a1, a2, a3⟩ := new_tup its rh2 hp (.cons (.str w) (.cons (.bl b1) (.cons (.bl b2) .nil)))
            exact l.nx _ _ _ _ _ ((((rsa.ext ex2).ext a3).set a1).hide) a2 (ex'.trans (ex2.trans a3)) q2
        · rename_i e1
          exact ⟨false, by rw [r1]; exact k.sbk.exm _ _ _ e1, (fun z => by cases z), fun _ => ih qx⟩
        · exact qx.elim
    exact key hs qx
end
end Rf
namespace Rf
open PySem PySem.Spec PyProof.Rows
section
variable {prog : Program} {w : World} {K : Type} [DecidableEq K]
def SetL (w : World) (knd : PySem.KeyKind prog w K) (h : Heap) (a : Addr) (S : K → Bool) (n : Nat) : Prop :=
  ∃ o es ep t, h.get? a = some o ∧ o.ExactSet ∧ o.data = .set es ep t ∧ ElemsOf knd es.toList ∧ (∀ k, S k = true ↔ ∃ e ∈ es.toList, knd.is k e.2 = true)
    ∧ es.size < scanBound ∧ t.fits es.size = true ∧ es.size = n ∧ L2.Ris t.place.toList ∧ (w.params.followText "set-order" = true ∨ t.led = true)
variable {knd : PySem.KeyKind prog w K} {A : Around} {E : Value → Shared → Prop} {s : Shared}
theorem setL_like {h : Heap} {a : Addr} {S T : K → Bool} {n m : Nat} (x : SetL w knd h a S n) (e : ∀ k, S k = T k) (en : n = m) : SetL w knd h a T m := by
  obtain rfl : S = T := funext e
  subst en
  exact x
theorem setL_tail {g : Bool → Sem Unit} (hg : ∀ (b : Bool) (s₁ : Shared) (Q' : Unit → Shared → Prop), Q' () s₁ → wpAny (model prog w) A (g b) Q' E s₁)
    {a : Addr} {o : Obj} {es : Array (Int × Value)} {ep : Nat} {t : SetTable} (ho : s.heap.get? a = some o) (hex : o.ExactSet) (hd : o.data = .set es ep t)
    {es1 : Array (Int × Value)} {t2 : SetTable} {S' : K → Bool} (g1 : ElemsOf knd es1.toList) (m1 : ∀ k, S' k = true ↔ ∃ e ∈ es1.toList, knd.is k e.2 = true)
    (hb1 : es1.size < scanBound) (hf2 : t2.fits es1.size = true) (hr : L2.Ris t2.place.toList) (hl : w.params.followText "set-order" = true ∨ t2.led = true) {wasDummy : Bool} {R : Option Bool → Shared → Prop}
    (hR : ∀ h', Heap.SameBut a s.heap h' → SetL w knd h' a S' es1.size → R (some true) { s with heap := h' }) :
    wpAny (model prog w) A (do
        storeSet a es1 t2
        if (!wasDummy && t2.tooFull) = true then do
            g (relayAll t2 es1 (SetTable.grown es1.size)).2.2
            storeSet a (relayAll t2 es1 (SetTable.grown es1.size)).1 (relayAll t2 es1 (SetTable.grown es1.size)).2.1
            pure (some true)
          else pure (some true)) R E s := by
  refine wpAny_bind (wpAny_storeSet_of ho hd ?_ (fits_of_scanBound hb1))
  have ho1 := L2.store_at (es' := es1) (t' := t2) ho hd
  have sb1 := Heap.SameBut.update s.heap a (Obj.putSet es1 t2)
  split
  · have pm := relayAll_perm t2 es1 (SetTable.grown es1.size)
    have hf3 := relayAll_fits t2 es1 (SetTable.grown es1.size)
    have hr3 := L2.relayAll_ris t2 es1 (SetTable.grown es1.size)
    have hl3 := L2.relayAll_led t2 es1 (SetTable.grown es1.size)
    generalize relayAll t2 es1 (SetTable.grown es1.size) = Z at pm hf3 hr3 hl3 ⊢
    obtain ⟨es2, t3, gave⟩ := Z
    dsimp only at pm hf3 hr3 hl3 ⊢
    have hsz : es2.size = es1.size := by rw [← Array.length_toList, pm.length_eq, Array.length_toList]
    have hb2 : es2.size < scanBound := by rw [hsz]; exact hb1
    refine wpAny_bind (hg _ _ _ ?_)
    refine wpAny_bind (wpAny_storeSet_of ho1 rfl ?_ (fits_of_scanBound hb2))
    have ho2 := L2.store_at (es' := es2) (t' := t3) ho1 rfl
    refine wpAny_pure (hR _ (sb1.trans (Heap.SameBut.update _ a _)) ?_)
    refine ⟨_, es2, _, t3, ho2, hex, rfl, fun e he => g1 e (pm.mem_iff.mp he), fun k => (m1 k).trans ⟨fun ⟨e, he, q⟩ => ⟨e, pm.mem_iff.mpr he, q⟩, fun ⟨e, he, q⟩ => ⟨e, pm.mem_iff.mp he, q⟩⟩, hb2, hf3, hsz, hr3, hl.imp id fun z => by rw [hl3]; exact z⟩
  · exact wpAny_pure (hR _ sb1 ⟨_, es1, _, t2, ho1, hex, rfl, g1, m1, hb1, hf2, rfl, hr, hl⟩)
theorem setL_add_hashed {a : Addr} {S : K → Bool} {n : Nat} {k : K} {x : Value} {Q : Bool → Shared → Prop} (hkey : knd.is k x = true) (hsc : x.scannable = true) (hS : SetL w knd s.heap a S n) (room : n + 1 < scanBound)
    (hQ : ∀ h', Heap.SameBut a s.heap h' → SetL w knd h' a (fun k' => S k' || decide (k' = k)) (if S k = true then n else n + 1) → Q (!S k) { s with heap := h' }) :
    wpAny (model prog w) A (setAddHashed a x (knd.hash k)) Q E s := by
  obtain ⟨o, es, ep, t, ho, hex, hd, hel, hm, hb, hf, hn, hr, hl⟩ := hS
  have hb1 : es.size + 1 < scanBound := by rw [hn]; exact room
  unfold setAddHashed setAddHashedIn
  refine wpAny_holding (wpAny_bind (wpAny_setState_of ho hd hf ?_))
  dsimp only
  rw [byScan_of hsc hb hel]
  simp only [↓reduceIte]
  unfold setAddByScan
  refine wpAny_bind ?_
  refine wpAny_bind (wpAny_rule ?_)
  refine wpAny_bind (wpAny_setScan_of hkey ho hd hf hel ?_)
  cases hfi : List.findIdx? (fun e => knd.is k e.2) es.toList with
  | some j =>
    dsimp only
    obtain ⟨hj, pj, _⟩ := List.findIdx?_eq_some_iff_getElem.mp hfi
    have hSk : S k = true := (hm k).2 ⟨es.toList[j], List.getElem_mem hj, pj⟩
    refine wpAny_pure (wpAny_pure ?_)
    have q := hQ s.heap (Heap.SameBut.refl a s.heap) ⟨o, es, ep, t, ho, hex, hd, hel, fun i => by
      rw [Bool.or_eq_true, decide_eq_true_eq, ← hm i]
      exact ⟨fun z => z.elim id (fun e => e ▸ hSk), .inl⟩, hb, hf, by rw [if_pos hSk]; exact hn, hr, hl⟩
    rw [hSk] at q
    exact q
  | none =>
    dsimp only
    have hSk : S k = false := by
      cases q : S k with
      | false => rfl
      | true =>
        obtain ⟨e, he, p⟩ := (hm k).1 q
        have c := List.findIdx?_eq_none_iff.mp hfi e he
        rw [p] at c
        cases c
    have hgw : ∀ (b : Bool) {s₁ : Shared} {Q' : Unit → Shared → Prop}, Q' () s₁ → wpAny (model prog w) A (match b with | true => rule "set.scan.the-table-gave-way" | false => pure ()) Q' E s₁ :=
      fun b s₁ Q' q => by cases b <;> first | exact wpAny_pure q | exact wpAny_rule q
    have pm := layNew_perm t es (knd.hash k) x
    have hf1 := layNew_fits t es (knd.hash k) x
    have hr1 := L2.layNew_ris t es (knd.hash k) x hr
    have hl1 := L2.layNew_led t es (knd.hash k) x
    generalize layNew t es (knd.hash k) x = Z at pm hf1 hr1 hl1 ⊢
    obtain ⟨es1, t1, wasDummy, gave⟩ := Z
    dsimp only at pm hf1 hr1 hl1 ⊢
    rw [Array.toList_push] at pm
    have g1 : ElemsOf knd es1.toList := (hel.push hkey hsc).perm pm
    have m1 : ∀ i, (S i || decide (i = k)) = true ↔ ∃ e ∈ es1.toList, knd.is i e.2 = true := mem_push_iff hkey hm pm
    have hsz : es1.size = n + 1 := by rw [← Array.length_toList, pm.length_eq, List.length_append, Array.length_toList, hn]; rfl
    have hb1' : es1.size < scanBound := by rw [hsz]; exact room
    have hled : w.params.followText "set-order" = true ∨ t1.led = true := hl.imp id fun z => by rw [hl1]; exact z
    have fin : ∀ h', Heap.SameBut a s.heap h' → SetL w knd h' a (fun j => S j || decide (j = k)) es1.size → Q true { s with heap := h' } := fun h' sb r => by
      have q := hQ h' sb
      rw [hSk] at q
      rw [hsz] at r
      exact q r
    refine wpAny_bind (hgw _ ?_)
    split
    · refine wpAny_bind ?_
      rw [hashByValue_scannable 8 hsc]
      refine wpAny_pure ?_
      refine setL_tail ?_ ho hex hd g1 m1 hb1' ?_ ?_ ?_ ?_
      · intro b s₁ Q' q; cases b <;> first | exact wpAny_pure q | exact wpAny_rule q
      · first | (split <;> first | exact hf1 | exact SetTable.fits_plain_off hf1) | exact hf1
      · first | (split <;> exact hr1) | exact hr1
      · first | (split <;> exact hled) | exact hled
      · intro h' sb r; dsimp only; exact wpAny_pure (fin h' sb r)
    · refine wpAny_bind (wpAny_pure ?_)
      simp only [↓reduceIte]
      refine setL_tail ?_ ho hex hd g1 m1 hb1' hf1 hr1 hled ?_
      · intro b s₁ Q' q; cases b <;> first | exact wpAny_pure q | exact wpAny_rule q
      · intro h' sb r; dsimp only; exact wpAny_pure (fin h' sb r)
end
end Rf
namespace Rf
open PySem PySem.Spec PyProof.Rows
theorem scan_key {k : L2.Key} {u : Value} (r : L2.RelV (L2.kV k) u) : u.scannable = true := by
  rcases k with i | x <;> (obtain ⟨t, e⟩ := r; rw [e]; rfl)
def hasK (l : List L2.Key) (k : L2.Key) : Bool := l.any fun z => decide (z = k)
theorem hasK_iff (l : List L2.Key) (k : L2.Key) : hasK l k = true ↔ k ∈ l := by
  unfold hasK
  rw [List.any_eq_true]
  exact ⟨fun ⟨z, h1, h2⟩ => of_decide_eq_true h2 ▸ h1, fun h => ⟨k, h, decide_eq_true rfl⟩⟩
def ddS (acc : List L2.Key) (k : L2.Key) : List L2.Key := if hasK acc k = true then acc else acc ++ [k]
def ddL (ks : List L2.Key) : List L2.Key := ks.foldl ddS []
theorem ddL_snoc (ks : List L2.Key) (k : L2.Key) : ddL (ks ++ [k]) = ddS (ddL ks) k := by
  unfold ddL
  rw [List.foldl_append]
  rfl
theorem ddS_mem (acc : List L2.Key) (k x : L2.Key) : x ∈ ddS acc k ↔ x ∈ acc ∨ x = k := by
  unfold ddS
  by_cases h : k ∈ acc
  · rw [if_pos ((hasK_iff _ _).mpr h)]
    exact ⟨.inl, fun q => q.elim id fun e => e ▸ h⟩
  · rw [if_neg fun z => h ((hasK_iff _ _).mp z), List.mem_append, List.mem_singleton]
theorem ddS_len (acc : List L2.Key) (k : L2.Key) : (ddS acc k).length = if hasK acc k = true then acc.length else acc.length + 1 := by
  unfold ddS
  split <;> simp
theorem ddL_le (ks : List L2.Key) : (ddL ks).length ≤ ks.length := by
  have key : ∀ (l acc : List L2.Key), (l.foldl ddS acc).length ≤ acc.length + l.length := by
    intro l
    induction l with
    | nil => intro acc; simp
    | cons x l ih =>
      intro acc
      have h1 := ih (ddS acc x)
      have h2 : (ddS acc x).length ≤ acc.length + 1 := by rw [ddS_len]; split <;> omega
      simp only [List.foldl_cons, List.length_cons]
      omega
  have := key ks []
  simpa [ddL] using this
theorem ddL_mem (ks : List L2.Key) (x : L2.Key) : x ∈ ddL ks ↔ x ∈ ks := by
  have key : ∀ (l acc : List L2.Key), x ∈ l.foldl ddS acc ↔ x ∈ acc ∨ x ∈ l := by
    intro l
    induction l with
    | nil => intro acc; simp
    | cons y l ih =>
      intro acc
      rw [List.foldl_cons, ih, ddS_mem, List.mem_cons]
      exact ⟨fun h => h.elim (fun h => h.elim .inl fun h => .inr (.inl h)) fun h => .inr (.inr h), fun h => h.elim (fun h => .inl (.inl h)) fun h => h.elim (fun h => .inl (.inr h)) .inr⟩
  have := key ks []
  simpa [ddL] using this
theorem ddL_nodup (ks : List L2.Key) : (ddL ks).length = ks.length ↔ ks.Nodup := by
  have key : ∀ (l acc : List L2.Key), acc.Nodup → ((l.foldl ddS acc).length = acc.length + l.length ↔ (acc ++ l).Nodup) := by
    intro l
    induction l with
    | nil => intro acc h; simpa using h
    | cons y l ih =>
      intro acc h
      have le : ∀ (l acc : List L2.Key), (l.foldl ddS acc).length ≤ acc.length + l.length := by
        intro l
        induction l with
        | nil => intro acc; simp
        | cons x l ih =>
          intro acc
          have h1 := ih (ddS acc x)
          have h2 : (ddS acc x).length ≤ acc.length + 1 := by rw [ddS_len]; split <;> omega
          simp only [List.foldl_cons, List.length_cons]
          omega
      rw [List.foldl_cons]
      by_cases hy : y ∈ acc
      · have e : ddS acc y = acc := by unfold ddS; rw [if_pos ((hasK_iff _ _).mpr hy)]
        rw [e]
        have := le l acc
        constructor
        · intro q
          simp only [List.length_cons] at q
          omega
        · intro q
          exfalso
          have := (List.nodup_append.mp q).2.2 y hy y (by simp)
          exact this rfl
      · have e : ddS acc y = acc ++ [y] := by unfold ddS; rw [if_neg fun z => hy ((hasK_iff _ _).mp z)]
        rw [e]
        have nd : (acc ++ [y]).Nodup := by
          rw [List.nodup_append]
          refine ⟨h, by simp, fun a ha b hb => ?_⟩
          simp at hb
          subst hb
          exact fun z => hy (z ▸ ha)
        have := ih (acc ++ [y]) nd
        simp only [List.length_append, List.length_cons, List.length_nil, List.append_assoc, List.singleton_append] at this ⊢
        rw [← this]
        constructor <;> intro q <;> omega
  have := key ks [] List.nodup_nil
  simpa [ddL] using this
section
variable {pg : Program} {w : World} {A : Around} {R : Result → Shared → Prop} {I : Addr} {fp wr : List Addr} {G : Array GenState → Array GenState → Prop} {n : Nat} {P : Nat → Value → Prop} {St : Nat → Shared → Prop}
def SetAt (pg : Program) (w : World) (h : Heap) (S : Addr) (ks : List L2.Key) (i : Nat) : Prop := SetL w (L2.mixKind pg w) h S (fun x => hasK (ddL (ks.take i)) x) (ddL (ks.take i)).length
theorem set_loop (W : WalksS pg w A.in1 I fp wr G n P St) (S : Addr) (nS : S ∉ fp) (ks : List L2.Key) (hn : ks.length = n)
    (at_ : ∀ i v, P i v → ∃ k, ks[i]? = some k ∧ L2.RelV (L2.kV k) v) (hb : n + 1 < scanBound) : ∀ (k i : Nat) (s : Shared), n - i = k → i ≤ n → St i s → SetAt pg w s.heap S ks i →
      (∀ s', Moved (S :: wr) G s s' → SetAt pg w s'.heap S ks n → R (.ok (.ret .none)) s') → codeAny (model pg w) A (.builtin "set.update.loop" ⟨[.ref S, .ref I], []⟩) R s := by
  have nW : S ∉ wr := fun z => nS (W.sub _ z)
  have sub : ∀ b ∈ wr, b ∈ S :: wr := fun b z => .tail _ z
  intro k
  induction k with
  | zero =>
    intro i s e1 e2 e3 e4 fin
    obtain rfl : i = n := by omega
    refine codeAny_builtin F.entry_set_update_loop ?_
    rw [Around.under_plainId F.plain_set_update_loop _]
    show wpAny _ A.in1 (pyNext (.ref I) >>= _) _ _ s
    refine wpAny_bind (W.done s _ _ e3 fun s2 mv => ?_)
    show wpAny _ A.in1 (ret Value.none) _ _ s2
    obtain ⟨o, es, ep, tb, ho, more⟩ := e4
    exact wpAny_pure (fin s2 (mv.mono sub) ⟨o, es, ep, tb, mv.heap S _ nW ho, more⟩)
  | succ k ih =>
    intro i s e1 e2 e3 e4 fin
    have lt : i < n := by omega
    refine codeAny_builtin F.entry_set_update_loop ?_
    rw [Around.under_plainId F.plain_set_update_loop _]
    show wpAny _ A.in1 (pyNext (.ref I) >>= _) _ _ s
    refine wpAny_bind (W.item i s _ _ lt e3 fun v s2 pv e5 mv => ?_)
    obtain ⟨ky, hk, rv⟩ := at_ i v pv
    have e6 : SetAt pg w s2.heap S ks i := by
      obtain ⟨o, es, ep, tb, ho, more⟩ := e4
      exact ⟨o, es, ep, tb, mv.heap S _ nW ho, more⟩
    have et : ks.take (i + 1) = ks.take i ++ [ky] := by rw [List.take_succ, hk]; rfl
    have kv := L2.kV_is (P := pg) (w := w) rv
    show wpAny _ A.in1 (holding [v] (setAdd S v) >>= _) _ _ s2
    refine wpAny_bind (wpAny_holding ?_)
    unfold setAdd
    refine wpAny_holding ?_
    refine wpAny_bind ((L2.mixKind pg w).pyHash (k := ky) kv ?_)
    have room : (ddL (ks.take i)).length + 1 < scanBound := by
      have := ddL_le (ks.take i)
      rw [List.length_take] at this
      omega
    refine setL_add_hashed (knd := L2.mixKind pg w) (s := { s2 with toks := s2.toks + 1 }) kv (scan_key rv) e6 room fun h3 sb e7 => ?_
    have e8 : SetAt pg w h3 S ks (i + 1) := by
      unfold SetAt
      rw [et, ddL_snoc]
      refine setL_like e7 (fun x => ?_) (ddS_len _ _).symm
      rw [Bool.eq_iff_iff, Bool.or_eq_true, hasK_iff, hasK_iff, ddS_mem, decide_eq_true_eq]
    refine wpAny_pure ⟨plainId_quiet F.plain_set_update_loop _, ih (i + 1) _ (by omega) lt (W.frame _ s2 _ _ e5 (Nat.le_succ _) fun b hb o e => ?_) e8 fun s4 mv4 e9 => ?_⟩
    · rw [sb.2 b (fun z : b = S => nS (z ▸ hb))]
      exact e
    · refine fin s4 (Moved.trans W.gtrans ((mv.mono sub).then_heap (Nat.le_succ _) fun b o hb e => ?_) mv4) e9
      rw [sb.2 b (fun z : b = S => hb (z ▸ .head _))]
      exact e
end
theorem keys_at : ∀ {us : List Value} {ks : List L2.Key}, L2.Vals (ks.map L2.kV) us → ∀ (i : Nat) (v : Value), us[i]? = some v → ∃ k, ks[i]? = some k ∧ L2.RelV (L2.kV k) v
  | [], _, _, i, v, h => by simp at h
  | u :: us, [], r, _, _, _ => by cases r
  | u :: us, k :: ks, .cons q t, 0, v, h => by
    simp at h
    subst h
    exact ⟨k, rfl, q⟩
  | u :: us, k :: ks, .cons q t, i + 1, v, h => by
    obtain ⟨k', e1, e2⟩ := keys_at t i v (by simpa using h)
    exact ⟨k', by simpa using e1, e2⟩
end Rf
namespace Rf
open PySem PySem.Spec PyProof.Rows
section
variable {pg : Program} {w : World} {A : Around} {E : Value → Shared → Prop} {s : Shared}
theorem call_set_listK {l : Addr} {vs : Array Value} {ks : List L2.Key} {Q : Value → Shared → Prop} (hh : A.handled = none) (hl : s.heap.IsList l vs) (hi : L2.Vals (ks.map L2.kV) vs.toList) (hb : vs.size + 1 < scanBound)
    (fin : ∀ (h2 : Heap) (tk : Nat), SetAt pg w h2 s.heap.objs.size ks vs.size → (∀ b o, b < s.heap.objs.size → s.heap.get? b = some o → h2.get? b = some o) → Q (.ref s.heap.objs.size) { s with heap := h2, toks := tk }) :
    wpAny (model pg w) A (call (.type "set") [.ref l]) Q E s := by
  obtain ⟨c, tl, mro⟩ := PySem.F.called_set.mro
  have made := PySem.F.called_set.made
  have subO := PySem.F.called_set.sub
  refine wpAny_call (codeAny_of_tree ?_)
  show wpAny _ _ (callAny (.type "set") _) _ _ _
  refine wpAny_pure ⟨Code.quiet_builtin _ (by decide +kernel), ?_⟩
  refine codeAny_builtin PySem.F.entry_type_call ?_
  rw [Around.under_plain (weight_type_call_type "set" [.ref l] []) rfl]
  have q1 := PySem.F.called_set.notType
  have q2 := PySem.F.called_set.canCreate
  have q3 := PySem.F.typeCall_set_1 (.ref l)
  repeat (any_goals (first | assumption | wp_step))
  refine codeAny_mono (L2.code_set_led1 (.ref l) (E := E) (Q₁ := fun ob s1 => ∃ led : Bool, (w.params.followText "set-order" = true ∨ led = true) ∧ ob = .ref s.heap.objs.size ∧ s1 = { s with heap := s.heap.push ({ cls := .type "set", dict := none, data := .set #[] 0 (.fresh 0 0 led) } : Obj) }) ⟨!w.params.followText "set-order", by cases w.params.followText "set-order" <;> simp, rfl, rfl⟩) fun r s1 hr => ?_
  cases r with
  | error e => exact hr
  | ok fl =>
    cases fl with
    | ret ob =>
      obtain ⟨led, hled, rfl, rfl⟩ := hr
      have gS : (s.heap.push ({ cls := .type "set", dict := none, data := .set #[] 0 (.fresh 0 0 led) } : Obj)).get? s.heap.objs.size = some ({ cls := .type "set", dict := none, data := .set #[] 0 (.fresh 0 0 led) } : Obj) := Heap.get?_push_size _ rfl
      have tS : Shared.TypeIs { s with heap := s.heap.push ({ cls := .type "set", dict := none, data := .set #[] 0 (.fresh 0 0 led) } : Obj) } (.ref s.heap.objs.size) "set" := ⟨_, gS, rfl⟩
      have q4 := PySem.F.called_set.init.lookup
      have q5 := PySem.F.called_set.init.bind (.ref s.heap.objs.size)
      repeat (any_goals (first | assumption | wp_step))
      refine codeAny_mono (codeAny_call_builtin (R := wants (fun r s2 => r = .none ∧ ∃ h2 tk, s2 = { s with heap := h2, toks := tk } ∧ SetAt pg w h2 s.heap.objs.size ks vs.size ∧ ∀ b o, b < s.heap.objs.size → s.heap.get? b = some o → h2.get? b = some o) E) PySem.F.called_set.init.plain PySem.F.entry_set_init (check_set_init_1 tS ?_)) fun r2 s2 hr2 => ?_
      · obtain ⟨ol, gl, cl, nl, dl⟩ := hl
        obtain ⟨oc, od, oda, osl⟩ := ol
        simp only at cl dl
        subst cl
        subst dl
        have gl2 : (s.heap.push ({ cls := .type "set", dict := none, data := .set #[] 0 (.fresh 0 0 led) } : Obj)).get? l = some { cls := .type "list", dict := od, data := .seq vs nl, slots := osl } := Heap.get?_push_of_some _ gl
        have p1 := PySem.F.sub_list_set
        have p2 := PySem.F.sub_list_frozenset
        have p3 : (Value.type "list" == Value.type "dict") = false := by decide
        have il : (s.heap.push ({ cls := .type "set", dict := none, data := .set #[] 0 (.fresh 0 0 led) } : Obj)).IsList l vs := ⟨_, gl2, rfl, nl, rfl⟩
        unfold Builtin.«set.__init__» noKeywords Builtin.Frozenset.updateFrom
        generalize ePI : pyIter = PI
        wp_walk
        subst ePI
        refine wpAny_pyIter_list il ?_
        refine wpAny_bind (wpAny_runValue ?_)
        have ltl : l < s.heap.objs.size := Heap.lt_size gl
        have hh3 : A.in1.in1.in1.handled = none := by simp [hh]
        have nI : l ≠ (s.heap.push ({ cls := .type "set", dict := none, data := .set #[] 0 (.fresh 0 0 led) } : Obj)).objs.size := by
          rw [Heap.size_push]
          exact Nat.ne_of_lt (.step ltl)
        have nS : s.heap.objs.size ∉ [(s.heap.push ({ cls := .type "set", dict := none, data := .set #[] 0 (.fresh 0 0 led) } : Obj)).objs.size, l] := by
          rw [Heap.size_push]
          simp
          exact Nat.ne_of_gt ltl
        have zk : ks.length = vs.size := by
          have := L2.Vals.length hi
          simpa using this
        refine set_loop ((Walks.list hh3 _ l nI vs).toS) s.heap.objs.size nS ks zk (fun i v hv => keys_at hi i v (by rw [Array.getElem?_toList]; exact hv)) hb (vs.size - 0) 0 _ (by omega) (Nat.zero_le _) ⟨⟨_, Heap.get?_push_size _ rfl, rfl, rfl⟩, (il.push _)⟩ ?hA ?hB
        case hA =>
          have gg : ((s.heap.push ({ cls := .type "set", dict := none, data := .set #[] 0 (.fresh 0 0 led) } : Obj)).push { cls := .type "list_iterator", data := .fields #[.ref l, .int 0 0] }).get? s.heap.objs.size = some ({ cls := .type "set", dict := none, data := .set #[] 0 (.fresh 0 0 led) } : Obj) := Heap.get?_push_of_some _ gS
          exact setL_like (S := fun _ => false) (n := 0) ⟨_, #[], 0, _, gg, ⟨rfl, rfl, rfl⟩, rfl, (fun e z => by simp at z), (fun k => by simp), (by decide), (by rfl), rfl, List.Pairwise.nil, hled⟩ (fun _ => rfl) rfl
        case hB =>
          intro s3 mv e3
          obtain ⟨h3, g3, d3, t3, o3⟩ := s3
          obtain rfl : g3 = s.gens := mv.gens
          obtain rfl : d3 = s.drawn := mv.drawn
          obtain rfl : o3 = s.os := mv.os
          show wpAny _ _ _ _ _ _
          refine wpAny_pure ?_
          show wpAny _ _ (ret Value.none) _ _ _
          refine wpAny_pure ⟨rfl, h3, t3, rfl, e3, fun b o hb e => ?_⟩
          have z1 : b ≠ s.heap.objs.size := Nat.ne_of_lt hb
          exact mv.heap b o (by simp; exact ⟨z1, Nat.ne_of_lt (.step hb)⟩) (Heap.get?_push_of_some _ (Heap.get?_push_of_some _ e))
      · cases r2 with
        | error e => exact hr2
        | ok fl2 =>
          cases fl2 with
          | ret r =>
            obtain ⟨rfl, h2, tk, rfl, e3, e4⟩ := hr2
            repeat (any_goals (first | assumption | wp_step))
            exact fin _ _ e3 e4
          | _ => exact hr2.elim
    | _ => exact hr.elim
end
end Rf
namespace Rf
open PySem PySem.Spec PyProof.Rows
section
variable {pg : Program} {w : World} {A : Around} {E : Value → Shared → Prop} {s : Shared}
theorem call_set_tupleK {l : Addr} {vs : Array Value} {ks : List L2.Key} {Q : Value → Shared → Prop} (hh : A.handled = none) (hl : s.heap.IsTuple l vs) (hi : L2.Vals (ks.map L2.kV) vs.toList) (hb : vs.size + 1 < scanBound)
    (fin : ∀ (h2 : Heap) (tk : Nat), SetAt pg w h2 s.heap.objs.size ks vs.size → (∀ b o, b < s.heap.objs.size → s.heap.get? b = some o → h2.get? b = some o) → Q (.ref s.heap.objs.size) { s with heap := h2, toks := tk }) :
    wpAny (model pg w) A (call (.type "set") [.ref l]) Q E s := by
  obtain ⟨c, tl, mro⟩ := PySem.F.called_set.mro
  have made := PySem.F.called_set.made
  have subO := PySem.F.called_set.sub
  refine wpAny_call (codeAny_of_tree ?_)
  show wpAny _ _ (callAny (.type "set") _) _ _ _
  refine wpAny_pure ⟨Code.quiet_builtin _ (by decide +kernel), ?_⟩
  refine codeAny_builtin PySem.F.entry_type_call ?_
  rw [Around.under_plain (weight_type_call_type "set" [.ref l] []) rfl]
  have q1 := PySem.F.called_set.notType
  have q2 := PySem.F.called_set.canCreate
  have q3 := PySem.F.typeCall_set_1 (.ref l)
  repeat (any_goals (first | assumption | wp_step))
  refine codeAny_mono (L2.code_set_led1 (.ref l) (E := E) (Q₁ := fun ob s1 => ∃ led : Bool, (w.params.followText "set-order" = true ∨ led = true) ∧ ob = .ref s.heap.objs.size ∧ s1 = { s with heap := s.heap.push ({ cls := .type "set", dict := none, data := .set #[] 0 (.fresh 0 0 led) } : Obj) }) ⟨!w.params.followText "set-order", by cases w.params.followText "set-order" <;> simp, rfl, rfl⟩) fun r s1 hr => ?_
  cases r with
  | error e => exact hr
  | ok fl =>
    cases fl with
    | ret ob =>
      obtain ⟨led, hled, rfl, rfl⟩ := hr
      have gS : (s.heap.push ({ cls := .type "set", dict := none, data := .set #[] 0 (.fresh 0 0 led) } : Obj)).get? s.heap.objs.size = some ({ cls := .type "set", dict := none, data := .set #[] 0 (.fresh 0 0 led) } : Obj) := Heap.get?_push_size _ rfl
      have tS : Shared.TypeIs { s with heap := s.heap.push ({ cls := .type "set", dict := none, data := .set #[] 0 (.fresh 0 0 led) } : Obj) } (.ref s.heap.objs.size) "set" := ⟨_, gS, rfl⟩
      have q4 := PySem.F.called_set.init.lookup
      have q5 := PySem.F.called_set.init.bind (.ref s.heap.objs.size)
      repeat (any_goals (first | assumption | wp_step))
      refine codeAny_mono (codeAny_call_builtin (R := wants (fun r s2 => r = .none ∧ ∃ h2 tk, s2 = { s with heap := h2, toks := tk } ∧ SetAt pg w h2 s.heap.objs.size ks vs.size ∧ ∀ b o, b < s.heap.objs.size → s.heap.get? b = some o → h2.get? b = some o) E) PySem.F.called_set.init.plain PySem.F.entry_set_init (check_set_init_1 tS ?_)) fun r2 s2 hr2 => ?_
      · obtain ⟨ol, gl, cl, nl, dl⟩ := hl
        obtain ⟨oc, od, oda, osl⟩ := ol
        simp only at cl dl
        subst cl
        subst dl
        have gl2 : (s.heap.push ({ cls := .type "set", dict := none, data := .set #[] 0 (.fresh 0 0 led) } : Obj)).get? l = some { cls := .type "tuple", dict := od, data := .seq vs nl, slots := osl } := Heap.get?_push_of_some _ gl
        have p1 := PySem.F.sub_tuple_set
        have p2 := PySem.F.sub_tuple_frozenset
        have p3 : (Value.type "tuple" == Value.type "dict") = false := by decide
        have il : (s.heap.push ({ cls := .type "set", dict := none, data := .set #[] 0 (.fresh 0 0 led) } : Obj)).IsTuple l vs := ⟨_, gl2, rfl, nl, rfl⟩
        unfold Builtin.«set.__init__» noKeywords Builtin.Frozenset.updateFrom
        generalize ePI : pyIter = PI
        wp_walk
        subst ePI
        refine wpAny_pyIter_tuple il ?_
        refine wpAny_bind (wpAny_runValue ?_)
        have ltl : l < s.heap.objs.size := Heap.lt_size gl
        have hh3 : A.in1.in1.in1.handled = none := by simp [hh]
        have nI : l ≠ (s.heap.push ({ cls := .type "set", dict := none, data := .set #[] 0 (.fresh 0 0 led) } : Obj)).objs.size := by
          rw [Heap.size_push]
          exact Nat.ne_of_lt (.step ltl)
        have nS : s.heap.objs.size ∉ [(s.heap.push ({ cls := .type "set", dict := none, data := .set #[] 0 (.fresh 0 0 led) } : Obj)).objs.size, l] := by
          rw [Heap.size_push]
          simp
          exact Nat.ne_of_gt ltl
        have zk : ks.length = vs.size := by
          have := L2.Vals.length hi
          simpa using this
        refine set_loop ((Walks.tuple hh3 _ l nI vs).toS) s.heap.objs.size nS ks zk (fun i v hv => keys_at hi i v (by rw [Array.getElem?_toList]; exact hv)) hb (vs.size - 0) 0 _ (by omega) (Nat.zero_le _) ⟨⟨_, Heap.get?_push_size _ rfl, rfl, rfl⟩, (il.push _)⟩ ?hA ?hB
        case hA =>
          have gg : ((s.heap.push ({ cls := .type "set", dict := none, data := .set #[] 0 (.fresh 0 0 led) } : Obj)).push { cls := .type "tuple_iterator", data := .fields #[.ref l, .int 0 0] }).get? s.heap.objs.size = some ({ cls := .type "set", dict := none, data := .set #[] 0 (.fresh 0 0 led) } : Obj) := Heap.get?_push_of_some _ gS
          exact setL_like (S := fun _ => false) (n := 0) ⟨_, #[], 0, _, gg, ⟨rfl, rfl, rfl⟩, rfl, (fun e z => by simp at z), (fun k => by simp), (by decide), (by rfl), rfl, List.Pairwise.nil, hled⟩ (fun _ => rfl) rfl
        case hB =>
          intro s3 mv e3
          obtain ⟨h3, g3, d3, t3, o3⟩ := s3
          obtain rfl : g3 = s.gens := mv.gens
          obtain rfl : d3 = s.drawn := mv.drawn
          obtain rfl : o3 = s.os := mv.os
          show wpAny _ _ _ _ _ _
          refine wpAny_pure ?_
          show wpAny _ _ (ret Value.none) _ _ _
          refine wpAny_pure ⟨rfl, h3, t3, rfl, e3, fun b o hb e => ?_⟩
          have z1 : b ≠ s.heap.objs.size := Nat.ne_of_lt hb
          exact mv.heap b o (by simp; exact ⟨z1, Nat.ne_of_lt (.step hb)⟩) (Heap.get?_push_of_some _ (Heap.get?_push_of_some _ e))
      · cases r2 with
        | error e => exact hr2
        | ok fl2 =>
          cases fl2 with
          | ret r =>
            obtain ⟨rfl, h2, tk, rfl, e3, e4⟩ := hr2
            repeat (any_goals (first | assumption | wp_step))
            exact fin _ _ e3 e4
          | _ => exact hr2.elim
    | _ => exact hr.elim
end
end Rf
namespace Rf
open PySem PySem.Spec PyProof.Rows
section
variable {P : Program} {w : World} {A : Around} {E : Value → Shared → Prop} {s : Shared}
theorem str_of_kind {k : L2.Key} {v : Value} (h : (L2.mixKind P w).is k v = true) {x : List Nat} (hk : k = .inr (mkS x)) : ∃ t, v = .str (mkS x) t := by
  subst hk
  rcases L2.keyIs_shape (show L2.keyIs (.inr (mkS x)) v = true from h) with ⟨j, t, e1, e2⟩ | ⟨y, t, e1, e2⟩
  · cases e1
  · cases e1
    exact ⟨t, e2⟩
theorem each_strs {ks : List (List Nat)} : ∀ {vs : List Value}, (∀ v ∈ vs, ∃ x ∈ ks, ∃ t, v = Value.str (mkS x) t) → ∃ bs : List (List Nat), PySem.W.EachIs (fun v b => ∃ t, v = Value.str (mkS b) t) vs bs ∧ ∀ b ∈ bs, b ∈ ks
  | [], _ => ⟨[], .nil, by simp⟩
  | v :: vs, h => by
    obtain ⟨x, hx, ht⟩ := h v List.mem_cons_self
    obtain ⟨bs, e, hb⟩ := each_strs fun u hu => h u (List.mem_cons_of_mem _ hu)
    exact ⟨x :: bs, .cons ht e, fun b hm => by rcases List.mem_cons.mp hm with rfl | hm; exact hx; exact hb b hm⟩
theorem each_mem {R : Value → List Nat → Prop} : ∀ {vs : List Value} {bs : List (List Nat)}, PySem.W.EachIs R vs bs → ∀ v ∈ vs, ∃ b ∈ bs, R v b
  | _, _, .nil, v, h => by cases h
  | _, _, .cons r t, v, h => by
    rcases List.mem_cons.mp h with rfl | h
    · exact ⟨_, List.mem_cons_self, r⟩
    · obtain ⟨b, hb, rb⟩ := each_mem t v h
      exact ⟨b, List.mem_cons_of_mem _ hb, rb⟩
theorem nodup_count {ds L : List L2.Key} (nd : ds.Nodup) (sub : ∀ k ∈ ds, k ∈ L) (l : L.length = ds.length) : L.Nodup := by
  have h1 := List.Nodup.length_le_of_subset nd (fun k hk => (ddL_mem L k).mpr (sub k hk))
  have h2 := ddL_le L
  exact (ddL_nodup L).mp (by omega)
theorem sorted_setL {a : Addr} {S : L2.Key → Bool} {ds : List L2.Key} {ks : List (List Nat)} {Q : Value → Shared → Prop} (hh : A.handled = none) (hu : A.units + 3 < cLine) (R : SetL w (L2.mixKind P w) s.heap a S ds.length) (nd : ds.Nodup) (hS : ∀ k, S k = true ↔ k ∈ ds)
    (hds : ∀ k, k ∈ ds ↔ ∃ x ∈ ks, k = .inr (mkS x))
    (hQ : ∀ s' p (out : Array Value) (c : Nat) (bs : List (List Nat)), (∀ b o, s.heap.get? b = some o → s'.heap.get? b = some o) → s'.gens = s.gens → s'.os = s.os → s.heap.objs.size ≤ p → s'.heap.get? p = some (seqObj "list" out c) →
      bs.Nodup → (∀ x, x ∈ bs ↔ x ∈ ks) → PySem.W.EachIs (fun v b => ∃ t, v = Value.str (mkS b) t) out.toList (bs.mergeSort (PySem.W.dataLe false fun x => PyData.str (mkS x))) → Q (.ref p) s') :
    wpAny (model P w) A (call (.builtin "sorted") [.ref a]) Q E s := by
  obtain ⟨o, es, ep, t, ho, hex, hd, g, hm, hb, hf, hn, hr, hl⟩ := R
  refine Calls.call_function_entry kind_sorted plain_sorted entry_sorted (args_sorted1 _) ?_
  unfold Builtin.«sorted»
  refine wpAny_bind (m := checkCount "sorted" 1 1 _) (wpAny_pure ?_)
  refine wpAny_bind (L2.collect_set (A := A.in1) hh ⟨o, ho, hex.1, hd⟩ hf hb hr hl fun s1 vs k1 hz g1 o1 pm => ?_)
  have hvl : vs.length = ds.length := by rw [pm.length_eq, List.length_map, Array.length_toList]; exact hn
  have hv : ∀ v ∈ vs, ∃ x ∈ ks, ∃ t, v = Value.str (mkS x) t := fun v hv => by
    obtain ⟨e, he, q⟩ := List.mem_map.mp (pm.mem_iff.mp hv)
    obtain ⟨⟨k, hk, _⟩, _⟩ := g e he
    obtain ⟨x, hx, ek⟩ := (hds k).mp ((hS k).mp ((hm k).mpr ⟨e, he, hk⟩))
    obtain ⟨t, et⟩ := str_of_kind hk ek
    exact ⟨x, hx, t, by rw [← q]; exact et⟩
  obtain ⟨bs, eb, hbs⟩ := each_strs hv
  have lbs : bs.length = ds.length := by rw [← eb.length]; exact hvl
  have cov : ∀ k ∈ ds, k ∈ bs.map fun x => (Sum.inr (mkS x) : L2.Key) := fun k hk => by
    obtain ⟨e, he, p⟩ := (hm k).mp ((hS k).mpr hk)
    obtain ⟨x, hx, ek⟩ := (hds k).mp hk
    obtain ⟨t, et⟩ := str_of_kind p ek
    have hmem : e.2 ∈ vs := pm.mem_iff.mpr (List.mem_map_of_mem he)
    obtain ⟨b, hb', t', e'⟩ := each_mem eb e.2 hmem
    rw [et] at e'
    injection e' with e1 _
    rw [ek, e1]
    exact List.mem_map_of_mem hb'
  have ndL := nodup_count nd cov (by rw [List.length_map]; exact lbs)
  have ndb : bs.Nodup := (List.pairwise_map.mp ndL).imp fun hne e => hne (by rw [e])
  have mem : ∀ x, x ∈ bs ↔ x ∈ ks := fun x => ⟨hbs x, fun hx => by
    have := cov _ ((hds (.inr (mkS x))).mpr ⟨x, hx, rfl⟩)
    obtain ⟨y, hy, e⟩ := List.mem_map.mp this
    have e2 : mkS y = mkS x := Sum.inr.inj e
    have e3 : y = x := by
      have := congrArg (fun z : Str => z.cps.toList) e2
      simpa [mkS] using this
    rw [← e3]
    exact hy⟩
  refine wpAny_bind (wpAny_newList ?_ (by
    have := fits_of_scanBound hb
    rw [hvl, ← hn]
    exact this))
  have hoL : (s1.heap.push (seqObj "list" vs.toArray 0)).get? s1.heap.objs.size = some (seqObj "list" vs.toArray 0) := Heap.get?_push_size _ rfl
  have er : PySem.W.EachIs (fun v b => ∃ as, Reads (PySem.W.sortingHeap (s1.heap.push (seqObj "list" vs.toArray 0)) s1.heap.objs.size vs) v ((fun x => PyData.str (mkS x)) b) as) vs bs := eb.mono fun v b ⟨t, e⟩ => ⟨[], by rw [e]; exact .str _ t⟩
  have hal : PySem.W.AllAlike (bs.map fun x => PyData.str (mkS x)) := fun d hd d' hd' => by
    obtain ⟨x, _, rfl⟩ := List.mem_map.mp hd
    obtain ⟨y, _, rfl⟩ := List.mem_map.mp hd'
    rfl
  have hk : PySem.W.Sortable (bs.map fun x => PyData.str (mkS x)) := .inr fun d hd => by
    obtain ⟨x, _, rfl⟩ := List.mem_map.mp hd
    exact ⟨(fun z => nomatch z), fun xs z => nomatch z⟩
  have hL : vs.length ≤ sizeLine := by
    have := fits_of_scanBound hb
    rw [hvl, ← hn]
    exact this
  refine wpAny_bind (wpAny_holding (wpAny_call_entry slot_list_sort ⟨_, hoL, rfl⟩ entry_list_sort ?body (args_list_sort _)))
  case body =>
    refine PySem.W.list_sort_vals (s := { s1 with heap := s1.heap.push (seqObj "list" vs.toArray 0) }) hoL (PySem.W.SortsAt.data (s := { s1 with heap := PySem.W.sortingHeap (s1.heap.push (seqObj "list" vs.toArray 0)) s1.heap.objs.size vs }) (PySem.W.each_map (R := fun v d => ∃ as, Reads (PySem.W.sortingHeap (s1.heap.push (seqObj "list" vs.toArray 0)) s1.heap.objs.size vs) v d as) (fun x => PyData.str (mkS x)) er) hal hk (PySem.W.bound_map fun b hb => ?_)) hL ?_
    · show A.units + 1 + 1 + (PyData.str (mkS b)).depth < cLine
      simp only [PyData.depth]
      omega
    · refine ⟨_, rfl, ?_⟩
      obtain ⟨c, hc⟩ := PyProof.Rows.sortedHeap_at (vs := vs) (out := (PySem.W.sortVals (PySem.W.dataKind (PySem.W.sortingHeap (s1.heap.push (seqObj "list" vs.toArray 0)) s1.heap.objs.size vs) (bs.map fun x => PyData.str (mkS x))) false vs vs).toArray) hoL
      have ed := PySem.W.sortVals_data false eb er hal
      refine wpAny_pure ⟨_, rfl, hQ _ s1.heap.objs.size _ c bs (fun b u e => ?_) g1 o1 hz hc ndb mem (by simpa using ed)⟩
      have q := k1 b u e
      have hlt := Heap.lt_size q
      rw [PyProof.Rows.sortedHeap_old (Nat.ne_of_lt hlt) (by rw [size_push']; exact Nat.lt_succ_of_lt hlt)]
      exact Heap.get?_push_of_some _ q
end
end Rf
namespace Rf
open PySem PySem.Spec PyProof.Rows L2
section
variable {X : Cx} {nm : Nm} {G : Gi} {C : CT}
theorem dd_len (ks : List Kd) : (ddL (ks.map toK)).length = (ddK ks).length := by
  have key : ∀ (l acc : List Kd), (l.map toK).foldl ddS (acc.map toK) = (l.foldl (fun acc k => if (acc.any fun z => decide (z = k)) = true then acc else acc ++ [k]) acc).map toK := by
    intro l
    induction l with
    | nil => intro acc; rfl
    | cons x l ih =>
      intro acc
      have e : hasK (acc.map toK) (toK x) = acc.any fun z => decide (z = x) := by
        unfold hasK
        rw [List.any_map]
        congr 1
        funext z
        rw [Bool.eq_iff_iff]
        simp only [Function.comp_apply, decide_eq_true_eq]
        exact toK_inj
      rw [List.map_cons, List.foldl_cons, List.foldl_cons]
      unfold ddS
      rw [e]
      by_cases hx : (acc.any fun z => decide (z = x)) = true
      · rw [if_pos hx, if_pos hx]
        exact ih acc
      · rw [if_neg hx, if_neg hx]
        have := ih (acc ++ [x])
        rwa [List.map_append] at this
  have := key ks []
  unfold ddL ddK
  rw [List.map_nil] at this
  rw [this, List.length_map]
theorem rv_key {K : PySem.W.Frag} {H : Hp} {m : List Addr} {v : V} {k : Kd} (r : RV K H m v (kD k)) : v = kV (toK k) := by
  cases k with
  | inl i => cases r; rfl
  | inr x => cases r; rfl
theorem rvs_keys {K : PySem.W.Frag} {H : Hp} {m : List Addr} : ∀ {vs : List V} {ks : List Kd}, RVs K H m vs (ks.map kD) → vs = (ks.map toK).map kV
  | _, [], r => by cases r; rfl
  | _, k :: ks, r => by
    cases r with
    | cons h t => rw [rv_key h, rvs_keys t]; rfl
theorem de_nset {a : M} {x z : Str} {y : Expr} {p p2 q pos : Pos} (k : Ct X nm G C) (hn : nameB X.env.scope (Str.ofString "len") x = true) (hz : nameB X.env.scope (Str.ofString "set") z = true) (ha : DE X nm y (wE C a))
    (na : starEach [y] X.env = (false, eval y X.env) :: starEach [] X.env) : DE X nm (.Call (.Name x p) [.Call (.Name z p2) [y] [] q] [] pos) (wE C (.nset a)) := by
  obtain ⟨rfl, hg, ho⟩ := nameB_ok hn
  obtain ⟨rfl, hg2, ho2⟩ := nameB_ok hz
  have hm : X.mg (Str.ofString "len") = none := mem_blt k (by simp [bltS])
  have hm2 : X.mg (Str.ofString "set") = none := mem_blt k (by simp [bltS])
  refine ⟨fun pins s σ H Q I w0 => ?_⟩
  obtain ⟨sa, m, h, Qa, Ea, rs, rh, w, tk, fin⟩ := w0
  simp only [wE] at w
  refine Call_ (ld_blt (u := .builtin "len") I hg hm (by decide +kernel) ?_)
  refine callWith_builtin1 (args_cons ?_ rfl) rfl rfl
  refine Call_ (ld_blt (u := .type "set") I hg2 hm2 (by decide +kernel) ?_)
  refine callWith_type1 (args_cons (thn (ha.run pins s σ H (fun v H1 => ∃ m1 d h1, RV X.K H1 m1 v d ∧ RH X.K nm H1 m1 h1 ∧ Ext H m H1 m1 ∧ ∃ ks : List Kd, itemsOf h1 d = some (ks.map kD) ∧ ks.length ≤ 4000 ∧ Qa (.int ((ddK ks).length : Int)) h1) I
    ⟨sa, m, h, _, Ea, rs, rh, w, tk, fun v H1 m1 d h1 rv rh1 ex1 q1 => ⟨m1, d, h1, rv, rh1, ex1, q1⟩⟩) fun u s1 ⟨v, H1, I1, ru, m1, d, h1, rv, rh1, ex1, ks, e, lk, q1⟩ => args_nil ?_) na) na rfl
  obtain ⟨l, xs, rfl, sq, rvs⟩ := items_of rh1 rv e
  obtain rfl : u = Value.ref l := ru
  have ex := rvs_keys rvs
  subst ex
  have done : ∀ (its : List Value), Vals ((ks.map toK).map kV) its → ∀ (h2 : Heap) (tk : Nat), SetAt X.prog X.w h2 s1.heap.objs.size (ks.map toK) its.toArray.size →
      (∀ b o, b < s1.heap.objs.size → s1.heap.get? b = some o → h2.get? b = some o) →
      wpAny (model X.prog X.w) X.A (spliced (backTo pos (starEach [] X.env))) (fun vs s2 => wpAny (model X.prog X.w) X.A (call (.builtin "len") (Value.ref s1.heap.objs.size :: vs)) (EP X pins σ Q) X.xe s2) X.xe { s1 with heap := h2, toks := tk } := by
    intro its r h2 tk hS hk
    refine args_nil ?_
    have el : its.toArray.size = (ks.map toK).length := by
      rw [List.size_toArray, ← Vals.length r, List.length_map]
    unfold SetAt at hS
    rw [el, List.take_length, dd_len] at hS
    have le : (ddK ks).length ≤ 4000 := by
      rw [← dd_len]
      have := ddL_le (ks.map toK)
      rw [List.length_map] at this
      omega
    obtain ⟨o, es, ep, t, g1, g2, g3, _, _, _, g4, g5, _⟩ := hS
    have I2 : Inv X pins σ H1 { s1 with heap := h2, toks := tk } := I1.kept fun b o e => hk b o (Heap.lt_size e) e
    exact call_len_set g1 g2 g3 g4 (by rw [g5]; omega) ⟨.int (ddK ks).length, H1, I2.tok _, ⟨_, by rw [g5]⟩, fin _ _ _ _ _ (.int _) rh1 ex1 q1⟩
  rcases sq with sq | sq
  · obtain ⟨its, r, pl, hz⟩ := I1.list sq
    refine call_set_listK (I1.ok.hd k.calm) pl.isList (by simpa using r) ?_ fun h2 tk hS hk => done its r h2 tk hS hk
    rw [List.size_toArray, ← Vals.length r, List.length_map, List.length_map]
    unfold scanBound
    omega
  · obtain ⟨its, r, pl, hz⟩ := I1.tuple sq
    refine call_set_tupleK (I1.ok.hd k.calm) pl (by simpa using r) ?_ fun h2 tk hS hk => done its r h2 tk hS hk
    rw [List.size_toArray, ← Vals.length r, List.length_map, List.length_map]
    unfold scanBound
    omega
def rIsK (K : PySem.W.Frag) (nm : Nm) : List V → Hp → VK → Prop := fun xs H Q => ∃ (a : Addr) (c : V) (cv : Value) (xc : Nat) (b : Bool) (oe : Obj), xs = [.ref a, c] ∧ H a = some (.ext fun h => h.get? a = some oe) ∧ oe.cls = .ref (nm.cls xc) ∧ oe.dict = none ∧ (∃ vs, oe.data = .fields vs) ∧
  (∀ u, RelV c u → u = cv) ∧ ExcC K (nm.cls xc) ∧ PySem.W.kitOne K (.ref (nm.cls xc)) cv = some b ∧ Q (.bl b) H
theorem call_isK : CallR X (.builtin "isinstance") (rIsK X.K nm) := by
  intro pins s σ H xs us Q I r h
  obtain ⟨a, c, cv, xc, b, oe, rfl, h1, h2, h3, ⟨vs, h4⟩, h5, C0, e, q⟩ := h
  obtain ⟨u1, u2, rfl, r1, r2⟩ := vals2 r
  obtain rfl : u1 = Value.ref a := r1
  obtain rfl := h5 _ r2
  have hget : s.heap.get? a = some oe := (show ObjOk X.prog X.w H s.heap a (.ext fun h => h.get? a = some oe) from I.hok a _ h1).1
  have J : PySem.W.InstAt s.heap a oe (nm.cls xc) none := by
    obtain ⟨oc, od, oda, osl⟩ := oe
    dsimp only at h2 h3 h4
    subst h2 h3 h4
    exact ⟨hget, rfl, rfl, trivial⟩
  exact PySem.W.kia_one (kitx_of C0) I.kIn J e (fun z => nomatch z) fun tk => ⟨.bl b, H, I.kept (t' := tk) fun _ _ z => z, rfl, q⟩
theorem the_exc {v : V} {n xc : Nat} {h : AH} {H : Hp} {m : List Addr} (rh : RH X.K nm H m h) (r : RV X.K H m v (.ref n)) (e : h[n]? = some (.exc xc)) : ∃ a oe, v = .ref a ∧ H a = some (.ext fun h => h.get? a = some oe) ∧ oe.cls = .ref (nm.cls xc) ∧ oe.dict = none ∧ ∃ vs, oe.data = .fields vs := by
  cases r with
  | ref hm =>
    obtain ⟨a, h1, oe, h2⟩ := rh.nth e
    rw [hm] at h1
    cases h1
    exact ⟨_, oe, rfl, h2⟩
theorem de_isx {c : Nat} {x z : Str} {a : M} {y : Expr} {p pz pos : Pos} (k : Ct X nm G C) (hn : nameB X.env.scope (Str.ofString "isinstance") x = true) (hz : (match G.cl[c]? with | some n => nameB X.env.scope n z | none => false) = true) (ha : DE X nm y (wE C a))
    (he : starEach [y, .Name z pz] X.env = (false, eval y X.env) :: starEach [.Name z pz] X.env) :
    DE X nm (.Call (.Name x p) [y, .Name z pz] [] pos) (wE C (.isx G.sb c a)) := by
  obtain ⟨rfl, hg, ho⟩ := nameB_ok hn
  obtain ⟨hdb, _, hnn⟩ := okN_d ho
  have hm : X.mg (Str.ofString "isinstance") = none := mem_blt k (by simp [bltS])
  have pz' : PE X (.Name z pz) (tC (.ref (nm.cls c))) := by
    split at hz
    · rename_i yy hy
      obtain ⟨rfl, hg2, ho2⟩ := nameB_ok hz
      obtain ⟨hdb2, _, _⟩ := okN_d ho2
      exact pe_glob hg2 (k.clg c _ hy) rfl hdb2
    · cases hz
  refine PE.imp (pe_callB (call_isK (nm := nm)) hg hm (by decide +kernel) (pa_cons ha (pa_cons pz' pa_nil rfl) he) hnn hdb he rfl) fun σ H Q q => ?_
  obtain ⟨sa, m, h, Qa, Ea, rs, rh, w, tk, fin⟩ := q
  simp only [wE] at w
  refine ⟨sa, m, h, _, Ea, rs, rh, w, tk, fun v H1 m1 d1 h1 rv rh1 ex1 q1 => ?_⟩
  obtain ⟨n, xc, b, rfl, e, es, q⟩ := q1
  obtain ⟨aa, oe, rfl, e1, e2, e3, e4⟩ := the_exc rh1 rv e
  exact ⟨aa, .ref (nm.cls c), .ref (nm.cls c), xc, b, oe, rfl, e1, e2, e3, e4, fun u z => z, k.sbk.xc _ _ _ es, k.sbk.kit _ _ _ es, fin _ _ _ _ _ (.bl _) rh1 ex1 q⟩
theorem de_isxv {x z : Str} {a : M} {y : Expr} {p pz pos : Pos} (k : Ct X nm G C) (hn : nameB X.env.scope (Str.ofString "isinstance") x = true) (hz : nameB X.env.scope (Str.ofString "ValueError") z = true) (ha : DE X nm y (wE C a))
    (he : starEach [y, .Name z pz] X.env = (false, eval y X.env) :: starEach [.Name z pz] X.env) :
    DE X nm (.Call (.Name x p) [y, .Name z pz] [] pos) (wE C (.isxv G.sb a)) := by
  obtain ⟨rfl, hg, ho⟩ := nameB_ok hn
  obtain ⟨rfl, hg2, ho2⟩ := nameB_ok hz
  obtain ⟨hdb, _, hnn⟩ := okN_d ho
  obtain ⟨hdb2, _, hnn2⟩ := okN_d ho2
  have hm : X.mg (Str.ofString "isinstance") = none := mem_blt k (by simp [bltS])
  have hm2 : X.mg (Str.ofString "ValueError") = none := mem_blt k (by simp [bltS])
  have pv : PE X (.Name (Str.ofString "ValueError") pz) (tC (.ty "ValueError")) := pe_bltn hg2 hm2 (by decide +kernel) rfl hnn2 hdb2
  refine PE.imp (pe_callB (call_isK (nm := nm)) hg hm (by decide +kernel) (pa_cons ha (pa_cons pv pa_nil rfl) he) hnn hdb he rfl) fun σ H Q q => ?_
  obtain ⟨sa, m, h, Qa, Ea, rs, rh, w, tk, fin⟩ := q
  simp only [wE] at w
  refine ⟨sa, m, h, _, Ea, rs, rh, w, tk, fun v H1 m1 d1 h1 rv rh1 ex1 q1 => ?_⟩
  obtain ⟨n, xc, c, b, rfl, e, es, q⟩ := q1
  obtain ⟨aa, oe, rfl, e1, e2, e3, e4⟩ := the_exc rh1 rv e
  exact ⟨aa, .ty "ValueError", .type "ValueError", xc, true, oe, rfl, e1, e2, e3, e4, fun u z => z, k.sbk.xc _ _ _ es, k.sbk.ve _ _ _ es, fin _ _ _ _ _ (.bl _) rh1 ex1 q⟩
end
end Rf
namespace Rf
open PySem PySem.Spec PyProof.Rows L2
theorem ddL_nd (ks : List L2.Key) : (ddL ks).Nodup := by
  have key : ∀ (l acc : List L2.Key), acc.Nodup → (l.foldl ddS acc).Nodup := by
    intro l
    induction l with
    | nil => intro acc h; exact h
    | cons y l ih =>
      intro acc h
      rw [List.foldl_cons]
      refine ih _ ?_
      unfold ddS
      split
      · exact h
      · rename_i hy
        rw [List.nodup_append]
        refine ⟨h, by simp, fun a ha b hb => ?_⟩
        rw [List.mem_singleton] at hb
        subst hb
        exact fun z => hy ((hasK_iff _ _).mpr (z ▸ ha))
  exact key ks [] List.nodup_nil
section
variable {X : Cx} {nm : Nm} {G : Gi}
theorem each_strV : ∀ {us : List Value} {bs : List (List Nat)}, PySem.W.EachIs (fun v b => ∃ t, v = Value.str (mkS b) t) us bs → Vals (bs.map fun b => V.str (mkS b)) us
  | _, _, .nil => .nil
  | _, _, .cons ⟨t, e⟩ r => .cons ⟨t, e⟩ (each_strV r)
theorem rvs_strV {K : PySem.W.Frag} {H : Hp} {m : List Addr} : ∀ (bs : List (List Nat)), RVs K H m (bs.map fun b => V.str (mkS b)) (bs.map D.str)
  | [] => .nil
  | b :: bs => .cons (.str b) (rvs_strV bs)
theorem de_sset {C : CT} {w1 : Sa → AH → QD → EK → Prop} {x z : Str} {y : Expr} {p p2 q pos : Pos} (k : Ct X nm G C) (hn : nameB X.env.scope (Str.ofString "sorted") x = true) (hz : nameB X.env.scope (Str.ofString "set") z = true) (ha : DE X nm y w1)
    (na : starEach [y] X.env = (false, eval y X.env) :: starEach [] X.env) : DE X nm (.Call (.Name x p) [.Call (.Name z p2) [y] [] q] [] pos) (fun s h Q E => w1 s h (fun x h1 => ssetW x h1 Q) E) := by
  obtain ⟨rfl, hg, ho⟩ := nameB_ok hn
  obtain ⟨rfl, hg2, ho2⟩ := nameB_ok hz
  have hm : X.mg (Str.ofString "sorted") = none := mem_blt k (by simp [bltS])
  have hm2 : X.mg (Str.ofString "set") = none := mem_blt k (by simp [bltS])
  refine ⟨fun pins s σ H Q I w0 => ?_⟩
  obtain ⟨sa, m, h, Qa, Ea, rs, rh, w, tk, fin⟩ := w0
  refine Call_ (ld_blt (u := .builtin "sorted") I hg hm (by decide +kernel) ?_)
  refine callWith_builtin1 (args_cons ?_ rfl) rfl rfl
  refine Call_ (ld_blt (u := .type "set") I hg2 hm2 (by decide +kernel) ?_)
  refine callWith_type1 (args_cons (thn (ha.run pins s σ H (fun v H1 => ∃ m1 d h1, RV X.K H1 m1 v d ∧ RH X.K nm H1 m1 h1 ∧ Ext H m H1 m1 ∧ ssetW d h1 Qa) I
    ⟨sa, m, h, _, Ea, rs, rh, w, tk, fun v H1 m1 d h1 rv rh1 ex1 q1 => ⟨m1, d, h1, rv, rh1, ex1, q1⟩⟩) fun u s1 ⟨v, H1, I1, ru, m1, d, h1, rv, rh1, ex1, ks, e, lk, q1⟩ => args_nil ?_) na) na rfl
  have e' : itemsOf h1 d = some ((ks.map (Sum.inr : List Nat → Kd)).map kD) := by rw [e]; simp [kD, Function.comp_def]
  obtain ⟨l, xs, rfl, sq, rvs⟩ := items_of rh1 rv e'
  obtain rfl : u = Value.ref l := ru
  have ex := rvs_keys rvs
  subst ex
  have done : ∀ (its : List Value), Vals (((ks.map (Sum.inr : List Nat → Kd)).map toK).map kV) its → ∀ (h2 : Heap) (tk : Nat), SetAt X.prog X.w h2 s1.heap.objs.size ((ks.map (Sum.inr : List Nat → Kd)).map toK) its.toArray.size →
      (∀ b o, b < s1.heap.objs.size → s1.heap.get? b = some o → h2.get? b = some o) →
      wpAny (model X.prog X.w) X.A (spliced (backTo pos (starEach [] X.env))) (fun vs s2 => wpAny (model X.prog X.w) X.A (call (.builtin "sorted") (Value.ref s1.heap.objs.size :: vs)) (EP X pins σ Q) X.xe s2) X.xe { s1 with heap := h2, toks := tk } := by
    intro its r h2 tk hS hk
    refine args_nil ?_
    have el : its.toArray.size = ((ks.map (Sum.inr : List Nat → Kd)).map toK).length := by
      rw [List.size_toArray, ← Vals.length r, List.length_map]
    unfold SetAt at hS
    rw [el, List.take_length] at hS
    have I2 : Inv X pins σ H1 { s1 with heap := h2, toks := tk } := I1.kept fun b o e => hk b o (Heap.lt_size e) e
    refine sorted_setL (ks := ks) (I1.ok.hd k.calm) (by have := k.rmh.un; omega) hS (ddL_nd _) (fun x => hasK_iff _ x) (fun x => ?_) fun s' p out c bs kk g o hp hg nd mem eo => ?_
    · rw [ddL_mem, List.map_map, List.mem_map]
      exact ⟨fun ⟨x, hx, e⟩ => ⟨x, hx, e.symm⟩, fun ⟨x, hx, e⟩ => ⟨x, hx, e.symm⟩⟩
    · have q2 := q1 bs nd mem
      have lz : (bs.mergeSort (PySem.W.dataLe false fun x => PyData.str (mkS x))).length ≤ 4000 := by
        rw [List.length_mergeSort]
        exact Nat.le_trans (List.Nodup.length_le_of_subset nd fun z hz => (mem z).mp hz) lk
      generalize bs.mergeSort (PySem.W.dataLe false fun x => PyData.str (mkS x)) = zs at eo q2 lz
      have vz := each_strV eo
      have hlen : (zs.map fun b => V.str (mkS b)).length ≤ sizeLine := by
        rw [List.length_map, sizeLine_eq]
        omega
      have hn : H1 p = none := I2.hok.fresh hp
      have J : Inv X pins σ (upd H1 p (.lst (zs.map fun b => V.str (mkS b)))) { ({ s1 with heap := h2, toks := tk } : Shared) with heap := s'.heap, gens := s'.gens, drawn := s'.drawn, toks := s'.toks } :=
        I2.call (ch := []) (Un.laid kk hp hn) (I2.hok.laid kk hp ⟨hlen, out.toList, c, vz, hg⟩) (by rw [g]; exact I2.bare) (fun _ z => nomatch z)
      have e : s' = { ({ s1 with heap := h2, toks := tk } : Shared) with heap := s'.heap, gens := s'.gens, drawn := s'.drawn, toks := s'.toks } := by
        cases s'
        cases s1
        cases o
        rfl
      rw [e]
      obtain ⟨a1, a2, a3⟩ := new_lst rh1 hn (rvs_strV zs)
      exact ⟨.ref p, _, J, rfl, fin _ _ _ _ _ a1 a2 (ex1.trans a3) q2⟩
  rcases sq with sq | sq
  · obtain ⟨its, r, pl, hz⟩ := I1.list sq
    refine call_set_listK (I1.ok.hd k.calm) pl.isList (by simpa using r) ?_ fun h2 tk hS hk => done its r h2 tk hS hk
    rw [List.size_toArray, ← Vals.length r, List.length_map, List.length_map, List.length_map]
    unfold scanBound
    omega
  · obtain ⟨its, r, pl, hz⟩ := I1.tuple sq
    refine call_set_tupleK (I1.ok.hd k.calm) pl (by simpa using r) ?_ fun h2 tk hS hk => done its r h2 tk hS hk
    rw [List.size_toArray, ← Vals.length r, List.length_map, List.length_map, List.length_map]
    unfold scanBound
    omega
end
end Rf
namespace Rf
open PySem PySem.Spec PyProof.Rows L2
section
variable {X : Cx} {σ : L2.St} {H : Hp} {s : Shared} {pins : List (Addr × Obj)}
theorem Inv.adopt {a : Addr} {oe : Obj} {vs : Array Value} (I : L2.Inv X pins σ H s) (g : s.heap.get? a = some oe) (gd : oe.data = .fields vs) (na : H a = none) (n0 : X.s_0.heap.get? a = none) (nL : a ≠ X.env.locals) (nP : ∀ p ∈ X.pn ++ pins, p.1 ≠ a) :
    L2.Inv X pins σ (L2.upd H a (.ext fun h => h.get? a = some oe)) s := by
  have old : ∀ {b : Addr} {o : HO}, H b = some o → L2.upd H a (.ext fun h => h.get? a = some oe) b = some o := fun e => by rw [upd_ne (ne_of_none e na)]; exact e
  have nC : ∀ x c, X.env.cells.lookup x = some c → c ≠ a := fun x c e z => by
    obtain ⟨v, hv⟩ := I.cell x c e
    subst z
    obtain ⟨o1, o2, o3⟩ := hv
    rw [g] at o2
    cases o2
    rw [gd] at o3
    cases o3
  refine ⟨I.ok, I.os, I.bare, ⟨I.base.keep, I.base.slot, fun b o e h1 h2 => ?_, I.base.there, fun b xs e => old (I.base.tups b xs e), fun b o u e => old (I.base.frzs b o u e), fun b ps e => ?_⟩, I.loc, I.cell, ?_, fun x c e => ?_, fun p hp => ?_, ?_, I.len⟩
  · rw [upd_ne fun z => by subst z; rw [n0] at e; cases e]
    exact I.base.free b o e h1 h2
  · obtain ⟨more, q⟩ := I.base.tbls b ps e
    exact ⟨more, old q⟩
  · rw [upd_ne nL.symm]
    exact I.free
  · rw [upd_ne (nC x c e)]
    exact I.freeC x c e
  · obtain ⟨q1, q2, q3⟩ := I.pin p hp
    exact ⟨q1, by rw [upd_ne (nP p hp)]; exact q2, q3⟩
  · intro b u e
    by_cases hb : b = a
    · subst hb
      rw [upd_same] at e
      cases e
      exact ⟨g, ⟨oe, g⟩, fun h1 h2 q1 q2 => q2 _ q1⟩
    · rw [upd_ne hb] at e
      exact (I.hok b u e).stay (fun _ _ _ q => q) (fun _ q => by rw [upd_ne (ne_of_none q na)]; exact q) fun _ _ q => old q
end
section
variable {X : Cx} {x n : Str} {c : Value} {i : Nat} {body suite : List Stmt} {b₀ : Stmt} {np pos pos' : Pos} {tb : WX → TS} {ts : Addr → Value → Option Addr → TS} {Wout : WX}
def wKp (K : PySem.W.Frag) (c : Value) (i : Nat) (ts : Addr → Value → Option Addr → TS) (Wout : WX) (D : Ends) : WX := fun cls d σ H =>
  ∃ b, PySem.W.exmOne K cls c = some b ∧ (b = true → ∀ a, H a = none → ts a cls d { nx := fun σ' H' => H' a = none → ∀ oe, Zc cls d oe → (∃ vs, oe.data = .fields vs) → D.nx (σ'.set i none) (L2.upd H' a (.ext fun h => h.get? a = some oe)), rt := fun _ _ => False, bk := fun _ _ => False, ct := fun _ _ => False } (σ.set i (some (.ref a))) H) ∧
    (b = false → Wout cls d σ H)
theorem ps_try_keep (hex : X.ex = []) (hs : X.stack = X.env :: X.outer) (hf : X.env.frame = some X.env.locals) (hN : X.N.Nodup) (hi : X.N[i]? = some n) (hln : X.env.kindOf n = some .local) (hc : Names X x c) (tk : Takes X Wout)
    (hb : ∀ (W : WX) (pn : List (Addr × Obj)) (xe : Value → Shared → Prop), Takes (X.tr pn xe) W → PassesOwn (model X.prog X.w) X.A X.env xe → PSs (X.tr pn xe) body (tb W))
    (hsu : ∀ (a : Addr) (oe : Obj) (cls : Value) (d : Option Addr) (pn : List (Addr × Obj)), Zc cls d oe → (∃ vs, oe.data = .fields vs) → PSs (X.suite a ((a, oe) :: pn)) (b₀ :: suite) (ts a cls d)) :
    PS X (.Try body [.ExceptHandler (some (.Name x np)) (some n) (b₀ :: suite) pos'] [] [] pos) (fun D σ H => tb (wKp X.K c i ts Wout D) D σ H) := by
  refine ⟨fun pins s σ H D I w0 => ?_⟩
  have okX := I.ok
  have frX : X.A.frames = some (X.env :: X.outer) := by
    rw [okX.frames, hs]
  have locN : Loc X.env.scope n := Or.inl hln
  refine wpAny_Try_except (wpAny_mono ((hb (wKp X.K c i ts Wout D) (X.pn ++ pins) (fun e t1 => wpAny (model X.prog X.w) X.A (noteFrame e X.env) (fun _ t2 => wpAny (model X.prog X.w) X.A (setFlight e none) (fun _ t3 =>
    wpAny (model X.prog X.w) X.A (handleBy e X.env [.ExceptHandler (some (.Name x np)) (some n) (b₀ :: suite) pos']) (SP X pins D) X.xe t3) X.xe t2) X.xe t1) (fun u t1 xx => ?_) PassesOwn.looking).run [] s σ H D (I.toTry _) w0) (fun f t1 q => ?_) fun e t1 q => q)
  · obtain ⟨a, B, sI, pins2, σ2, H2, cls, d, rfl, J0, nb, up, sk, na, os, ag, b, exm, yes, no⟩ := xx
    have J : Inv X pins σ2 H2 sI := J0.ofTry okX
    have sk2 : Sky B (X.env :: X.outer) a (Zc cls d) X.env.locals t1.heap := by
      rw [← hs]
      exact sk
    show wpAny (model X.prog X.w) X.A (noteFrame (.ref a) X.env) _ _ _
    refine Sky.land Zc.steady frX hf sk2 fun h3 fl3 up3 => ?_
    have J3 : Inv X pins σ2 H2 { t1 with heap := h3 } := J.landed nb fl3.1 (up.trans up3) os ag
    obtain ⟨o3, v3, g3, z3, d3⟩ := fl3.there
    have nfr : a ∉ frs (X.env :: X.outer) := fun hm => by
      obtain ⟨_, o', e', hn⟩ := fl3.2.2.1.mem hm
      rw [g3] at e'
      cases e'
      exact hn _ d3
    have nL : a ≠ X.env.locals := fun z => nfr (List.mem_filterMap.mpr ⟨X.env, .head _, by rw [hf, z]⟩)
    have nF : a ∉ X.fs := fun hm => by
      obtain ⟨e, he, q⟩ := List.mem_filterMap.mp hm
      exact nfr (List.mem_filterMap.mpr ⟨e, .tail _ he, q⟩)
    -- it is new here
    have nI : sI.heap.get? a = none := by
      cases q : sI.heap.get? a with
      | none => rfl
      | some o =>
        have := nb a o q (by rw [hs]; exact nfr)
        rw [fl3.2.1] at this
        cases this
    have n0 : X.s_0.heap.get? a = none := by
      cases q : X.s_0.heap.get? a with
      | none => rfl
      | some o =>
        obtain ⟨o', e'⟩ := J.base.there a o q (by rw [hex]; simp)
        rw [nI] at e'
        cases e'
    have nP : ∀ p ∈ X.pn ++ pins, p.1 ≠ a := fun p hp z => by
      have := (J.pin p hp).1
      rw [z, nI] at this
      cases this
    have S3 := J3.suite g3 d3 na nL nF
    refine wpAny_handleBy_cons (codeAny_handlers_test ?_) (by intro q; cases q)
    have LM := PySem.W.exm_one (M := model X.prog X.w) (J3.kIn) (fun A Q E s k q => wpAny_typeOf_ref (k _ _ g3) (by rw [z3.1]; exact q) : PySem.W.Looks (model X.prog X.w) h3 (typeOf (.ref a)) cls) exm
    have tst : ∀ {Q : Value → Shared → Prop} {E : Value → Shared → Prop}, Q c { t1 with heap := h3 } → wpAny (model X.prog X.w) (X.A.mark (some (.ref a))) (eval (.Name x np) X.env) Q E { t1 with heap := h3 } := fun {Q E} q => by
      obtain ⟨y1, y2, y3 | ⟨y3, y4, y5⟩⟩ := hc
      · exact ld_glob (X := X.suite a ((a, o3) :: (X.pn ++ pins))) S3 y1 y3 q y2
      · exact ld_blt (X := X.suite a ((a, o3) :: (X.pn ++ pins))) S3 y1 y3 y4 q y5 y2
    refine tst (LM.here ?_)
    cases b with
    | false =>
      show wpAny _ X.A (handleBy (.ref a) X.env []) _ _ _
      refine wpAny_handleBy_nil ?_
      obtain ⟨k1, k2, k3, oe, vs, T, oT, tt, he, hz, hd, h1, hr⟩ := id fl3
      unfold PySem.passOn
      refine wpAny_bind (wpAny_field he hd h1 ?_)
      rw [if_neg (show ¬ ((Value.ref T == Value.none) = true) by simp)]
      have out : wpAny (model X.prog X.w) X.A (setFlight (.ref a) X.env.frame) (fun _ t4 => wpAny (model X.prog X.w) X.A (throw (.ref a) : Sem Flow) (SP X pins D) X.xe t4) X.xe { t1 with heap := h3 } := by
        rw [hf]
        refine HandSPX.setFlight_upZ fl3 fun h4 hh4 up4 => wpAny_throw (tk _ _ ?_)
        refine ⟨a, B, sI, pins, σ2, H2, cls, d, rfl, J, nb, (up.trans up3).trans up4, ?_, na, os, ag, no rfl⟩
        rw [hs]
        exact .inr (.inr hh4)
      first
        | exact wpAny_bind (wpAny_pure (wpAny_bind out))
        | exact wpAny_bind out
    | true =>
      refine codeAny_handlers_suite_as (HandSPX.lands_againZ fl3 fun h4 fl4 up4 => ?_)
      have J4 : Inv X pins σ2 H2 { t1 with heap := h4 } := J.landed nb fl4.1 ((up.trans up3).trans up4) os ag
      obtain ⟨o4, v4, g4, z4, d4⟩ := fl4.there
      have S4 := J4.suite g4 d4 na nL nF
      refine store_ok (X := X.suite a ((a, o4) :: (X.pn ++ pins))) (v := .ref a) S4 hN hi locN rfl (fun t5 S5 => ?_) (.inr hln)
      refine wpAny_mono ((hsu a o4 cls d (X.pn ++ pins) z4 ⟨_, d4⟩).run [] t5 _ H2 _ S5 (yes rfl a na)) (fun f t6 q => ?_) fun _ _ z => z.elim
      cases f with
      | next =>
        obtain ⟨σ6, H6, S6, q6⟩ := q
        obtain ⟨p1, p2, _⟩ := S6.pin (a, o4) (List.mem_append_left _ (.head _))
        have J6 : Inv X pins σ6 H6 t6 := S6.unsuite okX
        exact gone_ok (Inv.adopt J6 p1 d4 p2 n0 nL nP) hN hi hln fun t7 J7 => ⟨_, _, J7, q6 p2 o4 z4 ⟨_, d4⟩⟩
      | brk =>
        obtain ⟨σ6, H6, S6, q6⟩ := q
        exact q6.elim
      | cont =>
        obtain ⟨σ6, H6, S6, q6⟩ := q
        exact q6.elim
      | ret u =>
        obtain ⟨v6, σ6, H6, S6, r6, q6⟩ := q
        exact q6.elim
  · cases f with
    | next =>
      obtain ⟨σ2, H2, J, q⟩ := q
      exact wpAny_execs_nil ⟨σ2, H2, J.ofTry okX, q⟩
    | brk =>
      obtain ⟨σ2, H2, J, q⟩ := q
      exact ⟨σ2, H2, J.ofTry okX, q⟩
    | cont =>
      obtain ⟨σ2, H2, J, q⟩ := q
      exact ⟨σ2, H2, J.ofTry okX, q⟩
    | ret u =>
      obtain ⟨v, σ2, H2, J, r, q⟩ := q
      exact ⟨v, σ2, H2, J.ofTry okX, r, q⟩
end
section
variable {X : Cx} {nm : Nm} {G : Gi} {sb : Sb} {c0 i : Nat} {x : Exc} {a : Addr} {d : Option Addr}
def tryKW (w : Sa → AH → En → EK → Prop) (sb : Sb) (c i j : Nat) : Sa → AH → En → EK → Prop := fun s h Z E => w s h Z fun x s' h' => tryKE sb c i j Z E x s' h'
def tsK (nm : Nm) (sb : Sb) (c i j : Nat) (a : Addr) (cls : Value) (d : Option Addr) : TS := fun D σ H => ∃ x : Exc, sbL sb x.cls c = some true ∧ cls = .ref (nm.cls x.cls) ∧ d = none ∧ tSeq (tAsg (tVar i) (gName j)) tNext D σ H
theorem ds_tryK {C : CT} {w : Sa → AH → En → EK → Prop} {c i j : Nat} {body : List Stmt} {y y0 n z : Str} {np pos pos' yp zp sp : Pos} (k : Ct X nm G C) (hex : X.ex = [])
    (hs : X.stack = X.env :: X.outer) (hf : X.env.frame = some X.env.locals) (hfn : ∀ x, X.fn x = true)
    (hb : ∀ (pn : List (Addr × Obj)) (xe : Value → Shared → Prop), PassesOwn (model X.prog X.w) X.A X.env xe → PSs (X.tr pn xe) body (LS (X.tr pn xe) nm w))
    (hi : X.N[i]? = some n) (hln : X.env.scope.names.lookup n = some .local) (hc : (match G.cl[c]? with | some y => nameB X.env.scope y y0 | none => false) = true)
    (h1 : tgB1 X.N X.env.scope j (.Name y yp) = true) (h2 : slotB X.N X.env.scope i z = true) (hj : j ≠ i) :
    PS X (.Try body [.ExceptHandler (some (.Name y0 np)) (some n) [.Assign [.Name y yp] (.Name z zp) sp] pos'] [] [] pos) (LS X nm (tryKW w G.sb c i j)) := by
  have hN := k.nd
  split at hc
  rotate_left
  · cases hc
  rename_i yy hy
  obtain ⟨rfl, hg, ho⟩ := nameB_ok hc
  obtain ⟨hdb, _, _⟩ := okN_d ho
  refine ⟨fun pins s σ H D I q => ?_⟩
  obtain ⟨sa, m, h, Z, Ea, rs, rh, wq, tk, l⟩ := q
  refine (ps_try_keep (tb := tbW X nm w) (ts := tsK nm G.sb c i j) hex hs hf hN hi hln (x := yy) (c := .ref (nm.cls c)) (show Names X yy (.ref (nm.cls c)) from ⟨hg, hdb, .inl (k.clg c _ hy)⟩) tk (fun W pn xe tW po => ?_) (fun a oe cls d pn hz hv => ?_)).run pins s σ H D I ?_
  · refine PSs.imp (hb pn xe po) fun D' σ' H' q' => ?_
    obtain ⟨sa', m', h', Z', Ea', rs', rh', w', sub, l'⟩ := q'
    exact ⟨sa', m', h', Z', Ea', rs', rh', w', tW.imp sub, ⟨l'.nx, l'.rt, l'.bk, l'.ct⟩⟩
  · refine ⟨fun pins' s' σ' H' D' I' q' => ?_⟩
    obtain ⟨x, hx, rfl, rfl, q'⟩ := q'
    simp only [tgB1, Bool.and_eq_true, decide_eq_true_eq] at h1
    have pz : PE (X.suite a ((a, oe) :: pn)) (.Name z zp) (tVar i) := pe_slot (X := X.suite a ((a, oe) :: pn)) h2
    exact (pss_cons (ps_set (X := X.suite a ((a, oe) :: pn)) hN h1.1 (locB_ok h1.2.1) pz (noComp_sw (v := .Name z zp) rfl _ _ _) (.inl (hfn _))) pss_nil).run pins' s' σ' H' D' I' q'
  · refine ⟨sa, m, h, Z, _, rs, rh, wq, fun cls d σ' H' z => ?_, l⟩
    obtain ⟨xx, sa', m', h', rx, rs', rh', ex, qx⟩ := z
    unfold tryKE at qx
    split at qx
    · rename_i e1
      obtain ⟨hil, hfs, q2⟩ := qx
      obtain ⟨r1, r2⟩ := rx
      have hd : d = none := by
        rcases r2 with ⟨_, e⟩ | ⟨e, _⟩
        · exact e
        · exact absurd hfs e
      subst hd
      refine ⟨true, by rw [r1]; exact k.sbk.exm _ _ _ e1, fun _ a ha => ?_, fun z => nomatch z⟩
      refine ⟨xx, e1, r1, rfl, ?_⟩
      refine ⟨.ref a, by rw [List.getElem?_set_self (by rw [rs'.1]; exact hil)], ?_⟩
      intro na oe hz hv
      have he := Ext.new (m := m') (o := .ext fun h => h.get? a = some oe) na
      have hrh : RH X.K nm (L2.upd H' a (.ext fun h => h.get? a = some oe)) (m' ++ [a]) (h' ++ [.exc xx.cls]) :=
        rh'.new na ⟨fun _ z => (by cases z), fun _ _ _ z => (by cases z)⟩ ⟨oe, upd_same, by rw [hz.1, r1], hz.2, hv⟩
      have rv : RV X.K (L2.upd H' a (.ext fun h => h.get? a = some oe)) (m' ++ [a]) (.ref a) (.ref h'.length) := .ref (by rw [← rh'.len]; simp)
      have R3 := (((rs'.ext he).hide (i := i) (v := some (.ref a))).set rv (i := j)).hide (i := i) (v := none)
      have es : ((sa'.set i none).set j (some (.ref h'.length))).set i none = (sa'.set j (some (.ref h'.length))).set i none := by
        rw [List.set_comm _ _ (Ne.symm hj), List.set_set]
      rw [es] at R3
      exact l.nx _ _ _ _ _ R3 hrh (ex.trans he) q2
    · rename_i e1
      refine ⟨false, by rw [rx.1]; exact k.sbk.exm _ _ _ e1, ?_, fun _ => ⟨xx, sa', m', h', rx, rs', rh', ex, qx⟩⟩
      intro z
      cases z
    · exact qx.elim
end
end Rf
namespace Rf
open PySem PySem.Spec PyProof.Rows L2
section
variable {X : Cx} {nm : Nm} {G : Gi} {C : CT}
theorem pe_tnew {pos : Pos} : PE X (.Dict [] [] pos) (fun _ H Q => ∀ p, H p = none → (p == sysModules) = false → Q (.ref p) (upd H p (.ext fun h => h.get? p = some { cls := .type "dict", data := .dict #[] }))) := ⟨fun pins s σ H Q I h => by
  have g : (s.heap.push { cls := .type "dict", data := .dict #[] }).get? s.heap.objs.size = some { cls := .type "dict", data := .dict #[] } := Heap.get?_push_size _ rfl
  have ns : (s.heap.objs.size == sysModules) = false := (dk_empty (P := X.prog) (w := X.w) (H := upd H s.heap.objs.size (.dK [])) s.heap I.big).2.1
  exact wpAny_Dict_empty ⟨.ref s.heap.objs.size, _, I.laid (a := s.heap.objs.size) (o := .ext fun h => h.get? s.heap.objs.size = some { cls := .type "dict", data := .dict #[] }) (t' := s.toks) (fun _ _ q => Heap.get?_push_of_some _ q) (Nat.le_refl _) ⟨g, ⟨_, g⟩, fun _ _ q1 q2 => q2 _ q1⟩, rfl, h _ (I.hok.fresh (Nat.le_refl _)) ns⟩⟩
theorem de_tnew {pos : Pos} : DE X nm (.Dict [] [] pos) (wE C .tnew) := by
  refine ⟨fun pins s σ H Q I q => ?_⟩
  obtain ⟨sa, m, h, Qa, Ea, rs, rh, w, tk, fin⟩ := q
  simp only [wE] at w
  rcases w with w | w
  · refine pe_dnewK.run pins s σ H Q I fun p hp => ?_
    obtain ⟨a1, a2, a3⟩ := new_dk rh hp (.nil)
    exact fin _ _ _ _ _ a1 a2 a3 w
  · refine pe_tnew.run pins s σ H Q I fun p hp ns => ?_
    have he := Ext.new (m := m) (o := .ext fun h => h.get? p = some { cls := .type "dict", data := .dict #[] }) hp
    have hrh := rh.new (o := .ext fun h => h.get? p = some { cls := .type "dict", data := .dict #[] }) hp (ao := .dt []) ⟨fun _ z => (by cases z), fun _ _ _ z => (by cases z)⟩ ⟨_, #[], 0, [], upd_same, ns, ⟨rfl, rfl, rfl⟩, rfl, rfl, List.nodup_nil, Nat.zero_le _, .nil⟩
    exact fin _ _ _ _ _ (.ref (by rw [← rh.len]; simp)) hrh he w
theorem tset_ok (hw : nm.w = X.w) (hu : X.A.units + 65 < cLine) : PSet X (fun o i v H Q => ∃ m h x y z Qa, RV X.K H m o x ∧ RV X.K H m i y ∧ RV X.K H m v z ∧ RH X.K nm H m h ∧ tsetW h x y z Qa ∧ ∀ H' m' h', RH X.K nm H' m' h' → Ext H m H' m' → Qa h' → Q H') := by
  intro pins s σ H o i v ov iv u Q I ro ri rv hq
  obtain ⟨m, h, x, y, z, Qa, r1, r2, r3, rh, ⟨ds, nk, n, kvs, rfl, e1, hd, rfl, hn, hz, w⟩, fin⟩ := hq
  obtain ⟨a, oe, es, ep, xs, rfl, hm, x0⟩ := the_dt rh r1 hn
  obtain ⟨b, rfl, rfl, hk⟩ := key_at I r2 e1 hd ri
  obtain rfl : ov = Value.ref a := ro
  exact dt_set hu I rh hw hm x0 hk e1 hd r2 r3 rv hz fun H' s' I' rh' ex' => ⟨_, I', fin _ _ _ rh' ex' w⟩
theorem ds_tset {o i e : M} {x y v : Expr} {p pos : Pos} (k : Ct X nm G C) (he : DE X nm v (wE C e)) (ho : DE X nm x (wE C o)) (hi : DE X nm y (wE C i))
    (ha : ∀ v, assign (.Subscript x y p) X.env v = (do
      let ov ← holding [v] (eval x X.env)
      let iv ← holding [v, ov] (eval y X.env)
      standAt p
      holding [v, ov, iv] (setItem ov iv v)
      release [v, ov, iv] [])) : PS X (.Assign [.Subscript x y p] v pos) (LS X nm (wS C (.tset o i e))) :=
  PS.imp (ps_asg he (pg_sub ho hi (tset_ok (nm := nm) k.nw k.hu) ha) (by show swapsWith v (some (.Subscript x y p)) pos.line X.env = pure false; cases v <;> rfl) (by cases v <;> rfl) rfl) fun D σ H q => by
    obtain ⟨sa, m, h, Z, Ea, rs, rh, w, tk, l⟩ := q
    simp only [wS] at w
    refine ⟨sa, m, h, _, Ea, rs, rh, w, tk, fun v H1 m1 d1 h1 rv rh1 ex1 q1 => ⟨sa, m1, h1, _, Ea, rs.ext ex1, rh1, q1, tk_ext tk ex1, fun v2 H2 m2 d2 h2 rv2 rh2 ex2 q2 => ⟨sa, m2, h2, _, Ea, (rs.ext ex1).ext ex2, rh2, q2, tk_ext (tk_ext tk ex1) ex2, fun v3 H3 m3 d3 h3 rv3 rh3 ex3 q3 => ?_⟩⟩⟩
    exact ⟨m3, h3, d2, d3, d1, _, rv2.ext ex3, rv3, (rv.ext ex2).ext ex3, rh3, q3, fun H4 m4 h4 rh4 ex4 q4 => l.nx _ _ _ _ _ (((rs.ext ex1).ext ex2).ext ex3 |>.ext ex4) rh4 (((ex1.trans ex2).trans ex3).trans ex4) q4⟩
theorem tix_ok (hw : nm.w = X.w) (hu : X.A.units + 65 < cLine) : IxR X (L2' X nm (fun x y h Q => tidxW h x y fun d => Q d h)) := by
  intro e1 e2 pins s σ H x y v u Q I rx ry hq hp
  obtain ⟨m, h, d, e, Qa, r1, r2, rh, ⟨ds, nk, n, kvs, d1, rfl, k1, hd, rfl, hn, kv, q⟩, fin⟩ := hq
  obtain ⟨a, oe, es, ep, xs, rfl, hm, x0⟩ := the_dt rh r1 hn
  obtain ⟨b, rfl, rfl, hk⟩ := key_at I r2 k1 hd ry
  obtain rfl : v = Value.ref a := rx
  rw [hw] at x0
  have D0 := x0.dict I
  obtain ⟨b2, u3, v3, g1, g2, g3⟩ := rt_some x0.rt kv
  refine tail_any (ops := [.ref a, .ref b]) D0.typeIs PySem.F.slot_dict_getitem.lookup ?_ hp
  exact wpAny_getItem_heap (room8 hu) hk D0 g1 ⟨v3, H, I.tok _, g3, fin _ _ _ _ _ g2 rh .refl q⟩
theorem de_tidx {a i : M} {x y : Expr} {pos : Pos} (k : Ct X nm G C) (ha : DE X nm x (wE C a)) (hi : DE X nm y (wE C i)) (hn : notSlice y = true) : DE X nm (.Subscript x y pos) (wE C (.tidx a i)) := by
  have hp : PlainIx y := by cases y <;> first | (intro o i; rfl) | simp [notSlice] at hn
  refine PE.imp (pe_ix (tix_ok (nm := nm) k.nw k.hu) ha hi hp) fun σ H Q q => ?_
  have e : wE C (.tidx a i) = fun s h Q E => wE C a s h (fun x h1 => wE C i s h1 (fun y h2 => tidxW h2 x y fun d => Q d h2) E) E := by funext s h Q E; simp only [wE]
  rw [e] at q
  exact LE.op (r := fun x y h Q => tidxW h x y fun d => Q d h) q
theorem de_kdx {i j : Nat} {kvs : List (List Nat × D)} {e : M} {z x : Str} {y : Expr} {p pos : Pos} (k : Ct X nm G C) (hg : G.gd[j]? = some (z, kvs)) (hn : nameB X.env.scope z x = true) (he : DE X nm y (wE C e)) (hs : notSlice y = true) : DE X nm (.Subscript (.Name x p) y pos) (wE C (.kdx i kvs e)) := by
  have hp : PlainIx y := by cases y <;> first | (intro o i; rfl) | simp [notSlice] at hs
  obtain ⟨rfl, hgs, ho⟩ := nameB_ok hn
  obtain ⟨hdb, _, _⟩ := okN_d ho
  obtain ⟨a, es, n, hm, D, hv, -⟩ := k.kd j _ kvs hg
  refine PE.imp (pe_ix ix_kdict (pe_glob (v := .ref a) hgs hm rfl hdb) he hp) fun σ H Q q => ?_
  obtain ⟨sa, m, h, Qa, Ea, rs, rh, w, tk, fin⟩ := q
  simp only [wE] at w
  refine ⟨sa, m, h, _, Ea, rs, rh, w, tk, fun v H1 m1 d1 h1 rv rh1 ex1 q1 => ?_⟩
  obtain ⟨wd, d, rfl, hl, q⟩ := q1
  cases rv
  obtain ⟨u, v, hu, hrel, hr⟩ := hv wd d hl
  exact ⟨a, mkS wd, v, rfl, rfl, ⟨es, n, u, D.at_, D.lit, hu, hrel⟩, fin _ _ _ _ _ (hr H1 m1) rh1 ex1 q⟩
theorem kd_ns {kvs : List (List Nat × D)} {K : PySem.W.Frag} {p : Addr} (hv : ∀ x d, kvs.lookup x = some d → ∃ u v, PySem.W.nsIn K p (mkS x) = some (some u) ∧ RelV v u ∧ ∀ H m, RV K H m v d) (hn : ∀ x, kvs.lookup x = none → PySem.W.nsIn K p (mkS x) = some none) (x : List Nat) :
    ∃ r, PySem.W.nsIn K p (mkS x) = some r ∧ r.isSome = (kvs.lookup x).isSome := by
  cases e : kvs.lookup x with
  | none => exact ⟨none, hn x e, rfl⟩
  | some d =>
    obtain ⟨u, v, h1, -, -⟩ := hv x d e
    exact ⟨some u, h1, rfl⟩
theorem de_kdi {i j : Nat} {kvs : List (List Nat × D)} {e : M} {z x : Str} {y : Expr} {p pos : Pos} (k : Ct X nm G C) (hg : G.gd[j]? = some (z, kvs)) (hn : nameB X.env.scope z x = true) (he : DE X nm y (wE C e)) : DE X nm (.Compare y [.In] [.Name x p] pos) (wE C (.kdi i kvs e)) := by
  obtain ⟨rfl, hgs, ho⟩ := nameB_ok hn
  obtain ⟨hdb, _, _⟩ := okN_d ho
  obtain ⟨a, es, n, hm, D, hv, hno⟩ := k.kd j _ kvs hg
  refine PE.imp (pe_cmpR (op_in_kd D) he (pe_glob (v := .ref a) hgs hm rfl hdb) rfl) fun σ H Q q => ?_
  obtain ⟨sa, m, h, Qa, Ea, rs, rh, w, tk, fin⟩ := q
  simp only [wE] at w
  refine ⟨sa, m, h, _, Ea, rs, rh, w, tk, fun v H1 m1 d1 h1 rv rh1 ex1 q1 => ?_⟩
  obtain ⟨wd, rfl, q⟩ := q1
  cases rv
  obtain ⟨r, h1, h2⟩ := kd_ns hv hno wd
  refine ⟨mkS wd, r, rfl, rfl, h1, ?_⟩
  rw [h2]
  exact fin _ _ _ _ _ (.bl _) rh1 ex1 q
theorem dt_kdi {i j : Nat} {kvs : List (List Nat × D)} {e : M} {z x : Str} {y : Expr} {p pos : Pos} (k : Ct X nm G C) (hg : G.gd[j]? = some (z, kvs)) (hn : nameB X.env.scope z x = true) (he : DE X nm y (wE C e)) : PT X (.Compare y [.In] [.Name x p] pos) (LT X nm (wT C (.kdi i kvs e))) := by
  obtain ⟨rfl, hgs, ho⟩ := nameB_ok hn
  obtain ⟨hdb, _, _⟩ := okN_d ho
  obtain ⟨a, es, n, hm, D, hv, hno⟩ := k.kd j _ kvs hg
  refine PT.imp (pt_cmpR (op_in_kd D) he (pe_glob (v := .ref a) hgs hm rfl hdb) rfl) fun σ H Q q => ?_
  obtain ⟨sa, m, h, Qa, Ea, rs, rh, w, tk, fin⟩ := q
  simp only [wT] at w
  refine ⟨sa, m, h, _, Ea, rs, rh, w, tk, fun v H1 m1 d1 h1 rv rh1 ex1 q1 => ?_⟩
  obtain ⟨wd, rfl, q⟩ := q1
  cases rv
  obtain ⟨r, h1, h2⟩ := kd_ns hv hno wd
  refine ⟨mkS wd, r, rfl, rfl, h1, r.isSome, rfl, ?_⟩
  rw [h2]
  exact fin _ _ _ _ rh1 ex1 q
theorem de_kdg {i j : Nat} {kvs : List (List Nat × D)} {e : M} {z x : Str} {y : Expr} {p ap pos : Pos} (k : Ct X nm G C) (hg : G.gd[j]? = some (z, kvs)) (hn : nameB X.env.scope z x = true) (he : DE X nm y (wE C e)) (m : M1 X (.Name x p) "get" ap y pos) : DE X nm (.Call (.Attribute (.Name x p) "get" ap) [y] [] pos) (wE C (.kdg i kvs e)) := by
  obtain ⟨rfl, hgs, ho⟩ := nameB_ok hn
  obtain ⟨hdb, _, _⟩ := okN_d ho
  obtain ⟨a, es, n, hm, D, hv, hno⟩ := k.kd j _ kvs hg
  refine ⟨fun pins s σ H Q I q => ?_⟩
  refine wpAny_Call_method m.base m.few m.line PySem.F.plainAttrs_dict PySem.F.slot_dict_get PySem.F.type_dict_get (thn ((pe_glob (X := X) (pos := p) (v := .ref a) hgs hm rfl hdb).run pins s σ H (fun x H1 => x = .ref a ∧ H1 = H) I ⟨rfl, rfl⟩) fun u s1 ⟨x, H1, I1, rx, ex, eH⟩ => ?_)
  subst ex eH
  obtain rfl : u = Value.ref a := rx
  have hk := PySem.W.mapOf_K (prog := X.prog) (w := X.w) I1.kIn D.at_ D.lit
  obtain ⟨ob, _, _, g1, g2, _⟩ := hk
  refine ⟨⟨ob, g1, g2.1⟩, fun b eb => by cases eb; exact ⟨ob, g1, g2.2.1⟩, ?_⟩
  rw [m.trees]
  obtain ⟨sa, m', h, Qa, Ea, rs, rh, w, tk, fin⟩ := q
  simp only [wE] at w
  refine Calls.callWith_builtin rfl (Calls.evalArgs_plain (Calls.spliced_cons (thn (he.run pins s1 σ H1 (fun v H2 => ∃ wd m1 h1, v = .str (mkS wd) ∧ RH X.K nm H2 m1 h1 ∧ Ext H1 m' H2 m1 ∧ Qa ((kvs.lookup wd).getD .non) h1) I1 ⟨sa, m', h, _, Ea, rs, rh, w, tk, fun v H2 m1 d1 h1 rv rh1 ex1 q1 => ?_⟩) fun iv s2 ⟨yv, H2, I2, ry, wd, m1, h1, ey, rh1, ex1, q1⟩ => Calls.spliced_nil ?_)))
  · obtain ⟨wd, rfl, q⟩ := q1
    cases rv
    exact ⟨wd, m1, h1, rfl, rh1, ex1, q⟩
  · subst ey
    obtain ⟨t, rfl⟩ := ry
    have hk2 := PySem.W.mapOf_K (prog := X.prog) (w := X.w) I2.kIn D.at_ D.lit
    refine call_meetsIn PySem.F.slot_dict_get hk2.typeIs PySem.F.entry_dict_get (PySem.F.args_dict_get_2 _ _) (meets_dict_get (strKind X.prog X.w) a (strKind_is X.prog X.w (mkS wd) t) D.low) ⟨_, hk2, ?_⟩
    show EP X pins σ Q _ { s2 with toks := s2.toks + 1 }
    cases e : kvs.lookup wd with
    | none =>
      rw [PySem.W.find_K D.at_ (hno wd e)]
      rw [e] at q1
      exact ⟨.non, H2, I2.tok _, rfl, fin _ _ _ _ _ .non rh1 ex1 q1⟩
    | some d =>
      obtain ⟨u, v, g1, g2, g3⟩ := hv wd d e
      rw [PySem.W.find_K D.at_ g1]
      rw [e] at q1
      exact ⟨v, H2, I2.tok _, g2, fin _ _ _ _ _ (g3 H2 m1) rh1 ex1 q1⟩
end
end Rf
namespace Rf
open PySem PySem.Spec PyProof.Rows L2
section
variable {X : Cx} {nm : Nm} {G : Gi} {C : CT}
theorem de_glb {i : Nat} {d : D} {y x : Str} {pos : Pos} (k : Ct X nm G C) (hg : G.gl[i]? = some (y, d)) (hn : nameB X.env.scope y x = true) : DE X nm (.Name x pos) (wE C (.glb i d)) := by
  obtain ⟨rfl, hs, ho⟩ := nameB_ok hn
  obtain ⟨hdb, _, _⟩ := okN_d ho
  obtain ⟨u, v, hm, r, hr⟩ := k.glb i _ d hg
  exact de_const (pe_glob hs hm r hdb) hr _ fun _ _ _ _ w => by simpa only [wE] using w
theorem set_ok (hu : X.A.units + 1 < cLine) : PSet X (fun o i v H Q => ∃ m h x y z Qa, RV X.K H m o x ∧ RV X.K H m i y ∧ RV X.K H m v z ∧ RH X.K nm H m h ∧ setIW h x y z Qa ∧ ∀ H' m' h', RH X.K nm H' m' h' → Ext H m H' m' → Qa h' → Q H') := by
  intro pins s σ H o i v ov iv u Q I ro ri rv hq
  obtain ⟨m, h, x, y, z, Qa, r1, r2, r3, rh, w, fin⟩ := hq
  cases r1 with
  | @ref a n hm =>
    simp only [setIW] at w
    split at w
    · rename_i xs e
      obtain ⟨k, j, rfl, hj, q⟩ := w
      cases r2
      obtain ⟨a', vs, e1, hm', e2, rz⟩ := the_lst rh (.ref hm) e
      cases e1
      refine set_list pins s σ H _ _ v ov iv u Q I ro ri rv ⟨a, vs, k, j, rfl, rfl, e2, by rw [rz.length]; exact hj, ?_⟩
      obtain ⟨rh2, ex2⟩ := set_lst rh hm e2 (rz.set r3 j)
      exact fin _ _ _ rh2 ex2 q
    · rename_i kvs e
      obtain ⟨k, ek, hz, q⟩ := w
      obtain ⟨a', vs, e1, hm', e2, rk⟩ := the_dk rh (.ref hm) e
      cases e1
      have := key_rv r2 ek
      subst this
      obtain ⟨rh2, ex2⟩ := set_dk rh hm e2 (rk.put r3 k)
      cases ro
      exact d_setItem hu I (DPut.k e2 (by rw [rk.length, ← SZ_line]; exact hz)) ri rv fun s' I' => ⟨_, I', fin _ _ _ rh2 ex2 q⟩
    · exact w.elim
  | _ => exact w.elim
theorem de_dnew {pos : Pos} : DE X nm (.Dict [] [] pos) (wE C .dnew) := by
  refine PE.imp pe_dnewK fun σ H Q q => ?_
  obtain ⟨sa, m, h, Qa, Ea, rs, rh, w, tk, fin⟩ := q
  simp only [wE] at w
  intro p hp
  obtain ⟨a1, a2, a3⟩ := new_dk rh hp (.nil)
  exact fin _ _ _ _ _ a1 a2 a3 w
theorem de_ddisp {a b : M} {x y : Expr} {pos : Pos} (ha : DE X nm x (wE C a)) (hb : DE X nm y (wE C b)) : DE X nm (.Dict [some x] [y] pos) (wE C (.ddisp a b)) := by
  refine PE.imp (pe_disp (pps_cons ha hb pps_nil) rfl rfl (by simp) (by simp)) fun σ H Q q => ?_
  obtain ⟨sa, m, h, Qa, Ea, rs, rh, w, tk, fin⟩ := q
  simp only [wE] at w
  intro p hp
  obtain ⟨a1, a2, a3⟩ := new_dk rh hp (.nil)
  refine ⟨sa, m ++ [p], h ++ [.dk []], _, Ea, rs.ext a3, a2, w, tk_ext tk a3, fun v1 H1 m1 d1 h1 rv1 rh1 ex1 q1 => ⟨sa, m1, h1, _, Ea, (rs.ext a3).ext ex1, rh1, q1, tk_ext (tk_ext tk a3) ex1, fun v2 H2 m2 d2 h2 rv2 rh2 ex2 q2 => ?_⟩⟩
  obtain ⟨k, ek, e2, q2⟩ := q2
  have rp := (a1.ext ex1).ext ex2
  obtain ⟨a', vs, e', hm', hH, rk⟩ := the_dk rh2 rp e2
  cases e'
  have hv1 := key_rv rv1 ek
  subst hv1
  have rk' : RK X.K H2 m2 (mergeK [] [(toK k, v2)]) [(k, d2)] := by
    have := RK.put (K := X.K) (H := H2) (m := m2) .nil rv2 k
    exact this
  obtain ⟨rh3, ex3⟩ := set_dk rh2 hm' hH rk'
  have hn : vs = [] := by
    cases rk
    rfl
  subst hn
  refine ⟨hH, [(toK k, v2)], rfl, by simp, ?_⟩
  exact fin _ _ _ _ _ (rp.ext ex3) rh3 (((a3.trans ex1).trans ex2).trans ex3) q2
def LD (X : Cx) (nm : Nm) (w : Sa → AH → (List (D × D) → AH → Prop) → EK → Prop) (σ : L2.St) (H : Hp) (Q : List (V × V) → Hp → Prop) : Prop :=
  ∃ sa m h Qa Ea, RS X.K H m σ sa ∧ RH X.K nm H m h ∧ w sa h Qa Ea ∧ TKs X nm H m Ea ∧ ∀ ps H' m' pd h', RVs X.K H' m' (ps.map (·.1)) (pd.map (·.1)) → RVs X.K H' m' (ps.map (·.2)) (pd.map (·.2)) → RH X.K nm H' m' h' → Ext H m H' m' → Qa pd h' → Q ps H'
def SndD (X : Cx) (nm : Nm) (w : Sa → AH → (List (D × D) → AH → Prop) → EK → Prop) (ks : List (Option Expr)) (vs : List Expr) : Prop :=
  ks.all (·.isSome) = true ∧ ks.length = vs.length ∧ ∃ trs, (∀ pos, PPs X pos ks vs trs) ∧ ∀ σ H Q, LD X nm w σ H Q → tPairs trs σ H Q
theorem dd_nil : SndD X nm (wD C .nil) [] [] := ⟨rfl, rfl, [], fun _ => pps_nil, fun σ H Q q => by
  obtain ⟨sa, m, h, Qa, Ea, rs, rh, w, tk, fin⟩ := q
  simp only [wD] at w
  exact fin [] H m [] h .nil .nil rh .refl w⟩
theorem dd_kv {a b r : M} {x y : Expr} {ks : List (Option Expr)} {vs : List Expr} (ha : DE X nm x (wE C a)) (hb : DE X nm y (wE C b)) (hr : SndD X nm (wD C r) ks vs) : SndD X nm (wD C (.kv a b r)) (some x :: ks) (y :: vs) := by
  obtain ⟨h1, h2, trs, h3, h4⟩ := hr
  refine ⟨by simpa using h1, by simp [h2], _, fun pos => pps_cons ha hb (h3 pos), fun σ H Q q => ?_⟩
  obtain ⟨sa, m, h, Qa, Ea, rs, rh, w, tk, fin⟩ := q
  simp only [wD] at w
  refine ⟨sa, m, h, _, Ea, rs, rh, w, tk, fun v1 H1 m1 d1 g1 rv1 rh1 ex1 q1 => ⟨sa, m1, g1, _, Ea, rs.ext ex1, rh1, q1, tk_ext tk ex1, fun v2 H2 m2 d2 g2 rv2 rh2 ex2 q2 => h4 _ _ _ ?_⟩⟩
  refine ⟨sa, m2, g2, _, Ea, (rs.ext ex1).ext ex2, rh2, q2, tk_ext (tk_ext tk ex1) ex2, fun ps H3 m3 pd g3 r1 r2 rh3 ex3 q3 => ?_⟩
  exact fin _ _ _ ((d1, d2) :: pd) _ (.cons ((rv1.ext ex2).ext ex3) r1) (.cons (rv2.ext ex3) r2) rh3 ((ex1.trans ex2).trans ex3) q3
theorem kv_rel {K : PySem.W.Frag} {H : Hp} {m : List Addr} : ∀ {ps : List (V × V)} {pd : List (D × D)} {kvs : List (Kd × D)}, RVs K H m (ps.map (·.1)) (pd.map (·.1)) → RVs K H m (ps.map (·.2)) (pd.map (·.2)) → kvOf pd = some kvs → ∃ ws : List (Key × V), ps = ws.map (fun kv => (kV kv.1, kv.2)) ∧ RK K H m ws kvs
  | [], [], kvs, _, _, e => by simp [kvOf] at e; subst e; exact ⟨[], rfl, .nil⟩
  | [], _ :: _, _, h, _, _ => by cases h
  | _ :: _, [], _, h, _, _ => by cases h
  | (v1, v2) :: ps, (d1, d2) :: pd, kvs, h1, h2, e => by
    simp only [kvOf] at e
    cases h1 with
    | cons r1 t1 => cases h2 with
      | cons r2 t2 =>
        split at e
        · rename_i k r ek er
          cases e
          obtain ⟨ws, e1, rk⟩ := kv_rel t1 t2 er
          have := key_rv r1 ek
          simp only at this
          subst this
          exact ⟨(toK k, v2) :: ws, by rw [e1]; rfl, .cons r2 rk⟩
        · cases e
theorem de_disp {r : M} {ks : List (Option Expr)} {vs : List Expr} {pos : Pos} (h0 : ks ≠ []) (h15 : ks.length ≤ 15) (hr : SndD X nm (wD C r) ks vs) : DE X nm (.Dict ks vs pos) (wE C (.disp r)) := by
  obtain ⟨h1, h2, trs, h3, h4⟩ := hr
  refine PE.imp (pe_disp (h3 pos) h1 h2 h0 h15) fun σ H Q q => ?_
  obtain ⟨sa, m, h, Qa, Ea, rs, rh, w, tk, fin⟩ := q
  simp only [wE] at w
  intro p hp
  obtain ⟨a1, a2, a3⟩ := new_dk rh hp (.nil)
  refine h4 _ _ _ ⟨sa, m ++ [p], h ++ [.dk []], _, Ea, rs.ext a3, a2, w, tk_ext tk a3, fun ps H1 m1 pd g1 r1 r2 rh1 ex1 q1 => ?_⟩
  obtain ⟨kvs, ek, le, e2, q2⟩ := q1
  have rp := a1.ext ex1
  obtain ⟨a', ws0, e', hm', hH, rk⟩ := the_dk rh1 rp e2
  cases e'
  obtain ⟨ws, e1, rk'⟩ := kv_rel r1 r2 ek
  have hn : ws0 = [] := by
    cases rk
    rfl
  subst hn
  obtain ⟨rh3, ex3⟩ := set_dk rh1 hm' hH (RK.merge rk' .nil)
  have hl : ws.length ≤ 15 := by
    have l1 : ps.length = ws.length := by rw [e1]; simp
    have l2 : ps.length = pd.length := by have := r1.length; simpa using this
    omega
  exact ⟨hH, ws, e1, hl, fin _ _ _ _ _ (rp.ext ex3) rh3 ((a3.trans ex1).trans ex3) q2⟩
theorem ds_setI {o i e : M} {x y v : Expr} {p pos : Pos} (k : Ct X nm G C) (he : DE X nm v (wE C e)) (ho : DE X nm x (wE C o)) (hi : DE X nm y (wE C i))
    (ha : ∀ v, assign (.Subscript x y p) X.env v = (do
      let ov ← holding [v] (eval x X.env)
      let iv ← holding [v, ov] (eval y X.env)
      standAt p
      holding [v, ov, iv] (setItem ov iv v)
      release [v, ov, iv] [])) : PS X (.Assign [.Subscript x y p] v pos) (LS X nm (wS C (.setI o i e))) :=
  PS.imp (ps_asg he (pg_sub ho hi (set_ok (nm := nm) (by have := k.hu; omega)) ha) (by show swapsWith v (some (.Subscript x y p)) pos.line X.env = pure false; cases v <;> rfl) (by cases v <;> rfl) rfl) fun D σ H q => by
    obtain ⟨sa, m, h, Z, Ea, rs, rh, w, tk, l⟩ := q
    simp only [wS] at w
    refine ⟨sa, m, h, _, Ea, rs, rh, w, tk, fun v H1 m1 d1 h1 rv rh1 ex1 q1 => ⟨sa, m1, h1, _, Ea, rs.ext ex1, rh1, q1, tk_ext tk ex1, fun v2 H2 m2 d2 h2 rv2 rh2 ex2 q2 => ⟨sa, m2, h2, _, Ea, (rs.ext ex1).ext ex2, rh2, q2, tk_ext (tk_ext tk ex1) ex2, fun v3 H3 m3 d3 h3 rv3 rh3 ex3 q3 => ?_⟩⟩⟩
    exact ⟨m3, h3, d2, d3, d1, _, rv2.ext ex3, rv3, (rv.ext ex2).ext ex3, rh3, q3, fun H4 m4 h4 rh4 ex4 q4 => l.nx _ _ _ _ _ (((rs.ext ex1).ext ex2).ext ex3 |>.ext ex4) rh4 (((ex1.trans ex2).trans ex3).trans ex4) q4⟩
theorem sw_none {es vs : List Expr} {k k2 : Nat} {p p2 : Pos} {env : Env} (h : swNone es vs = true) : swappedStores [.Tuple es k p] (.Tuple vs k2 p2) env = pure none := by
  unfold swNone at h
  simp only [Bool.or_eq_true, Bool.not_eq_true', decide_eq_false_iff_not] at h
  unfold swappedStores
  simp only []
  by_cases h1 : (!(es.length == 2 || es.length == 3) || vs.length != es.length || env.blockKind != .function) = true
  · rw [if_pos h1]
  · rw [if_neg h1]
    have hv : vs.all (foldedForSure 8) = true := by
      rcases h with h | h | h
      · exact absurd (by simp only [Bool.or_eq_true, Bool.not_eq_true']; exact .inl (.inl h)) h1
      · exact absurd (by simp only [Bool.or_eq_true]; exact .inl (.inr (by simpa using h))) h1
      · exact h
    rw [hv]
    simp only [if_true]
    split <;> first | rfl | (split <;> rfl)
theorem filterMap_lt {α β : Type} (f : α → Option β) : ∀ {l : List α} {a : α}, a ∈ l → f a = none → (l.filterMap f).length < l.length
  | b :: l, a, ha, hf => by
    rcases List.mem_cons.mp ha with rfl | ha
    · rw [List.filterMap_cons_none hf]
      exact Nat.lt_succ_of_le (List.length_filterMap_le f l)
    · have ih := filterMap_lt f ha hf
      cases q : f b with
      | none => rw [List.filterMap_cons_none q]; exact Nat.lt_succ_of_lt ih
      | some c => rw [List.filterMap_cons_some q]; exact Nat.succ_lt_succ ih
theorem sw_cells {es vs : List Expr} {k k2 : Nat} {p p2 : Pos} {env : Env} (h : swCell env.scope es = true) : swappedStores [.Tuple es k p] (.Tuple vs k2 p2) env = pure none := by
  unfold swCell at h
  rw [List.any_eq_true] at h
  obtain ⟨e, he, hx⟩ := h
  have hx2 : ∃ x px, e = .Name x px ∧ env.scope.names.lookup x ≠ some .local := by
    cases e with
    | Name x px => exact ⟨x, px, rfl, by simpa using hx⟩
    | _ => simp at hx
  obtain ⟨x, px, rfl, hx3⟩ := hx2
  have hk : (env.kindOf x == some NameKind.local) = false := by
    show (env.scope.names.lookup x == some NameKind.local) = false
    rw [beq_eq_false_iff_ne]
    exact hx3
  unfold swappedStores
  simp only []
  split
  · rfl
  · split
    · rfl
    · have hl := filterMap_lt (fun e : Expr => match e with
        | .Name id pos => if (env.kindOf id == some .local && pos.line == (es.head?.map (·.pos.line)).getD 0) = true then some id else none
        | _ => none) he (by simp [hk])
      rw [if_pos]
      rw [Bool.or_eq_true]
      left
      rw [bne_iff_ne]
      exact Nat.ne_of_lt hl
theorem swLoc_ok {sc : Scope} {l : Nat} {e : Expr} (h : swLoc sc l e = true) : ∃ x p, e = .Name x p ∧ sc.names.lookup x = some .local ∧ p.line = l := by
  cases e <;> simp only [swLoc] at h <;> first | (cases h; done) | skip
  simp only [Bool.and_eq_true, decide_eq_true_eq] at h
  exact ⟨_, _, rfl, h.1, h.2⟩
theorem blk_fn {env : Env} (h : env.blockKind = .function) : (env.blockKind != ScopeKind.function) = false := by rw [h]; rfl
theorem sw_two {env : Env} {x y : Str} {a b : Expr} {k k2 : Nat} {p p2 px py : Pos} (hk : env.blockKind = .function) (hxy : x ≠ y) (hx : env.scope.names.lookup x = some .local) (hy : env.scope.names.lookup y = some .local) (hl : py.line = px.line)
    (ha : notStar a = true) (hb : notStar b = true) (h1 : [a, b].all (foldedForSure 8) = false) (h2 : [a, b].all (constantsAlone 8) = false) :
    swappedStores [.Tuple [.Name x px, .Name y py] k p] (.Tuple [a, b] k2 p2) env = pure (some [x, y]) := by
  have e0 : (env.blockKind != ScopeKind.function) = false := blk_fn hk
  have e1 : (env.kindOf x == some .local) = true := by show (env.scope.names.lookup x == some .local) = true; rw [hx]; rfl
  have e2 : (env.kindOf y == some .local) = true := by show (env.scope.names.lookup y == some .local) = true; rw [hy]; rfl
  have hxy' : (y == x) = false := beq_eq_false_iff_ne.mpr (Ne.symm hxy)
  unfold swappedStores
  simp only []
  rw [if_neg (by rw [e0]; simp), if_neg (by cases a <;> cases b <;> first | (intro z; exact Bool.noConfusion z) | (cases ha; done) | (cases hb; done))]
  simp only [List.filterMap_cons, List.filterMap_nil, e1, e2, Expr.pos, List.head?_cons, Option.map_some, Option.getD_some, hl, beq_self_eq_true, Bool.and_self, if_true]
  simp [List.eraseDups_cons, hxy', h1, h2]
theorem sw_three {env : Env} {x y z : Str} {a b c : Expr} {k k2 : Nat} {p p2 px py pz : Pos} (hk : env.blockKind = .function) (hxy : x ≠ y) (hxz : x ≠ z) (hyz : y ≠ z) (hx : env.scope.names.lookup x = some .local) (hy : env.scope.names.lookup y = some .local) (hz : env.scope.names.lookup z = some .local) (hl : py.line = px.line) (hl2 : pz.line = px.line)
    (hn : [a, b, c].all notStar = true) (h1 : [a, b, c].all (foldedForSure 8) = false) (h2 : [a, b, c].all (constantsAlone 8) = false) :
    swappedStores [.Tuple [.Name x px, .Name y py, .Name z pz] k p] (.Tuple [a, b, c] k2 p2) env = pure (some [x, y, z]) := by
  have e0 : (env.blockKind != ScopeKind.function) = false := blk_fn hk
  have e1 : (env.kindOf x == some .local) = true := by show (env.scope.names.lookup x == some .local) = true; rw [hx]; rfl
  have e2 : (env.kindOf y == some .local) = true := by show (env.scope.names.lookup y == some .local) = true; rw [hy]; rfl
  have e3 : (env.kindOf z == some .local) = true := by show (env.scope.names.lookup z == some .local) = true; rw [hz]; rfl
  have hxy' : (y == x) = false := beq_eq_false_iff_ne.mpr (Ne.symm hxy)
  have hxz' : (z == x) = false := beq_eq_false_iff_ne.mpr (Ne.symm hxz)
  have hyz' : (z == y) = false := beq_eq_false_iff_ne.mpr (Ne.symm hyz)
  have n2 : ∀ f : Expr → Bool, (∀ e, notStar e = true → f e = false) → [a, b, c].any f = false := fun f hf => by
    simp only [List.all_cons, List.all_nil, Bool.and_true, Bool.and_eq_true] at hn
    simp [hf a hn.1, hf b hn.2.1, hf c hn.2.2]
  unfold swappedStores
  simp only []
  rw [if_neg (by rw [e0]; simp), if_neg (by rw [n2 _ (fun e he => by cases e <;> first | rfl | (cases he; done))]; exact Bool.noConfusion)]
  simp only [List.filterMap_cons, List.filterMap_nil, e1, e2, e3, Expr.pos, List.head?_cons, Option.map_some, Option.getD_some, hl, hl2, beq_self_eq_true, Bool.and_self, if_true]
  simp [List.eraseDups_cons, hxy', hxz', hyz', h1, h2]
theorem NamesOk.two {i j : Nat} {es : List Expr} (o : NamesOk X [i, j] es) : ∃ x y px py, es = [.Name x px, .Name y py] ∧ X.N[i]? = some x ∧ X.N[j]? = some y := by
  cases o with
  | cons a o => cases o with
    | cons b o => cases o; exact ⟨_, _, _, _, rfl, a.ix, b.ix⟩
theorem NamesOk.three {i j l : Nat} {es : List Expr} (o : NamesOk X [i, j, l] es) : ∃ x y z px py pz, es = [.Name x px, .Name y py, .Name z pz] ∧ X.N[i]? = some x ∧ X.N[j]? = some y ∧ X.N[l]? = some z := by
  cases o with
  | cons a o => cases o with
    | cons b o => cases o with
      | cons c o => cases o; exact ⟨_, _, _, _, _, _, rfl, a.ix, b.ix, c.ix⟩
theorem NamesOk.len : ∀ {is : List Nat} {es : List Expr}, NamesOk X is es → es.length = is.length
  | _, _, .nil => rfl
  | _, _, .cons _ r => by simp [NamesOk.len r]
theorem nd_ix {N : List Str} {i j : Nat} {x y : Str} (hi : N[i]? = some x) (hj : N[j]? = some y) (h : i ≠ j) (nd : N.Nodup) : x ≠ y := fun e => by
  subst e
  exact h (nodup_ix nd hi hj)
theorem len_two {α : Type} : ∀ {xs : List α}, xs.length = 2 → ∃ a b, xs = [a, b]
  | [a, b], _ => ⟨a, b, rfl⟩
theorem len_three {α : Type} : ∀ {xs : List α}, xs.length = 3 → ∃ a b c, xs = [a, b, c]
  | [a, b, c], _ => ⟨a, b, c, rfl⟩
theorem ds_par {is : List Nat} {as : M} {es vs : List Expr} {kk k2 : Nat} {p p2 pos : Pos} (k : Ct X nm G C) (hk : X.env.blockKind = .function) (o : NamesOk X is es) (ha : PA X vs (LA X nm (wA C as))) (hw : swSome X.env.scope is es vs = true) (hl : es.length = 2 ∨ es.length = 3) (hv : vs.length = es.length) :
    PS X (.Assign [.Tuple es kk p] (.Tuple vs k2 p2) pos) (LS X nm (wS C (.setT is (.tup as)))) := by
  simp only [swSome, Bool.and_eq_true, decide_eq_true_eq, Bool.not_eq_true', List.all_eq_true] at hw
  obtain ⟨nd, hloc, hst, hf, hc⟩ := hw
  have nl := o.len
  rcases hl with hl | hl
  · obtain ⟨i, j, rfl⟩ := len_two (nl.symm.trans hl)
    · obtain ⟨x, y, px, py, rfl, ix, iy⟩ := o.two
      obtain ⟨a, b, rfl⟩ := len_two (hv.trans hl)
      · obtain ⟨_, _, e1, l1, _⟩ := swLoc_ok (hloc _ (List.mem_cons_self))
        cases e1
        obtain ⟨_, _, e2, l2, q2⟩ := swLoc_ok (hloc _ (List.mem_cons_of_mem _ List.mem_cons_self))
        cases e2
        have hij : i ≠ j := by simpa using nd
        refine PS.imp (ps_par k.calm k.nd ix iy hij l1 l2 ha (sw_two hk (nd_ix ix iy hij k.nd) l1 l2 q2 (hst _ (by simp)) (hst _ (by simp)) hf hc) rfl) fun D σ H q => ?_
        obtain ⟨sa, m, h, Z, Ea, rs, rh, w, tk, l⟩ := q
        simp only [wS, wE] at w
        refine ⟨sa, m, h, _, Ea, rs, rh, w, tk, fun us H1 m1 ds h1 rvs rh1 ex1 q1 => ?_⟩
        obtain ⟨_, q1⟩ := q1
        obtain ⟨d, e, rfl⟩ := len_two q1.1
        · have q2 := q1.2
          obtain ⟨v, w, rfl, rv1, rv2⟩ := rvs2 rvs
          exact ⟨v, w, rfl, l.nx _ _ _ _ _ (((rs.ext ex1).set rv1).set rv2) rh1 ex1 q2⟩
  · obtain ⟨i, j, n, rfl⟩ := len_three (nl.symm.trans hl)
    · obtain ⟨x, y, z, px, py, pz, rfl, ix, iy, iz⟩ := o.three
      obtain ⟨a, b, c, rfl⟩ := len_three (hv.trans hl)
      · obtain ⟨_, _, e1, l1, _⟩ := swLoc_ok (hloc _ (List.mem_cons_self))
        cases e1
        obtain ⟨_, _, e2, l2, q2⟩ := swLoc_ok (hloc _ (List.mem_cons_of_mem _ List.mem_cons_self))
        cases e2
        obtain ⟨_, _, e3, l3, q3⟩ := swLoc_ok (hloc _ (List.mem_cons_of_mem _ (List.mem_cons_of_mem _ List.mem_cons_self)))
        cases e3
        have hij : i ≠ j := fun e => by subst e; simp at nd
        have hin : i ≠ n := fun e => by subst e; simp at nd
        have hjn : j ≠ n := fun e => by subst e; simp at nd
        refine PS.imp (ps_par3 k.calm k.nd ix iy iz hij hin hjn l1 l2 l3 ha (sw_three hk (nd_ix ix iy hij k.nd) (nd_ix ix iz hin k.nd) (nd_ix iy iz hjn k.nd) l1 l2 l3 q2 q3 (List.all_eq_true.mpr hst) hf hc) rfl) fun D σ H q => ?_
        obtain ⟨sa, m, h, Z, Ea, rs, rh, w, tk, l⟩ := q
        simp only [wS, wE] at w
        refine ⟨sa, m, h, _, Ea, rs, rh, w, tk, fun us H1 m1 ds h1 rvs rh1 ex1 q1 => ?_⟩
        obtain ⟨_, q1⟩ := q1
        obtain ⟨d, e, f, rfl⟩ := len_three q1.1
        · have q2 := q1.2
          cases rvs with
          | cons rv1 rvs =>
            obtain ⟨v, w, rfl, rv2, rv3⟩ := rvs2 rvs
            exact ⟨_, v, w, rfl, l.nx _ _ _ _ _ ((((rs.ext ex1).set rv1).set rv2).set rv3) rh1 ex1 q2⟩
theorem pick_one (items : Array Value) : slicePick items none none (some 1) = items := by
  have e : slicePick items none none (some 1) = slicePick items.toList.toArray none none none := rfl
  rw [e, slicePick_cut]
  simp [HT.sIx]
  rw [List.take_of_length_le (by simp)]
theorem pick_step (items : Array Value) {k : Int} (hk : k = 1 ∨ k = -1) : slicePick items none none (some k) = (stepL items.toList k).toArray := by
  rcases hk with rfl | rfl
  · rw [pick_one]; simp [stepL]
  · rw [PySem.W.krv_pick]; simp [stepL]
theorem stepL_len {α : Type} (xs : List α) {k : Int} (hk : k = 1 ∨ k = -1) : (stepL xs k).length = xs.length := by
  rcases hk with rfl | rfl <;> simp [stepL]
theorem vals_step {xs : List V} {us : List Value} (r : Vals xs us) {k : Int} (hk : k = 1 ∨ k = -1) : Vals (stepL xs k) (stepL us k) := by
  rcases hk with rfl | rfl
  · simpa [stepL] using r
  · simpa [stepL] using r.reverse
theorem RVs.step {K : PySem.W.Frag} {H : Hp} {m : List Addr} {vs : List V} {ds : List D} (r : RVs K H m vs ds) {k : Int} (hk : k = 1 ∨ k = -1) : RVs K H m (stepL vs k) (stepL ds k) := by
  rcases hk with rfl | rfl
  · simpa [stepL] using r
  · simpa [stepL] using r.reverse
section
variable {prog : Program} {w : World} {A : Around} {E : Value → Shared → Prop} {s : Shared}
theorem rev_pick (xs : Array Value) : ((List.range xs.size).filterMap fun (m : Nat) => xs[(((xs.size : Int) - 1) + (m : Int) * (-1)).toNat]?).toArray = xs.toList.reverse.toArray := by
  have e : (List.range xs.size).filterMap (fun (m : Nat) => xs[(((xs.size : Int) - 1) + (m : Int) * (-1)).toNat]?) = (List.range xs.size).filterMap (fun (m : Nat) => xs[xs.size - 1 - m]?) := by
    have gen : ∀ (l : List Nat), (∀ m ∈ l, m < xs.size) → l.filterMap (fun (m : Nat) => xs[(((xs.size : Int) - 1) + (m : Int) * (-1)).toNat]?) = l.filterMap (fun (m : Nat) => xs[xs.size - 1 - m]?) := by
      intro l
      induction l with
      | nil => intro _; rfl
      | cons m l ih =>
        intro h
        have hm := h m List.mem_cons_self
        have e3 : (((xs.size : Int) - 1) + (m : Int) * (-1)).toNat = xs.size - 1 - m := by omega
        simp only [List.filterMap_cons, e3, ih fun z hz => h z (List.mem_cons_of_mem _ hz)]
    exact gen _ fun m hm => List.mem_range.mp hm
  rw [e]
  have e2 : (List.range xs.size).filterMap (fun (m : Nat) => xs[xs.size - 1 - m]?) = ((List.range xs.size).map fun k => xs.size - 1 - k).filterMap (xs[·]?) := by
    rw [List.filterMap_map]; rfl
  rw [e2, PySem.W.krv_range, List.filterMap_reverse, PySem.W.krv_all]
theorem sliceApplied_rev {sl : Addr} {vs : Value} {n : Nat} {Q : Int × Int × Nat → Shared → Prop} (hs : s.heap.IsSliceOf sl .none .none vs) (ps : IsPart vs (some (-1)))
    (h : Q ((n : Int) - 1, -1, n) s) : wpAny (model prog w) A (Builtin.Slice.sliceApplied (.ref sl) (pure (n : Int))) Q E s := by
  obtain ⟨os, hos, hcs, hds⟩ := id hs
  unfold Builtin.Slice.sliceApplied Builtin.Slice.sliceFields
  refine wpAny_bind (wpAny_bind (wpAny_field hos hds (x := .none) rfl (wpAny_bind (wpAny_field hos hds (x := .none) rfl (wpAny_bind (wpAny_field hos hds (x := vs) rfl (wpAny_pure ?_)))))))
  refine wpAny_bind (HT.slicePart_ ps ?_)
  show wpAny _ _ (if ((-1 : Int) == 0) = true then _ else _) _ _ s
  rw [if_neg (by decide)]
  refine wpAny_bind (HT.slicePart_ .none (wpAny_bind (HT.slicePart_ .none (wpAny_bind (wpAny_pure ?_)))))
  show wpAny _ _ (match Builtin.Slice.sliceAdjust none none (-1) (n : Int) with | (lo, hi) => pure (lo, (-1 : Int), Builtin.Slice.slicePlaces lo hi (-1))) _ _ s
  have e1 : Builtin.Slice.sliceAdjust none none (-1) (n : Int) = ((n : Int) - 1, -1) := rfl
  rw [e1]
  show wpAny _ _ (pure ((n : Int) - 1, (-1 : Int), Builtin.Slice.slicePlaces ((n : Int) - 1) (-1) (-1))) _ _ s
  have e2 : Builtin.Slice.slicePlaces ((n : Int) - 1) (-1) (-1) = n := by
    unfold Builtin.Slice.slicePlaces
    rw [if_neg (by decide)]
    split <;> simp <;> omega
  rw [e2]
  exact wpAny_pure h
end
section
variable {prog : Program} {w : World} {A : Around} {E : Value → Shared → Prop} {s : Shared}
theorem sliceApplied_one {sl : Addr} {vs : Value} {n : Nat} {Q : Int × Int × Nat → Shared → Prop} (hs : s.heap.IsSliceOf sl .none .none vs) (ps : IsPart vs (some 1))
    (h : Q (0, 1, n) s) : wpAny (model prog w) A (Builtin.Slice.sliceApplied (.ref sl) (pure (n : Int))) Q E s := by
  obtain ⟨os, hos, hcs, hds⟩ := id hs
  unfold Builtin.Slice.sliceApplied Builtin.Slice.sliceFields
  refine wpAny_bind (wpAny_bind (wpAny_field hos hds (x := .none) rfl (wpAny_bind (wpAny_field hos hds (x := .none) rfl (wpAny_bind (wpAny_field hos hds (x := vs) rfl (wpAny_pure ?_)))))))
  refine wpAny_bind (HT.slicePart_ ps ?_)
  show wpAny _ _ (if ((1 : Int) == 0) = true then _ else _) _ _ s
  rw [if_neg (by decide)]
  refine wpAny_bind (HT.slicePart_ .none (wpAny_bind (HT.slicePart_ .none (wpAny_bind (wpAny_pure ?_)))))
  show wpAny _ _ (match Builtin.Slice.sliceAdjust none none 1 (n : Int) with | (lo, hi) => pure (lo, (1 : Int), Builtin.Slice.slicePlaces lo hi 1)) _ _ s
  have e1 : Builtin.Slice.sliceAdjust none none 1 (n : Int) = (0, (n : Int)) := rfl
  rw [e1]
  show wpAny _ _ (pure ((0 : Int), (1 : Int), Builtin.Slice.slicePlaces 0 (n : Int) 1)) _ _ s
  have e2 : Builtin.Slice.slicePlaces 0 (n : Int) 1 = n := by
    have := HT.places_gen 0 n
    simpa using this
  rw [e2]
  exact wpAny_pure h
theorem getItem_tuple_one {t sl : Addr} {items : Array Value} {vs : Value} {Q : Value → Shared → Prop} (ht : IsTup s.heap t items) (hs : s.heap.IsSliceOf sl .none .none vs) (ps : IsPart vs (some 1))
    (h : Q (.ref t) s) : wpAny (model prog w) A (getItem (.ref t) (.ref sl)) Q E s := by
  obtain ⟨os, hos, hcs, hds⟩ := id hs
  have hTs : s.TypeIs (.ref sl) "slice" := ⟨os, hos, hcs⟩
  unfold getItem
  try with_reducible refine wpAny_holding ?_
  first | refine wpAny_bind (wpAny_pure ?_) | skip
  refine wpAny_bind (wpAny_sequenceKey ht.typeIs (by decide) ?_)
  refine wpAny_bind (wpAny_callSpecial?_slot (name := Str.ofString "__getitem__") ht.typeIs PyProof.Rows.slot_tuple_getitem
    (wpAny_call_entry PyProof.Rows.slot_tuple_getitem ht.typeIs entry_tuple_getitem ?_ (args_tuple_getitem _ _)))
  show wpAny _ _ (Builtin.Tuple.tupleItemsOf (.ref t) >>= _) _ _ s
  refine wpAny_bind (tupleItemsOf_ ht ?_)
  refine wpAny_bind (wpAny_typeOf hTs ?_)
  rw [if_pos (by decide)]
  refine wpAny_bind (sliceApplied_one hs ps ?_)
  have hyes : ((0 : Int) == 0 && (1 : Int) == 1 && items.size == items.size) = true := by simp
  show wpAny _ _ (if ((0 : Int) == 0 && (1 : Int) == 1 && items.size == items.size) = true then _ else _) _ _ s
  rw [if_pos hyes]
  refine wpAny_bind ?_
  show wpAny _ _ (typeOf (.ref t) >>= fun T => pure (T == .type "tuple")) _ _ s
  refine wpAny_bind (wpAny_typeOf ht.typeIs (wpAny_pure ?_))
  first
    | rw [if_pos (by decide)]
    | simp only [beq_self_eq_true, if_true]
  first
    | exact wpAny_bind (wpAny_rule (wpAny_pure ⟨_, rfl, wpAny_pure h⟩))
    | exact wpAny_bind (wpAny_rule (wpAny_bind (wpAny_pure (wpAny_pure ⟨_, rfl, wpAny_pure h⟩))))
theorem getItem_tuple_rev {t sl : Addr} {items : Array Value} {vs : Value} {Q : Value → Shared → Prop} (ht : IsTup s.heap t items) (hs : s.heap.IsSliceOf sl .none .none vs) (ps : IsPart vs (some (-1)))
    (h : Q (.ref s.heap.objs.size) { s with heap := s.heap.push { cls := .type "tuple", data := .seq items.toList.reverse.toArray } }) (hsz : items.size ≤ sizeLine) : wpAny (model prog w) A (getItem (.ref t) (.ref sl)) Q E s := by
  have htake : sizeOk (.seq items.toList.reverse.toArray) := by
    show items.toList.reverse.toArray.size ≤ sizeLine
    simpa using hsz
  obtain ⟨os, hos, hcs, hds⟩ := id hs
  have hTs : s.TypeIs (.ref sl) "slice" := ⟨os, hos, hcs⟩
  unfold getItem
  try with_reducible refine wpAny_holding ?_
  first | refine wpAny_bind (wpAny_pure ?_) | skip
  refine wpAny_bind (wpAny_sequenceKey ht.typeIs (by decide) ?_)
  refine wpAny_bind (wpAny_callSpecial?_slot (name := Str.ofString "__getitem__") ht.typeIs PyProof.Rows.slot_tuple_getitem
    (wpAny_call_entry PyProof.Rows.slot_tuple_getitem ht.typeIs entry_tuple_getitem ?_ (args_tuple_getitem _ _)))
  show wpAny _ _ (Builtin.Tuple.tupleItemsOf (.ref t) >>= _) _ _ s
  refine wpAny_bind (tupleItemsOf_ ht ?_)
  refine wpAny_bind (wpAny_typeOf hTs ?_)
  rw [if_pos (by decide)]
  refine wpAny_bind (sliceApplied_rev hs ps ?_)
  have hno : ¬ ((((items.size : Int) - 1) == 0 && (-1 : Int) == 1 && items.size == items.size) = true) := by
    intro q
    rw [Bool.and_eq_true, Bool.and_eq_true] at q
    exact absurd q.1.2 (by decide)
  show wpAny _ _ (if (((items.size : Int) - 1) == 0 && (-1 : Int) == 1 && items.size == items.size) = true then _ else _) _ _ s
  rw [if_neg hno, rev_pick]
  first
    | exact wpAny_bind (m := Builtin.Tuple.tupleExact _) (wpAny_newObj_type (wpAny_pure ⟨_, rfl, wpAny_pure h⟩) htake)
    | exact wpAny_bind (m := Builtin.Tuple.tupleExact _) (wpAny_newObj_type (wpAny_bind (wpAny_pure (wpAny_pure ⟨_, rfl, wpAny_pure h⟩))) htake)
    | exact wpAny_bind (wpAny_bind (m := Builtin.Tuple.tupleExact _) (wpAny_newObj_type (wpAny_pure (wpAny_pure ⟨_, rfl, wpAny_pure h⟩)) htake))
    | exact wpAny_bind (wpAny_bind (m := Builtin.Tuple.tupleExact _) (wpAny_newObj_type (wpAny_pure ⟨_, rfl, wpAny_pure h⟩) htake))
end
theorem pe_step {e st : Expr} {te ts : TE} {p3 pos : Pos} (he : PE X e te) (hst : PE X st ts) :
    PE X (.Subscript e (.Slice none none (some st) p3) pos) (fun σ H Q => te σ H fun x H1 => tPart ts σ H1 fun y H2 => ∃ k : Int, y = some k ∧ (k = 1 ∨ k = -1) ∧ ((∃ a xs, x = .ref a ∧ SqL X.K H2 a xs ∧ ∀ p, H2 p = none → Q (.ref p) (upd H2 p (.lst (stepL xs k)))) ∨
      (∃ a xs, x = .ref a ∧ SqT X.K H2 a xs ∧ (k = 1 → Q (.ref a) H2) ∧ (k = -1 → ∀ p its, H2 p = none → Q (.ref p) (upd H2 p (.frz (tO its) (.tup xs.reverse))))))) := by
  refine ⟨fun pins s σ H Q I h => ?_⟩
  refine Subscript_ (thn (he.run pins s σ H _ I h) fun v s1 ⟨x, H1, I1, r1, q1⟩ => ?_)
  refine wpAny_Slice (thn (po_none.run pins s1 σ H1 (fun o H2 => o = none ∧ H2 = H1) I1 ⟨rfl, rfl⟩) fun vl s2 ⟨l, H2, I2, pl, el, e2⟩ => ?_)
  subst el e2
  refine thn (po_none.run pins s2 σ H2 (fun o H3 => o = none ∧ H3 = H2) I2 ⟨rfl, rfl⟩) fun vu s3 ⟨u, H3, I3, pu, eu, e3⟩ => ?_
  subst eu e3
  refine thn ((po_some hst).run pins s3 σ H3 (fun o H4 => ∃ k : Int, o = some k ∧ (k = 1 ∨ k = -1) ∧ ((∃ a xs, x = .ref a ∧ SqL X.K H4 a xs ∧ ∀ p, H4 p = none → Q (.ref p) (upd H4 p (.lst (stepL xs k)))) ∨
      (∃ a xs, x = .ref a ∧ SqT X.K H4 a xs ∧ (k = 1 → Q (.ref a) H4) ∧ (k = -1 → ∀ p its, H4 p = none → Q (.ref p) (upd H4 p (.frz (tO its) (.tup xs.reverse))))))) I3 q1) fun vs s4 ⟨o, H4, I4, ps, k, eo, hk, q⟩ => ?_
  subst eo
  have I5 : Inv X pins σ H4 { s4 with heap := s4.heap.push { cls := .type "slice", data := .fields #[vl, vu, vs] } } := I4.kept (t' := s4.toks) fun b ob q => Heap.get?_push_of_some _ q
  rcases q with ⟨a, xs, rfl, hx, q⟩ | ⟨a, xs, rfl, hx, qa, qb⟩
  · cases r1
    obtain ⟨its, r, ht, hz⟩ := I5.list hx
    have hlen := r.length
    show wpAny (model X.prog X.w) X.A (subscriptTail e (.Slice none none (some st) p3) (.ref a) (.ref s4.heap.objs.size)) (EP X pins σ Q) X.xe { s4 with heap := s4.heap.push { cls := .type "slice", data := .fields #[vl, vu, vs] } }
    refine tail_any (ops := [.ref a, .ref s4.heap.objs.size]) ht.isList.typeIs (PySem.slot_list_getitem.lookup) ?_ (by with_unfolding_all rfl)
    refine wpAny_getItem_list_slice ht.isList (Heap.IsSliceOf.new _ vl vu vs) pl pu ps (by rcases hk with rfl | rfl <;> decide) ?_ (by rw [List.size_toArray]; omega)
    rw [pick_step _ hk]
    refine ⟨.ref _, _, I5.laid (t' := s4.toks) (o := .lst (stepL xs k)) (fun b ob q => Heap.get?_push_of_some _ q) (Nat.le_refl _) ?_, rfl, q _ (I5.hok.fresh (Nat.le_refl _))⟩
    exact ⟨by rw [stepL_len _ hk]; exact hz, _, 0, vals_step r hk, Heap.get?_push_size _ rfl⟩
  · cases r1
    obtain ⟨its, r, ht, hz⟩ := I5.tuple hx
    have hlen := r.length
    cases pl
    cases pu
    show wpAny (model X.prog X.w) X.A (subscriptTail e (.Slice none none (some st) p3) (.ref a) (.ref s4.heap.objs.size)) (EP X pins σ Q) X.xe { s4 with heap := s4.heap.push { cls := .type "slice", data := .fields #[.none, .none, vs] } }
    refine tail_any (ops := [.ref a, .ref s4.heap.objs.size]) ht.typeIs (PyProof.Rows.slot_tuple_getitem.lookup) ?_ (by with_unfolding_all rfl)
    rcases hk with rfl | rfl
    · exact getItem_tuple_one ht (Heap.IsSliceOf.new _ .none .none vs) ps ⟨.ref a, _, I5, rfl, qa rfl⟩
    · refine getItem_tuple_rev ht (Heap.IsSliceOf.new _ .none .none vs) ps ?_ (by rw [List.size_toArray]; omega)
      refine ⟨.ref _, _, I5.laid (t' := s4.toks) (o := .frz (tO its.reverse) (.tup xs.reverse)) (fun b ob q => Heap.get?_push_of_some _ q) (Nat.le_refl _) ?_, rfl, qb rfl _ _ (I5.hok.fresh (Nat.le_refl _))⟩
      exact ⟨Heap.get?_push_size _ rfl, by rw [List.length_reverse]; exact hz, its.reverse, r.reverse, IsTup.new _ _⟩
theorem de_slst {a st : M} {x l : Expr} {p3 pos : Pos} (ha : DE X nm x (wE C a)) (hs : DE X nm l (wE C st)) : DE X nm (.Subscript x (.Slice none none (some l) p3) pos) (wE C (.slst a st)) := by
  refine PE.imp (pe_step ha hs) fun σ H Q q => ?_
  obtain ⟨sa, m, h, Qa, Ea, rs, rh, w, tk, fin⟩ := q
  simp only [wE] at w
  refine ⟨sa, m, h, _, Ea, rs, rh, w, tk, fun v H1 m1 d1 h1 rv rh1 ex1 q1 => ⟨sa, m1, h1, _, Ea, rs.ext ex1, rh1, q1, tk_ext tk ex1, fun v2 H2 m2 d2 h2 rv2 rh2 ex2 q2 => ?_⟩⟩
  cases rv2 with
  | int k =>
    obtain ⟨hk, q3⟩ := q2
    have ex := ex1.trans ex2
    refine ⟨k, rfl, k, rfl, hk, ?_⟩
    cases rv with
    | @tup a xs ds h1' h2' =>
      refine .inr ⟨a, xs, rfl, (ex2.sqU h1').sqT, fun e => ?_, fun e p its hp => ?_⟩
      · subst e
        exact fin _ _ _ _ _ (.tup (ex2.sqU h1') (h2'.ext ex2)) rh2 ex (by simpa [stepL] using q3)
      · subst e
        obtain ⟨a1, a2, a3⟩ := new_tup its rh2 hp (h2'.ext ex2).reverse
        exact fin _ _ _ _ _ a1 a2 (ex.trans a3) (by simpa [stepL] using q3)
    | @rol a xs ds h1' h2' =>
      refine .inl ⟨a, xs, rfl, (ex2.sqF h1').sq, fun p hp => ?_⟩
      obtain ⟨a1, a2, a3⟩ := new_lst rh2 hp ((h2'.ext ex2).step hk)
      exact fin _ _ _ _ _ a1 a2 (ex.trans a3) q3
    | @ref a n hm =>
      obtain ⟨xs, e1, q3⟩ := q3
      obtain ⟨a', vs, e2, _, e3, e4⟩ := the_lst rh2 ((RV.ref hm).ext ex2) e1
      cases e2
      refine .inl ⟨a, vs, rfl, SqL.of e3, fun p hp => ?_⟩
      obtain ⟨a1, a2, a3⟩ := new_lst rh2 hp (e4.step hk)
      exact fin _ _ _ _ _ a1 a2 (ex.trans a3) q3
    | _ => exact q3.elim
  | _ => exact q2.elim
theorem de_lrng {a : M} {x z : Str} {y : Expr} {p pz pc pos : Pos} (k : Ct X nm G C) (hn : nameB X.env.scope (Str.ofString "list") x = true) (hz : nameB X.env.scope (Str.ofString "range") z = true) (ha : DE X nm y (wE C a)) (hs : starEach [y] X.env = [(false, eval y X.env)]) :
    DE X nm (.Call (.Name x p) [.Call (.Name z pz) [y] [] pc] [] pos) (wE C (.lrng a)) := by
  obtain ⟨rfl, hg, _⟩ := nameB_ok hn
  obtain ⟨rfl, hg2, _⟩ := nameB_ok hz
  refine PE.imp (pe_listRg k.calm hg (k.blt _ (by simp [bltS])) (prg_1 hg2 (k.blt _ (by simp [bltS])) ha hs) rfl) fun σ H Q q => ?_
  obtain ⟨sa, m, h, Qa, Ea, rs, rh, w, tk, fin⟩ := q
  simp only [wE] at w
  refine ⟨sa, m, h, _, Ea, rs, rh, w, tk, fun v H1 m1 d1 h1 rv rh1 ex1 q1 => ?_⟩
  cases rv with
  | int n =>
    obtain ⟨⟨b1, b2⟩, q2⟩ := q1
    refine ⟨n, rfl, ⟨by omega, by omega, by omega, by omega, by omega⟩, fun p hp => ?_⟩
    have rz : RVs X.K H1 m1 (rgV 0 n) ((List.range n.toNat).map fun (i : Nat) => D.int (0 + (i : Int))) := by
      unfold rgV
      rw [Int.sub_zero]
      generalize List.range n.toNat = l
      induction l with
      | nil => exact .nil
      | cons i l ih => exact .cons (.int _) ih
    obtain ⟨a1, a2, a3⟩ := new_lst rh1 hp rz
    exact fin _ _ _ _ _ a1 a2 (ex1.trans a3) q2
  | _ => exact q1.elim
end
end Rf
namespace Rf
open PySem PySem.Spec PyProof.Rows L2
theorem chk_star {G : Gi} {N : List Str} {a : M} {sc : Scope} {e : Expr} (h : chkE G N a sc e = true) : notStar e = true := by
  cases e with
  | Starred => cases a <;> simp [chkE] at h
  | _ => rfl
theorem star_each {e : Expr} {es : List Expr} {env : Env} (h : notStar e = true) : starEach (e :: es) env = (false, eval e env) :: starEach es env := by
  cases e <;> first | rfl | (cases h; done)
theorem chkA_star {G : Gi} {N : List Str} {sc : Scope} : ∀ {as : M} {es : List Expr}, chkA G N as sc es = true → es.all notStar = true
  | .nil, es, h => by simp only [chkA, List.isEmpty_iff] at h; subst h; rfl
  | .cons a r, es, h => by
    cases es with
    | nil => simp [chkA] at h
    | cons e es =>
      simp only [chkA, Bool.and_eq_true] at h
      simp only [List.all_cons, Bool.and_eq_true]
      exact ⟨chk_star h.1, chkA_star h.2⟩
  | .var _, _, h | .k _, _, h | .glb _ _, _, h | .bin _ _ _, _, h | .neg _, _, h | .cmp _ _ _, _, h | .ch _ _ _ _ _, _, h | .and _ _, _, h | .or _ _, _, h | .not _, _, h | .ite _ _ _, _, h | .tup _, _, h | .lst _, _, h | .idx _ _, _, h | .slc _ _ _, _, h | .slst _ _, _, h | .call _ _, _, h | .bf _ _, _, h | .bm _ _ _, _, h | .isi _ _, _, h | .lrng _, _, h | .lc _ _ _ _ _, _, h | .lcK _ _ _ _ _, _, h | .dnew, _, h | .kdx _ _ _, _, h | .kdg _ _ _, _, h | .kdi _ _ _, _, h | .ddisp _ _, _, h | .disp _, _, h | .kv _ _ _, _, h | .lvals _, _, h | .attr _ _, _, h | .meth _ _ _, _, h | .make _ _ _, _, h | .rng1 _, _, h | .rng2 _ _, _, h | .rng3 _ _ _, _, h | .enum _, _, h | .zip _ _, _, h | .tv _, _, h | .itv _, _, h => by simp [chkA] at h
theorem plain_any {env : Env} {pos : Pos} : ∀ {es : List Expr}, es.all notStar = true → (backTo pos (starEach es env)).any (·.1) = false
  | [], _ => rfl
  | e :: es, h => by
    simp only [List.all_cons, Bool.and_eq_true] at h
    rw [star_each h.1]
    have := plain_any (env := env) (pos := pos) h.2
    show (false || (backTo pos (starEach es env)).any (·.1)) = false
    rw [this]; rfl
theorem few_ok {env : Env} {pos : Pos} {es : List Expr} (h : es.all notStar = true) (hl : es.length < 30) : ((backTo pos (starEach es env)).all (fun x => !x.1) && (backToKw pos (keywordEach [] env)).all (fun x => x.1.isSome)
      && decide (es.length + ([] : List Keyword).length + (if ([] : List Keyword).isEmpty then 0 else 1) < 30)) = true := by
  have := plain_any (env := env) (pos := pos) h
  have e : (backTo pos (starEach es env)).all (fun x => !x.1) = true := by
    rw [List.all_eq_true]
    rw [List.any_eq_false] at this
    intro x hx
    have := this x hx
    simp at this
    simp [this]
  rw [e]
  simp [backToKw, keywordEach]
  exact hl
def isBool : Expr → Bool
  | .BoolOp .. => true
  | _ => false
structure Snd (nm : Nm) (G : Gi) (C : CT) (a : M) : Prop where
  E : ∀ (X : Cx) (e : Expr), Ct X nm G C → chkE G X.N a X.env.scope e = true → DE X nm e (wE C a)
  A : ∀ (X : Cx) (es : List Expr), Ct X nm G C → chkA G X.N a X.env.scope es = true → PA X es (LA X nm (wA C a))
  O : ∀ (X : Cx) (o : Option Expr), Ct X nm G C → chkO G X.N a X.env.scope o = true → PO X o (LO X nm (wO C a))
  T : ∀ (X : Cx) (e : Expr), Ct X nm G C → chkT G X.N a X.env.scope e = true → PT X e (LT X nm (wT C a)) ∧ (isBool e = true → PW X e (LT X nm (wT C a)))
  I : ∀ (X : Cx) (t e : Expr), Ct X nm G C → chkI G X.N a X.env.scope t e = true → PI X t e (LI X nm (wI C a))
  D : ∀ (X : Cx) (ks : List (Option Expr)) (vs : List Expr), Ct X nm G C → chkD G X.N a X.env.scope ks vs = true → SndD X nm (wD C a) ks vs
theorem tgB1_ok {X : Cx} {i : Nat} {e : Expr} (h : tgB1 X.N X.env.scope i e = true) (hf : ∀ x, X.fn x = true) : ∃ x p, e = .Name x p ∧ StOk X i x := by
  cases e <;> simp only [tgB1] at h <;> first | (cases h; done) | skip
  simp only [Bool.and_eq_true, decide_eq_true_eq] at h
  exact ⟨_, _, rfl, h.1, locB_ok h.2.1, .inl (hf _)⟩
theorem tgBs_ok {X : Cx} (hf : ∀ x, X.fn x = true) : ∀ {is : List Nat} {es : List Expr}, tgBs X.N X.env.scope is es = true → NamesOk X is es
  | [], [], _ => .nil
  | [], _ :: _, h => by simp [tgBs] at h
  | _ :: _, [], h => by simp [tgBs] at h
  | i :: is, e :: es, h => by
    simp only [tgBs, Bool.and_eq_true] at h
    obtain ⟨x, p, rfl, o⟩ := tgB1_ok h.1 hf
    exact .cons o (tgBs_ok hf h.2)
theorem tgB_ok {X : Cx} {nm : Nm} {G : Gi} {C : CT} {tg : Tg} {t : Expr} (k : Ct X nm G C) (hf : ∀ x, X.fn x = true) (h : tgB X.N X.env.scope tg t = true) : PG X t (LG X nm tg) := by
  cases tg with
  | one i =>
    obtain ⟨x, p, rfl, o⟩ := tgB1_ok (e := t) h hf
    exact dg_one k.nd o
  | many is =>
    cases t <;> simp only [tgB] at h <;> first | (cases h; done) | skip
    exact dg_many k (tgBs_ok hf h)
theorem blk_st {X : Cx} {s : Shared} {H : Hp} {scope : Scope} {cl : List (Str × Addr)} {A : Addr} {fp : List Addr} {i : Nat} {x : Str} (hi : X.N[i]? = some x) (h : L2.Loc scope x) : StOk (X.blk s H scope (compEnvC scope cl A X.env) fp) i x := by
  have keep : ∀ {k : NameKind}, k ≠ .free → scope.names.lookup x = some k → (compEnvC scope cl A X.env).scope.names.lookup x = some k := fun hk e => lookup_relS_keep hk e
  rcases h with h | h
  · exact ⟨hi, .inl (keep (by decide) h), .inr (keep (by decide) h)⟩
  · exact ⟨hi, .inr (keep (by decide) h), .inl (by show (scope.names.lookup x == some .cell) = true; rw [h]; rfl)⟩
theorem blk_tgs {X : Cx} {s : Shared} {H : Hp} {scope : Scope} {cl : List (Str × Addr)} {A : Addr} {fp : List Addr} : ∀ {is : List Nat} {es : List Expr}, tgBs X.N scope is es = true → NamesOk (X.blk s H scope (compEnvC scope cl A X.env) fp) is es
  | [], [], _ => .nil
  | [], _ :: _, h => by simp [tgBs] at h
  | _ :: _, [], h => by simp [tgBs] at h
  | i :: is, e :: es, h => by
    simp only [tgBs, Bool.and_eq_true] at h
    obtain ⟨h1, h2⟩ := h
    cases e <;> simp only [tgB1] at h1 <;> first | (cases h1; done) | skip
    simp only [Bool.and_eq_true, decide_eq_true_eq] at h1
    exact .cons (blk_st h1.1 (locB_ok h1.2.1)) (blk_tgs h2)
theorem blk_tg {X : Cx} {nm : Nm} {G : Gi} {C : CT} {s : Shared} {H : Hp} {scope : Scope} {cl : List (Str × Addr)} {A : Addr} {fp : List Addr} {tg : Tg} {t : Expr} (k : Ct X nm G C) (h : tgB X.N scope tg t = true) :
    PG (X.blk s H scope (compEnvC scope cl A X.env) fp) t (LG (X.blk s H scope (compEnvC scope cl A X.env) fp) nm tg) := by
  cases tg with
  | one i =>
    simp only [tgB] at h
    cases t <;> simp only [tgB1] at h <;> first | (cases h; done) | skip
    simp only [Bool.and_eq_true, decide_eq_true_eq] at h
    exact dg_one k.nd (blk_st h.1 (locB_ok h.2.1))
  | many is =>
    cases t <;> simp only [tgB] at h <;> first | (cases h; done) | skip
    exact dg_many (k.blk _ _ _ _ _) (blk_tgs h)
theorem own_ix (N : List Str) (own : List Nat) : (ownOf N own).map (·.2) = own := by
  unfold ownOf
  rw [List.map_map]
  exact List.map_id own
section
variable {nm : Nm} {G : Gi} {C : CT}
theorem lcK_lc {G : Gi} {N : List Str} {el c : M} {tg : Tg} {i : Nat} {own : List Nat} {sc : Scope} {e : Expr} (h : chkE G N (.lcK el tg i c own) sc e = true) : chkE G N (.lc el tg (.itv (.var i)) c own) sc e = true := by
  simp only [chkE] at h
  split at h
  · rename_i x t z p ifs s pp
    simp only [Bool.and_eq_true] at h
    obtain ⟨h1, h2, h3, h4, h5, h6⟩ := h
    simp only [chkE, chkI, notSet, Bool.and_eq_true]
    exact ⟨h2, h3, h4, ⟨trivial, h1⟩, h5, h6⟩
  · cases h
theorem di_var {X : Cx} {i : Nat} {t e : Expr} (h : chkI G X.N (.itv (.var i)) X.env.scope t e = true) : PI X t e (LI X nm (wI C (.itv (.var i)))) := by
  simp only [chkI, chkE, Bool.and_eq_true] at h
  obtain ⟨h1, h2⟩ := h
  split at h2
  · exact di_itv (de_var h2)
  · cases h2
structure LcOk (nm : Nm) (G : Gi) (C : CT) (X : Cx) (el : M) (tg : Tg) (src c : M) (own : List Nat) (x t it : Expr) (ifs : List Expr) (s : Scope) : Prop where
  blk : BlkOk X.N X.env.scope s (ownOf X.N own)
  sub : ∀ i ∈ tgSlots tg, i ∈ own
  pit : PI X t it (LI X nm (wI C src))
  nset : ∀ v, foldedSetIterable it X.env v = pure v
  tg : ∀ (sh : Shared) (H : Hp) (A : Addr) (cl : List (Str × Addr)) (fp : List Addr), PG (X.blk sh H s (compEnvC s cl A X.env) fp) t (LG (X.blk sh H s (compEnvC s cl A X.env) fp) nm tg)
  ifs : ∀ (sh : Shared) (H : Hp) (A : Addr) (cl : List (Str × Addr)) (fp : List Addr), PTs (X.blk sh H s (compEnvC s cl A X.env) fp) ifs (LT (X.blk sh H s (compEnvC s cl A X.env) fp) nm (wT C c))
  el : ∀ (sh : Shared) (H : Hp) (A : Addr) (cl : List (Str × Addr)) (fp : List Addr), DE (X.blk sh H s (compEnvC s cl A X.env) fp) nm x (wE C el)
theorem pts_yes {X : Cx} : PTs X [] (LT X nm (wT C .nil)) := ⟨fun pins s σ H Q I q => pts_nil.run pins s σ H Q I (by
  obtain ⟨sa, m, h, Qa, Ea, rs, rh, w, tk, fin⟩ := q
  simp only [wT] at w
  exact fin _ _ _ _ rh .refl w)⟩
theorem set_no {it : Expr} {env : Env} (h : notSet it = true) (v : Value) : foldedSetIterable it env v = pure v := by
  cases it <;> first | rfl | (cases h; done)
theorem lc_ok {X : Cx} {el src c : M} {tg : Tg} {own : List Nat} {e : Expr} (k : Ct X nm G C) (hel : Snd nm G C el) (hsrc : ∀ (X : Cx) (t e : Expr), Ct X nm G C → chkI G X.N src X.env.scope t e = true → PI X t e (LI X nm (wI C src))) (hc : Snd nm G C c) (h : chkE G X.N (.lc el tg src c own) X.env.scope e = true) :
    ∃ x t it ifs s p, e = .ListComp x [⟨t, it, ifs, 0⟩] s p ∧ LcOk nm G C X el tg src c own x t it ifs s := by
  simp only [chkE] at h
  split at h
  · rename_i x t it ifs s p
    simp only [Bool.and_eq_true] at h
    obtain ⟨h1, h2, h3, h4, h5, h6⟩ := h
    have hset : notSet it = true := by
      cases it <;> first | rfl | (cases src <;> simp [chkI] at h4)
      all_goals (try (rename_i q; simp [notSet] at q))
      all_goals (try (simp [notSet] at h4))
    refine ⟨x, t, it, ifs, s, p, rfl, blkOk_by h1, fun i hi => ?_, hsrc X t it k h4, set_no hset, fun sh H A cl fp => blk_tg k h3, fun sh H A cl fp => ?_, fun sh H A cl fp => hel.E _ _ (k.blk _ _ _ _ _) h6⟩
    · have := List.all_eq_true.mp h2 i hi
      simpa using this
    · split at h5
      · split at h5
        · exact pts_yes
        · cases h5
      · rename_i f
        split at h5
        · cases h5
        · exact pts_one (hc.T _ _ (k.blk _ _ _ _ _) h5).1
      · cases h5
  · cases h
theorem base_ok {N : List Str} {sc : Scope} {o : M} {x : Expr} {n : Str} {env : Env} (h : chkE G N o sc x = true) : attributeBase x n env (eval x env) = eval x env := by
  unfold attributeBase
  split
  · cases o <;> simp only [chkE] at h <;> first | (cases h; done) | (simp at h; done) | skip
    simp only [Bool.and_eq_true, Bool.not_eq_true', decide_eq_false_iff_not] at h
    have h0 := h.1
    simp [h0]
  · rfl
theorem mem_of_lookup : ∀ {l : List (Nat × Nat)} {c f : Nat}, l.lookup c = some f → (c, f) ∈ l
  | (a, b) :: l, c, f, h => by
    by_cases e : c = a
    · subst e
      simp [List.lookup] at h
      subst h
      exact List.mem_cons_self
    · have e2 : (c == a) = false := by simpa using e
      simp only [List.lookup, e2] at h
      exact List.mem_cons_of_mem _ (mem_of_lookup h)
theorem snd : ∀ a : M, Snd nm G C a := by
  intro a
  induction a with
  | nil   =>
    refine ⟨?_, ?_, ?_, ?_, ?_, ?_⟩
    · intro X e k h
      simp [chkE] at h
    · intro X es k h
      simp only [chkA, List.isEmpty_iff] at h
      subst h
      exact da_nil
    · intro X o k h
      simp only [chkO, Option.isNone_iff_eq_none] at h
      subst h
      exact do_nil
    · intro X e k h
      simp [chkT] at h
    · intro X t e k h
      simp [chkI] at h
    · intro X ks vs k h
      simp only [chkD, Bool.and_eq_true, List.isEmpty_iff] at h
      obtain ⟨rfl, rfl⟩ := h
      exact dd_nil
  | cons a r iha ihr =>
    refine ⟨?_, ?_, ?_, ?_, ?_, ?_⟩
    · intro X e k h
      simp [chkE] at h
    · intro X es k h
      cases es with
      | nil => simp [chkA] at h
      | cons e es =>
        simp only [chkA, Bool.and_eq_true] at h
        exact da_cons (iha.E X e k h.1) (ihr.A X es k h.2) (star_each (chk_star h.1))
    · intro X o k h
      cases o with
      | none => simp [chkO] at h
      | some e =>
        simp only [chkO] at h
        exact do_some (iha.E X e k h)
    · intro X e k h
      simp [chkT] at h
    · intro X t e k h
      simp [chkI] at h
    · intro X ks vs k h
      simp [chkD] at h
  | var i  =>
    refine ⟨?_, ?_, ?_, ?_, ?_, ?_⟩
    · intro X e k h
      simp only [chkE] at h
      split at h
      · exact de_var h
      · cases h
    · intro X es k h
      simp [chkA] at h
    · intro X o k h
      simp [chkO] at h
    · intro X e k h
      simp [chkT] at h
    · intro X t e k h
      simp [chkI] at h
    · intro X ks vs k h
      simp [chkD] at h
  | k d  =>
    refine ⟨?_, ?_, ?_, ?_, ?_, ?_⟩
    · intro X e k h
      simp only [chkE] at h
      split at h
      · exact de_k h
      · cases h
    · intro X es k h
      simp [chkA] at h
    · intro X o k h
      simp [chkO] at h
    · intro X e k h
      simp [chkT] at h
    · intro X t e k h
      simp [chkI] at h
    · intro X ks vs k h
      simp [chkD] at h
  | glb x d  =>
    refine ⟨?_, ?_, ?_, ?_, ?_, ?_⟩
    · intro X e k h
      simp only [chkE] at h
      split at h
      · split at h
        · rename_i y d' he
          simp only [Bool.and_eq_true] at h
          have := D.same_eq h.1
          subst this
          exact de_glb k he h.2
        · cases h
      · cases h
    · intro X es k h
      simp [chkA] at h
    · intro X o k h
      simp [chkO] at h
    · intro X e k h
      simp [chkT] at h
    · intro X t e k h
      simp [chkI] at h
    · intro X ks vs k h
      simp [chkD] at h
  | bin op a b iha ihb =>
    refine ⟨?_, ?_, ?_, ?_, ?_, ?_⟩
    · intro X e k h
      simp only [chkE] at h
      split at h
      · simp only [Bool.and_eq_true, decide_eq_true_eq] at h
        obtain ⟨rfl, h1, h2⟩ := h
        exact de_bin k (iha.E X _ k h1) (ihb.E X _ k h2)
      · cases h
    · intro X es k h
      simp [chkA] at h
    · intro X o k h
      simp [chkO] at h
    · intro X e k h
      simp [chkT] at h
    · intro X t e k h
      simp [chkI] at h
    · intro X ks vs k h
      simp [chkD] at h
  | neg a iha =>
    refine ⟨?_, ?_, ?_, ?_, ?_, ?_⟩
    · intro X e k h
      simp only [chkE] at h
      split at h
      · exact de_neg (iha.E X _ k h)
      · cases h
    · intro X es k h
      simp [chkA] at h
    · intro X o k h
      simp [chkO] at h
    · intro X e k h
      simp [chkT] at h
    · intro X t e k h
      simp [chkI] at h
    · intro X ks vs k h
      simp [chkD] at h
  | cmp op a b iha ihb =>
    refine ⟨?_, ?_, ?_, ?_, ?_, ?_⟩
    · intro X e k h
      simp only [chkE] at h
      split at h
      · simp only [Bool.and_eq_true, decide_eq_true_eq] at h
        obtain ⟨rfl, h0, h1, h2⟩ := h
        exact de_cmp k h0 (iha.E X _ k h1) (ihb.E X _ k h2)
      · cases h
    · intro X es k h
      simp [chkA] at h
    · intro X o k h
      simp [chkO] at h
    · intro X e k h
      simp only [chkT] at h
      split at h
      · simp only [Bool.and_eq_true, decide_eq_true_eq] at h
        obtain ⟨rfl, h0, h1, h2⟩ := h
        exact ⟨dt_cmp k h0 (iha.E X _ k h1) (ihb.E X _ k h2), fun z => nomatch z⟩
      · cases h
    · intro X t e k h
      simp [chkI] at h
    · intro X ks vs k h
      simp [chkD] at h
  | ch o1 o2 a b c iha ihb ihc =>
    refine ⟨?_, ?_, ?_, ?_, ?_, ?_⟩
    · intro X e k h
      simp only [chkE] at h
      split at h
      · simp only [Bool.and_eq_true, decide_eq_true_eq] at h
        obtain ⟨rfl, rfl, h0, h1, h2, h3⟩ := h
        exact de_ch k h0 (iha.E X _ k h1) (ihb.E X _ k h2) (ihc.E X _ k h3)
      · cases h
    · intro X es k h
      simp [chkA] at h
    · intro X o k h
      simp [chkO] at h
    · intro X e k h
      simp only [chkT] at h
      split at h
      · simp only [Bool.and_eq_true, decide_eq_true_eq] at h
        obtain ⟨rfl, rfl, h0, h1, h2, h3⟩ := h
        exact ⟨dt_ch k h0 (iha.E X _ k h1) (ihb.E X _ k h2) (ihc.E X _ k h3), fun z => nomatch z⟩
      · cases h
    · intro X t e k h
      simp [chkI] at h
    · intro X ks vs k h
      simp [chkD] at h
  | and a b iha ihb =>
    refine ⟨?_, ?_, ?_, ?_, ?_, ?_⟩
    · intro X e k h
      simp only [chkE] at h
      split at h
      · simp only [Bool.and_eq_true] at h
        obtain ⟨h1, h2⟩ := h
        split at h2
        · exact de_and (iha.E X _ k h1) (pe_one (ihb.E X _ k h2))
        · exact de_and (iha.E X _ k h1) (ihb.E X _ k h2)
      · cases h
    · intro X es k h
      simp [chkA] at h
    · intro X o k h
      simp [chkO] at h
    · intro X e k h
      simp only [chkT] at h
      split at h
      · simp only [Bool.and_eq_true] at h
        obtain ⟨h1, h2⟩ := h
        split at h2
        · exact ⟨(dt_and (iha.T X _ k h1).1 (pw_and1 (ihb.T X _ k h2).1)).pt, fun _ => dt_and (iha.T X _ k h1).1 (pw_and1 (ihb.T X _ k h2).1)⟩
        · exact ⟨(dt_and (iha.T X _ k h1).1 ((ihb.T X _ k h2).2 rfl)).pt, fun _ => dt_and (iha.T X _ k h1).1 ((ihb.T X _ k h2).2 rfl)⟩
      · cases h
    · intro X t e k h
      simp [chkI] at h
    · intro X ks vs k h
      simp [chkD] at h
  | or a b iha ihb =>
    refine ⟨?_, ?_, ?_, ?_, ?_, ?_⟩
    · intro X e k h
      simp only [chkE] at h
      split at h
      · simp only [Bool.and_eq_true] at h
        obtain ⟨h1, h2⟩ := h
        split at h2
        · exact de_or (iha.E X _ k h1) (pe_one (ihb.E X _ k h2))
        · exact de_or (iha.E X _ k h1) (ihb.E X _ k h2)
      · cases h
    · intro X es k h
      simp [chkA] at h
    · intro X o k h
      simp [chkO] at h
    · intro X e k h
      simp only [chkT] at h
      split at h
      · simp only [Bool.and_eq_true] at h
        obtain ⟨h1, h2⟩ := h
        split at h2
        · exact ⟨(dt_or (iha.T X _ k h1).1 (pw_or1 (ihb.T X _ k h2).1)).pt, fun _ => dt_or (iha.T X _ k h1).1 (pw_or1 (ihb.T X _ k h2).1)⟩
        · exact ⟨(dt_or (iha.T X _ k h1).1 ((ihb.T X _ k h2).2 rfl)).pt, fun _ => dt_or (iha.T X _ k h1).1 ((ihb.T X _ k h2).2 rfl)⟩
      · cases h
    · intro X t e k h
      simp [chkI] at h
    · intro X ks vs k h
      simp [chkD] at h
  | not a iha =>
    refine ⟨?_, ?_, ?_, ?_, ?_, ?_⟩
    · intro X e k h
      simp only [chkE] at h
      split at h
      · exact de_not (iha.E X _ k h)
      · cases h
    · intro X es k h
      simp [chkA] at h
    · intro X o k h
      simp [chkO] at h
    · intro X e k h
      simp only [chkT] at h
      split at h
      · exact ⟨dt_not (iha.T X _ k h).1, fun z => nomatch z⟩
      · cases h
    · intro X t e k h
      simp [chkI] at h
    · intro X ks vs k h
      simp [chkD] at h
  | ite c a b ihc iha ihb =>
    refine ⟨?_, ?_, ?_, ?_, ?_, ?_⟩
    · intro X e k h
      simp only [chkE] at h
      split at h
      · simp only [Bool.and_eq_true, decide_eq_true_eq] at h
        exact de_ite (ihc.T X _ k h.1).1 (iha.E X _ k h.2.1) (ihb.E X _ k h.2.2)
      · cases h
    · intro X es k h
      simp [chkA] at h
    · intro X o k h
      simp [chkO] at h
    · intro X e k h
      simp [chkT] at h
    · intro X t e k h
      simp [chkI] at h
    · intro X ks vs k h
      simp [chkD] at h
  | tup as ihas =>
    refine ⟨?_, ?_, ?_, ?_, ?_, ?_⟩
    · intro X e k h
      simp only [chkE] at h
      split at h
      · exact de_tup (ihas.A X _ k h)
      · cases h
    · intro X es k h
      simp [chkA] at h
    · intro X o k h
      simp [chkO] at h
    · intro X e k h
      simp [chkT] at h
    · intro X t e k h
      simp [chkI] at h
    · intro X ks vs k h
      simp [chkD] at h
  | lst as ihas =>
    refine ⟨?_, ?_, ?_, ?_, ?_, ?_⟩
    · intro X e k h
      simp only [chkE] at h
      split at h
      · exact de_lst (ihas.A X _ k h)
      · cases h
    · intro X es k h
      simp [chkA] at h
    · intro X o k h
      simp [chkO] at h
    · intro X e k h
      simp [chkT] at h
    · intro X t e k h
      simp [chkI] at h
    · intro X ks vs k h
      simp [chkD] at h
  | idx a i iha ihi =>
    refine ⟨?_, ?_, ?_, ?_, ?_, ?_⟩
    · intro X e k h
      simp only [chkE] at h
      split at h
      · simp only [Bool.and_eq_true, decide_eq_true_eq] at h
        exact de_idx k (iha.E X _ k h.2.1) (ihi.E X _ k h.2.2) h.1
      · cases h
    · intro X es k h
      simp [chkA] at h
    · intro X o k h
      simp [chkO] at h
    · intro X e k h
      simp [chkT] at h
    · intro X t e k h
      simp [chkI] at h
    · intro X ks vs k h
      simp [chkD] at h
  | slc a lo hi iha ihlo ihhi =>
    refine ⟨?_, ?_, ?_, ?_, ?_, ?_⟩
    · intro X e k h
      simp only [chkE] at h
      split at h
      · simp only [Bool.and_eq_true, decide_eq_true_eq] at h
        exact de_slc (iha.E X _ k h.1) (ihlo.O X _ k h.2.1) (ihhi.O X _ k h.2.2)
      · cases h
    · intro X es k h
      simp [chkA] at h
    · intro X o k h
      simp [chkO] at h
    · intro X e k h
      simp [chkT] at h
    · intro X t e k h
      simp [chkI] at h
    · intro X ks vs k h
      simp [chkD] at h
  | slst a st iha ihst =>
    refine ⟨?_, ?_, ?_, ?_, ?_, ?_⟩
    · intro X e k h
      simp only [chkE] at h
      split at h
      · simp only [Bool.and_eq_true, decide_eq_true_eq] at h
        exact de_slst (iha.E X _ k h.1) (ihst.E X _ k h.2)
      · cases h
    · intro X es k h
      simp [chkA] at h
    · intro X o k h
      simp [chkO] at h
    · intro X e k h
      simp [chkT] at h
    · intro X t e k h
      simp [chkI] at h
    · intro X ks vs k h
      simp [chkD] at h
  | call f as ihas =>
    refine ⟨?_, ?_, ?_, ?_, ?_, ?_⟩
    · intro X e k h
      simp only [chkE] at h
      split at h
      · rename_i x p es pos
        simp only [Bool.and_eq_true] at h
        obtain ⟨h1, h0, h2⟩ := h
        split at h1
        · rename_i y hy
          cases es with
          | nil => cases h0
          | cons e es =>
            have hs := chkA_star h2
            simp only [List.all_cons, Bool.and_eq_true] at hs
            exact de_call k hy h1 (ihas.A X _ k h2) (star_each hs.1) (plain_any hs.2)
        · cases h1
      · cases h
    · intro X es k h
      simp [chkA] at h
    · intro X o k h
      simp [chkO] at h
    · intro X e k h
      simp [chkT] at h
    · intro X t e k h
      simp [chkI] at h
    · intro X ks vs k h
      simp [chkD] at h
  | bf f as ihas =>
    refine ⟨?_, ?_, ?_, ?_, ?_, ?_⟩
    · intro X e k h
      simp only [chkE] at h
      split at h
      · rename_i x p es pos
        simp only [Bool.and_eq_true] at h
        obtain ⟨h1, h0, h2⟩ := h
        cases es with
        | nil => cases h2.1
        | cons e es =>
          have hs := chkA_star h2.2
          simp only [List.all_cons, Bool.and_eq_true] at hs
          exact de_bf k h0 h1 (ihas.A X _ k h2.2) (star_each hs.1) (plain_any hs.2)
      · cases h
    · intro X es k h
      simp [chkA] at h
    · intro X o k h
      simp [chkO] at h
    · intro X e k h
      simp [chkT] at h
    · intro X t e k h
      simp [chkI] at h
    · intro X ks vs k h
      simp [chkD] at h
  | bm f o as iho ihas =>
    refine ⟨?_, ?_, ?_, ?_, ?_, ?_⟩
    · intro X e k h
      simp only [chkE] at h
      split at h
      · rename_i x n p es q
        simp only [Bool.and_eq_true, decide_eq_true_eq] at h
        obtain ⟨rfl, h1, h0, h2, h3⟩ := h
        have hb : attributeBase x (bmN f) X.env (eval x X.env) = eval x X.env := base_ok h2
        have hl : (p.endLine == q.line) = true := by rw [h1]; exact beq_self_eq_true _
        cases es with
        | nil =>
          cases as <;> first | (simp [chkA] at h3; done) | skip
          exact de_bm0 k (iho.E X _ k h2) hb hl
        | cons e es =>
          have hs := chkA_star h3
          have hs' := hs
          simp only [List.all_cons, Bool.and_eq_true] at hs
          exact de_bm k (iho.E X _ k h2) (ihas.A X _ k h3) hb (few_ok hs' h0) hl (star_each hs.1) (plain_any hs.2)
      · cases h
    · intro X es k h
      simp [chkA] at h
    · intro X o k h
      simp [chkO] at h
    · intro X e k h
      simp [chkT] at h
    · intro X t e k h
      simp [chkI] at h
    · intro X ks vs k h
      simp [chkD] at h
  | isi t a iha =>
    refine ⟨?_, ?_, ?_, ?_, ?_, ?_⟩
    · intro X e k h
      simp only [chkE] at h
      split at h
      · simp only [Bool.and_eq_true] at h
        exact de_isi k h.1 h.2.1 (iha.E X _ k h.2.2) (star_each (chk_star h.2.2)) rfl rfl
      · cases h
    · intro X es k h
      simp [chkA] at h
    · intro X o k h
      simp [chkO] at h
    · intro X e k h
      simp [chkT] at h
    · intro X t e k h
      simp [chkI] at h
    · intro X ks vs k h
      simp [chkD] at h
  | lrng a iha =>
    refine ⟨?_, ?_, ?_, ?_, ?_, ?_⟩
    · intro X e k h
      simp only [chkE] at h
      split at h
      · simp only [Bool.and_eq_true] at h
        exact de_lrng k h.1 h.2.1 (iha.E X _ k h.2.2) (star_each (chk_star h.2.2))
      · cases h
    · intro X es k h
      simp [chkA] at h
    · intro X o k h
      simp [chkO] at h
    · intro X e k h
      simp [chkT] at h
    · intro X t e k h
      simp [chkI] at h
    · intro X ks vs k h
      simp [chkD] at h
  | lc e tg src c own ihe ihsrc ihc =>
    refine ⟨?_, ?_, ?_, ?_, ?_, ?_⟩
    · intro X e k h
      obtain ⟨x, t, it, ifs, s, p, rfl, ok⟩ := lc_ok k ihe ihsrc.I ihc h
      exact de_lc (x := x) k (own_ix _ _) ok.blk ok.sub ok.pit ok.nset ok.tg ok.ifs ok.el
    · intro X es k h
      simp [chkA] at h
    · intro X o k h
      simp [chkO] at h
    · intro X e k h
      simp [chkT] at h
    · intro X t e k h
      simp [chkI] at h
    · intro X ks vs k h
      simp [chkD] at h
  | lcK e tg i c own ihe ihc =>
    refine ⟨?_, ?_, ?_, ?_, ?_, ?_⟩
    · intro X e k h
      obtain ⟨x, t, it, ifs, s, p, rfl, ok⟩ := lc_ok k ihe (fun X t e k h => di_var h) ihc (lcK_lc h)
      exact de_lcK (de_lc (x := x) k (own_ix _ _) ok.blk ok.sub ok.pit ok.nset ok.tg ok.ifs ok.el)
    · intro X es k h
      simp [chkA] at h
    · intro X o k h
      simp [chkO] at h
    · intro X e k h
      simp [chkT] at h
    · intro X t e k h
      simp [chkI] at h
    · intro X ks vs k h
      simp [chkD] at h
  | dnew   =>
    refine ⟨?_, ?_, ?_, ?_, ?_, ?_⟩
    · intro X e k h
      simp only [chkE] at h
      split at h
      · exact de_dnew
      · cases h
    · intro X es k h
      simp [chkA] at h
    · intro X o k h
      simp [chkO] at h
    · intro X e k h
      simp [chkT] at h
    · intro X t e k h
      simp [chkI] at h
    · intro X ks vs k h
      simp [chkD] at h
  | ddisp a b iha ihb =>
    refine ⟨?_, ?_, ?_, ?_, ?_, ?_⟩
    · intro X e k h
      simp only [chkE] at h
      split at h
      · simp only [Bool.and_eq_true] at h
        exact de_ddisp (iha.E X _ k h.1) (ihb.E X _ k h.2)
      · cases h
    · intro X es k h
      simp [chkA] at h
    · intro X o k h
      simp [chkO] at h
    · intro X e k h
      simp [chkT] at h
    · intro X t e k h
      simp [chkI] at h
    · intro X ks vs k h
      simp [chkD] at h
  | disp r ihr =>
    refine ⟨?_, ?_, ?_, ?_, ?_, ?_⟩
    · intro X e k h
      simp only [chkE] at h
      split at h
      · simp only [Bool.and_eq_true, decide_eq_true_eq, Bool.not_eq_true', List.isEmpty_eq_false_iff] at h
        exact de_disp h.1 h.2.1 (ihr.D X _ _ k h.2.2)
      · cases h
    · intro X es k h
      simp [chkA] at h
    · intro X o k h
      simp [chkO] at h
    · intro X e k h
      simp [chkT] at h
    · intro X t e k h
      simp [chkI] at h
    · intro X ks vs k h
      simp [chkD] at h
  | kv a b r iha ihb ihr =>
    refine ⟨?_, ?_, ?_, ?_, ?_, ?_⟩
    · intro X e k h
      simp [chkE] at h
    · intro X es k h
      simp [chkA] at h
    · intro X o k h
      simp [chkO] at h
    · intro X e k h
      simp [chkT] at h
    · intro X t e k h
      simp [chkI] at h
    · intro X ks vs k h
      simp only [chkD] at h
      split at h
      · simp only [Bool.and_eq_true] at h
        exact dd_kv (iha.E X _ k h.1) (ihb.E X _ k h.2.1) (ihr.D X _ _ k h.2.2)
      · cases h
  | lvals a iha =>
    refine ⟨?_, ?_, ?_, ?_, ?_, ?_⟩
    · intro X e k h
      simp only [chkE] at h
      split at h
      · simp only [Bool.and_eq_true, decide_eq_true_eq] at h
        obtain ⟨h1, h2, h3, h4⟩ := h
        exact de_lvals k h1 h2 (iha.E X _ k h4) (base_ok h4) (by rw [h3]; exact beq_self_eq_true _)
      · cases h
    · intro X es k h
      simp [chkA] at h
    · intro X o k h
      simp [chkO] at h
    · intro X e k h
      simp [chkT] at h
    · intro X t e k h
      simp [chkI] at h
    · intro X ks vs k h
      simp [chkD] at h
  | attr a f iha =>
    refine ⟨?_, ?_, ?_, ?_, ?_, ?_⟩
    · intro X e k h
      simp only [chkE] at h
      split at h
      · simp only [Bool.and_eq_true, decide_eq_true_eq] at h
        obtain ⟨h1, h2, h3⟩ := h
        exact de_attr k (iha.E X _ k h3) h1 h2
      · cases h
    · intro X es k h
      simp [chkA] at h
    · intro X o k h
      simp [chkO] at h
    · intro X e k h
      simp [chkT] at h
    · intro X t e k h
      simp [chkI] at h
    · intro X ks vs k h
      simp [chkD] at h
  | meth tb o as iho ihas =>
    refine ⟨?_, ?_, ?_, ?_, ?_, ?_⟩
    · intro X e k h
      simp only [chkE] at h
      split at h
      · rename_i x n p es q
        simp only [Bool.and_eq_true, decide_eq_true_eq, Bool.not_eq_true', List.all_eq_true] at h
        obtain ⟨h1, h2, h3, h4, h5, h6, h7⟩ := h
        have hs := chkA_star h7
        refine de_meth k (iho.E X _ k h6) (ihas.A X _ k h7) h5 (fun c f hl => ?_) (fun hm => ?_) (few_ok hs h4) (by rw [h3]; exact beq_self_eq_true _) (fun e => ?_) fun e es' he => ?_
        · have := h1 (c, f) (mem_of_lookup hl)
          simpa using this
        · rw [List.contains_iff_mem.mpr hm] at h2; cases h2
        · subst e
          cases as <;> first | rfl | (simp [chkA] at h7; done)
        · subst he
          simp only [List.all_cons, Bool.and_eq_true] at hs
          exact ⟨star_each hs.1, plain_any hs.2⟩
      · cases h
    · intro X es k h
      simp [chkA] at h
    · intro X o k h
      simp [chkO] at h
    · intro X e k h
      simp [chkT] at h
    · intro X t e k h
      simp [chkI] at h
    · intro X ks vs k h
      simp [chkD] at h
  | make c f as ihas =>
    refine ⟨?_, ?_, ?_, ?_, ?_, ?_⟩
    · intro X e k h
      simp only [chkE] at h
      split at h
      · rename_i x p es pos
        simp only [Bool.and_eq_true] at h
        obtain ⟨h0, h1, h2, h3⟩ := h
        have hs := chkA_star h3
        split at h1
        · rename_i y hy
          refine de_make k hy h1 (by simpa using h2) (ihas.A X _ k h3) (fun e => ?_) fun e es' he => ?_
          · subst e
            cases as <;> first | rfl | (simp [chkA] at h3; done)
          · subst he
            simp only [List.all_cons, Bool.and_eq_true] at hs
            exact ⟨star_each hs.1, plain_any hs.2⟩
        · cases h1
      · cases h
    · intro X es k h
      simp [chkA] at h
    · intro X o k h
      simp [chkO] at h
    · intro X e k h
      simp [chkT] at h
    · intro X t e k h
      simp [chkI] at h
    · intro X ks vs k h
      simp [chkD] at h
  | rng1 a iha =>
    refine ⟨?_, ?_, ?_, ?_, ?_, ?_⟩
    · intro X e k h
      simp [chkE] at h
    · intro X es k h
      simp [chkA] at h
    · intro X o k h
      simp [chkO] at h
    · intro X e k h
      simp [chkT] at h
    · intro X t e k h
      simp only [chkI] at h
      split at h
      · simp only [Bool.and_eq_true, decide_eq_true_eq] at h
        exact di_rng1 k h.1 (iha.E X _ k h.2) (star_each (chk_star h.2))
      · cases h
    · intro X ks vs k h
      simp [chkD] at h
  | rng2 a b iha ihb =>
    refine ⟨?_, ?_, ?_, ?_, ?_, ?_⟩
    · intro X e k h
      simp [chkE] at h
    · intro X es k h
      simp [chkA] at h
    · intro X o k h
      simp [chkO] at h
    · intro X e k h
      simp [chkT] at h
    · intro X t e k h
      simp only [chkI] at h
      split at h
      · simp only [Bool.and_eq_true, decide_eq_true_eq] at h
        exact di_rng2 k h.1 (iha.E X _ k h.2.1) (ihb.E X _ k h.2.2) (by rw [star_each (chk_star h.2.1), star_each (chk_star h.2.2)]; rfl) (star_each (chk_star h.2.2))
      · cases h
    · intro X ks vs k h
      simp [chkD] at h
  | rng3 a b c iha ihb ihc =>
    refine ⟨?_, ?_, ?_, ?_, ?_, ?_⟩
    · intro X e k h
      simp [chkE] at h
    · intro X es k h
      simp [chkA] at h
    · intro X o k h
      simp [chkO] at h
    · intro X e k h
      simp [chkT] at h
    · intro X t e k h
      simp only [chkI] at h
      split at h
      · simp only [Bool.and_eq_true, decide_eq_true_eq] at h
        exact di_rng3 k h.1 (iha.E X _ k h.2.1) (ihb.E X _ k h.2.2.1) (ihc.E X _ k h.2.2.2) (star_each (chk_star h.2.1)) (star_each (chk_star h.2.2.1)) (star_each (chk_star h.2.2.2))
      · cases h
    · intro X ks vs k h
      simp [chkD] at h
  | enum a iha =>
    refine ⟨?_, ?_, ?_, ?_, ?_, ?_⟩
    · intro X e k h
      simp [chkE] at h
    · intro X es k h
      simp [chkA] at h
    · intro X o k h
      simp [chkO] at h
    · intro X e k h
      simp [chkT] at h
    · intro X t e k h
      simp only [chkI] at h
      simp only [Bool.and_eq_true] at h
      obtain ⟨h0, h⟩ := h
      cases t <;> first | (cases h0; done) | skip
      split at h
      · simp only [Bool.and_eq_true] at h
        exact di_enum k h.1 (iha.E X _ k h.2) (star_each (chk_star h.2))
      · cases h
    · intro X ks vs k h
      simp [chkD] at h
  | zip a b iha ihb =>
    refine ⟨?_, ?_, ?_, ?_, ?_, ?_⟩
    · intro X e k h
      simp [chkE] at h
    · intro X es k h
      simp [chkA] at h
    · intro X o k h
      simp [chkO] at h
    · intro X e k h
      simp [chkT] at h
    · intro X t e k h
      simp only [chkI] at h
      simp only [Bool.and_eq_true] at h
      obtain ⟨h0, h⟩ := h
      cases t <;> first | (cases h0; done) | skip
      split at h
      · simp only [Bool.and_eq_true] at h
        have s2 := star_each (es := []) (env := X.env) (chk_star h.2.2)
        exact di_zip k h.1 (iha.E X _ k h.2.1) (ihb.E X _ k h.2.2) (star_each (chk_star h.2.1)) s2 (by rw [s2]; rfl)
      · cases h
    · intro X ks vs k h
      simp [chkD] at h
  | tv a iha =>
    refine ⟨?_, ?_, ?_, ?_, ?_, ?_⟩
    · intro X e k h
      simp [chkE] at h
    · intro X es k h
      simp [chkA] at h
    · intro X o k h
      simp [chkO] at h
    · intro X e k h
      simp only [chkT] at h
      simp only [Bool.and_eq_true] at h
      obtain ⟨h1, h2⟩ := h
      split at h1
      · exact ⟨LT.tv (iha.E X _ k h2) fun _ => rfl, fun z => nomatch z⟩
      · exact ⟨LT.tv (iha.E X _ k h2) fun _ => rfl, fun z => nomatch z⟩
      · exact ⟨LT.tv (iha.E X _ k h2) fun _ => rfl, fun z => nomatch z⟩
      · exact ⟨LT.tv (iha.E X _ k h2) fun _ => rfl, fun z => nomatch z⟩
      · exact ⟨LT.tv (iha.E X _ k h2) fun _ => rfl, fun z => nomatch z⟩
      · cases h1
    · intro X t e k h
      simp [chkI] at h
    · intro X ks vs k h
      simp [chkD] at h
  | itv a iha =>
    refine ⟨?_, ?_, ?_, ?_, ?_, ?_⟩
    · intro X e k h
      simp [chkE] at h
    · intro X es k h
      simp [chkA] at h
    · intro X o k h
      simp [chkO] at h
    · intro X e k h
      simp [chkT] at h
    · intro X t e k h
      simp only [chkI] at h
      simp only [Bool.and_eq_true] at h
      exact di_itv (iha.E X _ k h.2)
    · intro X ks vs k h
      simp [chkD] at h
  | tnew   =>
    refine ⟨?_, ?_, ?_, ?_, ?_, ?_⟩
    · intro X e k h
      simp only [chkE] at h
      split at h
      · exact de_tnew
      · cases h
    · intro X es k h
      simp [chkA] at h
    · intro X o k h
      simp [chkO] at h
    · intro X e k h
      simp [chkT] at h
    · intro X t e k h
      simp [chkI] at h
    · intro X ks vs k h
      simp [chkD] at h
  | tidx a i iha ihi =>
    refine ⟨?_, ?_, ?_, ?_, ?_, ?_⟩
    · intro X e k h
      simp only [chkE] at h
      split at h
      · simp only [Bool.and_eq_true, decide_eq_true_eq] at h
        exact de_tidx k (iha.E X _ k h.2.1) (ihi.E X _ k h.2.2) h.1
      · cases h
    · intro X es k h
      simp [chkA] at h
    · intro X o k h
      simp [chkO] at h
    · intro X e k h
      simp [chkT] at h
    · intro X t e k h
      simp [chkI] at h
    · intro X ks vs k h
      simp [chkD] at h
  | kdx i kvs a iha =>
    refine ⟨?_, ?_, ?_, ?_, ?_, ?_⟩
    · intro X e k h
      simp only [chkE] at h
      split at h
      · simp only [Bool.and_eq_true, decide_eq_true_eq] at h
        obtain ⟨h1, h2, h3⟩ := h
        split at h1
        · rename_i z kvs' hz
          rw [Bool.and_eq_true] at h1
          obtain rfl := sameK_ok h1.1
          exact de_kdx k hz h1.2 (iha.E X _ k h3) h2
        · cases h1
      · cases h
    · intro X es k h
      simp [chkA] at h
    · intro X o k h
      simp [chkO] at h
    · intro X e k h
      simp [chkT] at h
    · intro X t e k h
      simp [chkI] at h
    · intro X ks vs k h
      simp [chkD] at h
  | kdg i kvs a iha =>
    refine ⟨?_, ?_, ?_, ?_, ?_, ?_⟩
    · intro X e k h
      simp only [chkE] at h
      split at h
      · rename_i x p0 n p y q
        simp only [Bool.and_eq_true, decide_eq_true_eq, Bool.not_eq_true', decide_eq_false_iff_not] at h
        obtain ⟨h1, rfl, h3, h4, h5⟩ := h
        split at h1
        · rename_i z kvs' hz
          rw [Bool.and_eq_true] at h1
          obtain rfl := sameK_ok h1.1
          have hs := star_each (es := []) (env := X.env) (chk_star h5)
          refine de_kdg k hz h1.2 (iha.E X _ k h5) ⟨by unfold attributeBase; simp [h4], ?_, by rw [h3]; exact beq_self_eq_true _, by rw [hs]; rfl⟩
          exact few_ok (es := [y]) (by simp [chk_star h5]) (by show 1 < 30; decide)
        · cases h1
      · cases h
    · intro X es k h
      simp [chkA] at h
    · intro X o k h
      simp [chkO] at h
    · intro X e k h
      simp [chkT] at h
    · intro X t e k h
      simp [chkI] at h
    · intro X ks vs k h
      simp [chkD] at h
  | kdi i kvs a iha =>
    refine ⟨?_, ?_, ?_, ?_, ?_, ?_⟩
    · intro X e k h
      simp only [chkE] at h
      split at h
      · rw [Bool.and_eq_true] at h
        obtain ⟨h1, h2⟩ := h
        split at h1
        · rename_i z kvs' hz
          rw [Bool.and_eq_true] at h1
          obtain rfl := sameK_ok h1.1
          exact de_kdi k hz h1.2 (iha.E X _ k h2)
        · cases h1
      · cases h
    · intro X es k h
      simp [chkA] at h
    · intro X o k h
      simp [chkO] at h
    · intro X e k h
      simp only [chkT] at h
      split at h
      · rw [Bool.and_eq_true] at h
        obtain ⟨h1, h2⟩ := h
        split at h1
        · rename_i z kvs' hz
          rw [Bool.and_eq_true] at h1
          obtain rfl := sameK_ok h1.1
          exact ⟨dt_kdi k hz h1.2 (iha.E X _ k h2), fun z => nomatch z⟩
        · cases h1
      · cases h
    · intro X t e k h
      simp [chkI] at h
    · intro X ks vs k h
      simp [chkD] at h
  | nset a iha =>
    refine ⟨?_, ?_, ?_, ?_, ?_, ?_⟩
    · intro X e k h
      simp only [chkE] at h
      split at h
      · simp only [Bool.and_eq_true] at h
        exact de_nset k h.1 h.2.1 (iha.E X _ k h.2.2) (star_each (chk_star h.2.2))
      · cases h
    · intro X es k h
      simp [chkA] at h
    · intro X o k h
      simp [chkO] at h
    · intro X e k h
      simp [chkT] at h
    · intro X t e k h
      simp [chkI] at h
    · intro X ks vs k h
      simp [chkD] at h
  | sset a iha =>
    refine ⟨?_, ?_, ?_, ?_, ?_, ?_⟩
    · intro X e k h
      simp only [chkE] at h
      split at h
      · simp only [Bool.and_eq_true] at h
        exact de_sset k h.1 h.2.1 (iha.E X _ k h.2.2) (star_each (chk_star h.2.2))
      · cases h
    · intro X es k h
      simp [chkA] at h
    · intro X o k h
      simp [chkO] at h
    · intro X e k h
      simp [chkT] at h
    · intro X t e k h
      simp [chkI] at h
    · intro X ks vs k h
      simp [chkD] at h
  | isx sb c a iha =>
    refine ⟨?_, ?_, ?_, ?_, ?_, ?_⟩
    · intro X e k h
      simp only [chkE] at h
      split at h
      · simp only [Bool.and_eq_true, decide_eq_true_eq] at h
        obtain ⟨h1, rfl, h2, h3⟩ := h
        exact de_isx k h1 h2 (iha.E X _ k h3) (star_each (chk_star h3))
      · cases h
    · intro X es k h
      simp [chkA] at h
    · intro X o k h
      simp [chkO] at h
    · intro X e k h
      simp [chkT] at h
    · intro X t e k h
      simp [chkI] at h
    · intro X ks vs k h
      simp [chkD] at h
  | isxv sb a iha =>
    refine ⟨?_, ?_, ?_, ?_, ?_, ?_⟩
    · intro X e k h
      simp only [chkE] at h
      split at h
      · simp only [Bool.and_eq_true, decide_eq_true_eq] at h
        obtain ⟨h1, rfl, h2, h3⟩ := h
        exact de_isxv k h1 h2 (iha.E X _ k h3) (star_each (chk_star h3))
      · cases h
    · intro X es k h
      simp [chkA] at h
    · intro X o k h
      simp [chkO] at h
    · intro X e k h
      simp [chkT] at h
    · intro X t e k h
      simp [chkI] at h
    · intro X ks vs k h
      simp [chkD] at h
end
end Rf
namespace Rf
open PySem PySem.Spec PyProof.Rows L2
structure StC (X : Cx) : Prop where
  hp : PassesOwn (model X.prog X.w) X.A X.env X.xe
  fn : ∀ x, X.fn x = true
  bk : X.env.blockKind = .function
  stk : X.stack = X.env :: X.outer
  frm : X.env.frame = some X.env.locals
  ex : X.ex = []
theorem sw_swap {env : Env} {x : Str} {el : Expr} {gs : List Comprehension} {s : Scope} {p q vp : Pos} (hk : env.blockKind = .function) (h : swOf x env.scope p q (.ListComp el gs s vp) = .swap) :
    swapsWith (.ListComp el gs s vp) (some (.Name x p)) q.line env = pure true ∧ env.scope.names.lookup x = some .local := by
  unfold swOf at h
  simp only [] at h
  split at h
  · cases h
  split at h
  · rename_i hc
    simp only [Bool.and_eq_true, decide_eq_true_eq, Bool.not_eq_true'] at hc
    obtain ⟨h1, h2, h3, h4⟩ := hc
    refine ⟨?_, h1⟩
    have e1 : (env.kindOf x == some .local) = true := by show (env.scope.names.lookup x == some .local) = true; rw [h1]; rfl
    have e0 : (env.blockKind == ScopeKind.function) = true := by rw [hk]; rfl
    have e4 : (s.names.any fun (n, k) => n == x && (k == .local || k == .cell)) = false := by
      rw [← h4]
      refine congrArg (fun f => s.names.any f) (funext fun ⟨n, k⟩ => ?_)
      have : (n == x) = decide (n = x) := by
        by_cases e : n = x
        · subst e; simp
        · simp [e]
      cases k <;> simp [this] <;> rfl
    unfold swapsWith
    simp only []
    show (pure (env.blockKind == .function && env.kindOf x == some .local && p.line == vp.line && !(s.names.any fun (n, k) => n == x && (k == .local || k == .cell))) : Sem Bool) = pure true
    rw [e0, e1, e4, h2]
    simp
  · cases h
theorem sw_cell {env : Env} {x : Str} {v : Expr} {p : Pos} {l : Nat} (h : env.scope.names.lookup x = some .cell) : swapsWith v (some (.Name x p)) l env = pure false := by
  have e1 : (env.kindOf x == some .local) = false := by show (env.scope.names.lookup x == some .local) = false; rw [h]; rfl
  cases v <;> first | rfl | skip
  all_goals
    unfold swapsWith
    simp only []
    show (pure (env.blockKind == .function && env.kindOf x == some .local && _ && _) : Sem Bool) = pure false
    rw [e1]
    simp
section
variable {nm : Nm} {G : Gi} {C : CT}
theorem ok_set {i : Nat} {e : M} {x : Str} {v : Expr} {p q : Pos} {X : Cx} (k : Ct X nm G C) (c : StC X) (h : tgB1 X.N X.env.scope i (.Name x p) = true) (he : chkE G X.N e X.env.scope v = true) (hs : swOf x X.env.scope p q v ≠ .no) : PS X (.Assign [.Name x p] v q) (LS X nm (wS C (.set i e))) := by
  obtain ⟨_, _, e1, o⟩ := tgB1_ok h c.fn
  cases e1
  by_cases hc : noComp v = true
  · exact ds_set k o ((snd e).E X v k he) (noComp_sw hc _ _ _)
  by_cases hcell : X.env.scope.names.lookup x = some .cell
  · exact ds_set k o ((snd e).E X v k he) (sw_cell hcell)
  · cases v <;> first | (exact absurd rfl hc) | (exact absurd rfl hs) | skip
    rename_i el gs s vp
    have hsw : swOf x X.env.scope p q (.ListComp el gs s vp) = .swap := by
      revert hs
      unfold swOf
      simp only []
      rw [if_neg hcell]
      split
      · intro _; rfl
      · intro z; exact absurd rfl z
    obtain ⟨w1, w2⟩ := sw_swap c.bk hsw
    cases e <;> first | (simp [chkE] at he; done) | skip
    rotate_left
    · rename_i m1 tg i0 m2 own
      obtain ⟨x', t, it, ifs, s', p', e2, ok⟩ := lc_ok k (snd m1) (fun X t e k h => di_var h) (snd m2) (lcK_lc he)
      cases e2
      exact PS.imp (ds_setLcK (ds_setLc (nm := nm) (el := el) (e := m1) k (own_ix _ _) ok.blk ok.sub o.ix w2 w1 ok.pit ok.nset ok.tg ok.ifs ok.el)) fun D σ H q => set_read q
    rename_i m1 tg src m2 own
    obtain ⟨x', t, it, ifs, s', p', e2, ok⟩ := lc_ok k (snd m1) (snd src).I (snd m2) he
    cases e2
    exact PS.imp (ds_setLc (nm := nm) (el := el) (e := m1) k (own_ix _ _) ok.blk ok.sub o.ix w2 w1 ok.pit ok.nset ok.tg ok.ifs ok.el) fun D σ H q => set_read q
theorem ok_setT {is : List Nat} {e : M} {es : List Expr} {v : Expr} {kk : Nat} {p q : Pos} {X : Cx} (k : Ct X nm G C) (c : StC X) (h : tgBs X.N X.env.scope is es = true) (hw : (match v with | .Tuple vs _ _ => (swNone es vs || swCell X.env.scope es) || swSome X.env.scope is es vs | _ => true) = true)
    (he : chkE G X.N e X.env.scope v = true) (hc : noComp v = true) : PS X (.Assign [.Tuple es kk p] v q) (LS X nm (wS C (.setT is e))) := by
  have o := tgBs_ok c.fn h
  cases v <;> first | (exact ds_setT k o ((snd e).E X _ k he) hc rfl) | skip
  rename_i vs k2 p2
  rw [Bool.or_eq_true, Bool.or_eq_true] at hw
  by_cases hcl : swCell X.env.scope es = true
  · exact ds_setT k o ((snd e).E X _ k he) hc (sw_cells hcl)
  replace hw := hw.imp_left fun z => z.resolve_right hcl
  by_cases hn : swNone es vs = true
  · exact ds_setT k o ((snd e).E X _ k he) hc (sw_none hn)
  · rcases hw with hw | hw
    · exact absurd hw hn
    · cases e <;> first | (simp [chkE] at he; done) | skip
      simp only [chkE] at he
      have hl : (es.length = 2 ∨ es.length = 3) ∧ vs.length = es.length := by
        simp only [swNone, Bool.or_eq_true, Bool.not_eq_true', decide_eq_false_iff_not] at hn
        refine ⟨?_, ?_⟩
        · by_cases e1 : (es.length == 2 || es.length == 3) = true
          · simpa using e1
          · exact absurd (.inl (by simpa using e1)) hn
        · by_cases e1 : vs.length = es.length
          · exact e1
          · exact absurd (.inr (.inl e1)) hn
      exact ds_par k c.bk o ((snd _).A X vs k he) hw hl.1 hl.2
theorem snd_s : ∀ s : MS, (∀ (X : Cx) (st : Stmt), Ct X nm G C → StC X → chkS G X.N X.env.scope s st = true → PS X st (LS X nm (wS C s))) ∧
    (∀ (X : Cx) (sts : List Stmt), Ct X nm G C → StC X → chkB G X.N X.env.scope s sts = true → PSs X sts (LS X nm (wS C s))) := by
  intro s
  induction s with
  | nil =>
    refine ⟨fun X st k c h => by simp [chkS] at h, fun X sts k c h => ?_⟩
    simp only [chkB, List.isEmpty_iff] at h
    subst h
    exact ds_nil
  | seq a r iha ihr =>
    refine ⟨fun X st k c h => by simp [chkS] at h, fun X sts k c h => ?_⟩
    cases sts with
    | nil => simp [chkB] at h
    | cons st sts =>
      simp only [chkB, Bool.and_eq_true] at h
      exact ds_seq (iha.1 X st k c h.1) (ihr.2 X sts k c h.2)
  | set i e =>
    refine ⟨fun X st k c h => ?_, fun X sts k c h => by simp [chkB] at h⟩
    simp only [chkS] at h
    split at h
    · simp only [Bool.and_eq_true, Bool.not_eq_true', decide_eq_false_iff_not] at h
      exact ok_set k c h.1 h.2.1 h.2.2
    · cases h
  | setT is e =>
    refine ⟨fun X st k c h => ?_, fun X sts k c h => by simp [chkB] at h⟩
    simp only [chkS] at h
    split at h
    · rw [Bool.and_eq_true, Bool.and_eq_true, Bool.and_eq_true] at h
      exact ok_setT k c h.1 h.2.2.2 h.2.1 h.2.2.1
    · cases h
  | setI o i e =>
    refine ⟨fun X st k c h => ?_, fun X sts k c h => by simp [chkB] at h⟩
    simp only [chkS] at h
    split at h
    · rename_i x y p v q
      simp only [Bool.and_eq_true] at h
      exact ds_setI k ((snd e).E X _ k h.2.1) ((snd o).E X _ k h.2.2.1) ((snd i).E X _ k h.2.2.2) (by
        have := h.1
        intro u
        cases y <;> first | rfl | (cases this; done))
    · cases h
  | tset o i e =>
    refine ⟨fun X st k c h => ?_, fun X sts k c h => by simp [chkB] at h⟩
    simp only [chkS] at h
    split at h
    · rename_i x y p v q
      simp only [Bool.and_eq_true] at h
      exact ds_tset k ((snd e).E X _ k h.2.1) ((snd o).E X _ k h.2.2.1) ((snd i).E X _ k h.2.2.2) (by
        have := h.1
        intro u
        cases y <;> first | rfl | (cases this; done))
    · cases h
  | aug i op e =>
    refine ⟨fun X st k c h => ?_, fun X sts k c h => by simp [chkB] at h⟩
    simp only [chkS] at h
    split at h
    · simp only [Bool.and_eq_true, Bool.or_eq_true, decide_eq_true_eq] at h
      obtain ⟨h1, rfl, h2, h3⟩ := h
      obtain ⟨_, _, e1, o⟩ := tgB1_ok h2 c.fn
      cases e1
      exact ds_aug k o ((snd e).E X _ k h3) h1
    · cases h
  | expr e =>
    refine ⟨fun X st k c h => ?_, fun X sts k c h => by simp [chkB] at h⟩
    simp only [chkS] at h
    split at h
    · simp only [Bool.and_eq_true] at h
      exact ds_expr ((snd e).E X _ k h.2) h.1
    · cases h
  | ret e =>
    refine ⟨fun X st k c h => ?_, fun X sts k c h => by simp [chkB] at h⟩
    simp only [chkS] at h
    split at h
    · exact ds_ret ((snd e).E X _ k h)
    · cases h
  | ret0 =>
    refine ⟨fun X st k c h => ?_, fun X sts k c h => by simp [chkB] at h⟩
    simp only [chkS] at h
    split at h
    · exact ds_ret0
    · cases h
  | cond c0 a b iha ihb =>
    refine ⟨fun X st k c h => ?_, fun X sts k c h => by simp [chkB] at h⟩
    simp only [chkS] at h
    split at h
    · simp only [Bool.and_eq_true] at h
      exact ds_cond ((snd c0).T X _ k h.1).1 (iha.2 X _ k c h.2.1) (ihb.2 X _ k c h.2.2)
    · cases h
  | while_ c0 b ihb =>
    refine ⟨fun X st k c h => ?_, fun X sts k c h => by simp [chkB] at h⟩
    simp only [chkS] at h
    split at h
    · simp only [Bool.and_eq_true] at h
      exact ds_while c.hp ((snd c0).T X _ k h.1).1 (ihb.2 X _ k c h.2)
    · cases h
  | for_ tg src b ihb =>
    refine ⟨fun X st k c h => ?_, fun X sts k c h => by simp [chkB] at h⟩
    simp only [chkS] at h
    split at h
    · simp only [Bool.and_eq_true] at h
      exact ds_for k c.hp ((snd src).I X _ _ k h.2.2.1) (tgB_ok k c.fn h.1) (ihb.2 X _ k c h.2.2.2) (set_no h.2.1)
    · cases h
  | forK tg i b ihb =>
    refine ⟨fun X st k c h => ?_, fun X sts k c h => by simp [chkB] at h⟩
    simp only [chkS] at h
    split at h
    · simp only [Bool.and_eq_true] at h
      obtain ⟨h1, h2, h3⟩ := h
      exact ds_forK (ds_for k c.hp (di_itv (de_var h2)) (tgB_ok k c.fn h1) (ihb.2 X _ k c h3) (fun _ => rfl))
    · cases h
  | pass_ =>
    refine ⟨fun X st k c h => ?_, fun X sts k c h => by simp [chkB] at h⟩
    simp only [chkS] at h
    split at h
    · exact ds_pass
    · cases h
  | brk =>
    refine ⟨fun X st k c h => ?_, fun X sts k c h => by simp [chkB] at h⟩
    simp only [chkS] at h
    split at h
    · exact ds_brk
    · cases h
  | cont =>
    refine ⟨fun X st k c h => ?_, fun X sts k c h => by simp [chkB] at h⟩
    simp only [chkS] at h
    split at h
    · exact ds_cont
    · cases h
  | raise_ n as =>
    refine ⟨fun X st k c h => ?_, fun X sts k c h => by simp [chkB] at h⟩
    simp only [chkS] at h
    split at h
    · simp only [Bool.and_eq_true] at h
      obtain ⟨h1, h2⟩ := h
      split at h1
      · rename_i y hy
        cases as <;> first | (cases h2; done) | skip
        simp only [Bool.and_eq_true, Bool.not_eq_true'] at h1
        exact ds_raise k hy h1.2 h1.1
      · cases h1
    · cases h
  | setA o f e =>
    refine ⟨fun X st k c h => ?_, fun X sts k c h => by simp [chkB] at h⟩
    simp only [chkS] at h
    split at h
    · simp only [Bool.and_eq_true, decide_eq_true_eq] at h
      exact ds_setA k ((snd o).E X _ k h.2.2.2) ((snd e).E X _ k h.2.2.1) h.1 h.2.1
    · cases h
  | augA o f op e =>
    refine ⟨fun X st k c h => ?_, fun X sts k c h => by simp [chkB] at h⟩
    simp only [chkS] at h
    split at h
    · simp only [Bool.and_eq_true, Bool.or_eq_true, decide_eq_true_eq] at h
      obtain ⟨h1, rfl, h3, h4, h5⟩ := h
      exact ds_augA k ((snd o).E X _ k h4) ((snd e).E X _ k h5) h3 h1
    · cases h
  | raiseF c f e =>
    refine ⟨fun X st k s h => ?_, fun X sts k c h => by simp [chkB] at h⟩
    simp only [chkS] at h
    split at h <;> first | (cases h; done) | skip
    simp only [Bool.and_eq_true] at h
    obtain ⟨h1, h2, h3⟩ := h
    split at h1
    · rename_i y hy
      exact ds_raiseF k hy h1 h2 ((snd e).E X _ k h3) (star_each (chk_star h3))
    · cases h1
  | tryX b sb c i hs ih =>
    refine ⟨fun X st k s h => ?_, fun X sts k s h => by simp [chkB] at h⟩
    simp only [chkS] at h
    split at h <;> first | (cases h; done) | skip
    simp only [Bool.and_eq_true, decide_eq_true_eq, List.all_eq_true] at h
    obtain ⟨h1, h2, h3, h4, rfl, h6, h7⟩ := h
    exact PS.imp (ds_tryC k s.stk s.frm s.fn (fun pn xe po => ih.2 (X.tr pn xe) _ (k.tr pn xe) ⟨po, s.fn, s.bk, s.stk, s.frm, s.ex⟩ h1) h2 h3 h4 h6 h7) fun D σ H q => by
      obtain ⟨sa, m, h', Z, Ea, rs, rh, w, tk, l⟩ := q
      simp only [wS] at w
      exact ⟨sa, m, h', Z, Ea, rs, rh, w, tk, l⟩
  | tryR b sb c i w f ih =>
    refine ⟨fun X st k s h => ?_, fun X sts k s h => by simp [chkB] at h⟩
    simp only [chkS] at h
    split at h <;> first | (cases h; done) | skip
    simp only [Bool.and_eq_true, decide_eq_true_eq] at h
    obtain ⟨h1, h2, h3, h4, rfl, rfl, h7⟩ := h
    exact PS.imp (ds_tryR k s.stk s.frm s.fn (fun pn xe po => ih.2 (X.tr pn xe) _ (k.tr pn xe) ⟨po, s.fn, s.bk, s.stk, s.frm, s.ex⟩ h1) h2 h3 h4 h7) fun D σ H q => by
      obtain ⟨sa, m, h', Z, Ea, rs, rh, w, tk, l⟩ := q
      simp only [wS] at w
      exact ⟨sa, m, h', Z, Ea, rs, rh, w, tk, l⟩
  | tryN b sb c i g f lc fn j kk ih =>
    refine ⟨fun X st k s h => ?_, fun X sts k s h => by simp [chkB] at h⟩
    simp only [chkS] at h
    split at h <;> first | (cases h; done) | skip
    simp only [Bool.and_eq_true, decide_eq_true_eq] at h
    obtain ⟨h1, h2, h3, h4, rfl, h6, h7⟩ := h
    exact PS.imp (ds_tryN k s.stk s.frm (fun pn xe po => ih.2 (X.tr pn xe) _ (k.tr pn xe) ⟨po, s.fn, s.bk, s.stk, s.frm, s.ex⟩ h1) h2 h3 h4 (List.contains_iff_mem.mp h6) h7) fun D σ H q => by
      obtain ⟨sa, m, h', Z, Ea, rs, rh, w, tk, l⟩ := q
      simp only [wS] at w
      exact ⟨sa, m, h', Z, Ea, rs, rh, w, tk, l⟩
  | try2 b sb i j fn cs hl ih =>
    refine ⟨fun X st k s h => ?_, fun X sts k s h => by simp [chkB] at h⟩
    simp only [chkS] at h
    split at h <;> first | (cases h; done) | skip
    simp only [Bool.and_eq_true, decide_eq_true_eq, Bool.not_eq_true', List.isEmpty_eq_false_iff] at h
    obtain ⟨h1, rfl, h3, h4, h5, h6⟩ := h
    exact PS.imp (ds_try2 k s.stk s.frm s.fn (fun pn xe po => ih.2 (X.tr pn xe) _ (k.tr pn xe) ⟨po, s.fn, s.bk, s.stk, s.frm, s.ex⟩ h1) (List.contains_iff_mem.mp h3) h4 h5 h6) fun D σ H q => by
      obtain ⟨sa, m, h', Z, Ea, rs, rh, w, tk, l⟩ := q
      simp only [wS] at w
      exact ⟨sa, m, h', Z, Ea, rs, rh, w, tk, l⟩
  | retI cs =>
    refine ⟨fun X st k c h => ⟨fun pins s σ H D I q => ?_⟩, fun X sts k c h => by simp [chkB] at h⟩
    obtain ⟨sa, m, h, Z, Ea, rs, rh, w, tk, l⟩ := q
    simp only [wS] at w
  | tryK b sb c i j ih =>
    refine ⟨fun X st k s h => ?_, fun X sts k s h => by simp [chkB] at h⟩
    simp only [chkS] at h
    split at h <;> first | (cases h; done) | skip
    simp only [Bool.and_eq_true, decide_eq_true_eq] at h
    obtain ⟨h1, h2, h3, h4, rfl, h6, h7, h8⟩ := h
    exact PS.imp (ds_tryK k s.ex s.stk s.frm s.fn (fun pn xe po => ih.2 (X.tr pn xe) _ (k.tr pn xe) ⟨po, s.fn, s.bk, s.stk, s.frm, s.ex⟩ h1) h2 h3 h4 h6 h7 h8) fun D σ H q => by
      obtain ⟨sa, m, h', Z, Ea, rs, rh, w, tk, l⟩ := q
      simp only [wS] at w
      exact ⟨sa, m, h', Z, Ea, rs, rh, w, tk, l⟩
  | setU is e =>
    refine ⟨fun X st k c h => ?_, fun X sts k c h => by simp [chkB] at h⟩
    simp only [chkS] at h
    split at h
    · rw [Bool.and_eq_true, Bool.and_eq_true] at h
      obtain ⟨h1, h2, h4⟩ := h
      have o := tgBs_ok c.fn h1
      rename_i v q
      exact ds_setU k o ((snd e).E X _ k h2) (by cases v <;> first | rfl | (cases h4; done))
    · cases h
  | alt a b iha ihb =>
    refine ⟨fun X st k c h => ⟨fun pins s σ H D I q => ?_⟩, fun X sts k c h => by simp [chkB] at h⟩
    simp only [chkS, Bool.and_eq_true] at h
    obtain ⟨sa, m, h0, Z, Ea, rs, rh, w, tk, l⟩ := q
    simp only [wS] at w
    rcases w with w | w
    · exact (iha.1 X st k c h.1).run pins s σ H D I ⟨sa, m, h0, Z, Ea, rs, rh, w, tk, l⟩
    · exact (ihb.1 X st k c h.2).run pins s σ H D I ⟨sa, m, h0, Z, Ea, rs, rh, w, tk, l⟩
  | never =>
    refine ⟨fun X st k c h => ⟨fun pins s σ H D I q => ?_⟩, fun X sts k c h => by simp [chkB] at h⟩
    obtain ⟨sa, m, h, Z, Ea, rs, rh, w, tk, l⟩ := q
    simp only [wS] at w
end
end Rf
namespace Rf
open PySem PySem.Spec PyProof.Rows L2
structure DOk (K : PySem.W.Frag) (G : Gi) (P : Prg) (f : Nat) (a : Addr) (fd : FuncData) (ps : List Str) : Prop where
  bi : Binds K fd ps []
  ex : ∃ (x qual : Str) (params : Arguments) (body : List Stmt) (scope : Scope) (N : List Str) (d : Rf.Def), P[f]? = some d ∧ FunD K x qual params body scope [] [] a fd ∧ FnScope N ps scope ∧ d.np = ps.length ∧ d.nv = N.length ∧ chkB G N scope d.body body = true
structure Wd (w : World) (K : PySem.W.Frag) (mg : Str → Option Value) (nm : Nm) (G : Gi) (P : Prg) : Prop where
  kd : ∀ (i : Nat) (y : Str) (kvs : List (List Nat × D)), G.gd[i]? = some (y, kvs) → ∃ p es n, mg y = some (.ref p) ∧ KDict K w p es n ∧ (∀ x d, kvs.lookup x = some d → ∃ u v, PySem.W.nsIn K p (mkS x) = some (some u) ∧ RelV v u ∧ ∀ H m, RV K H m v d) ∧ ∀ x, kvs.lookup x = none → PySem.W.nsIn K p (mkS x) = some none
  fn : ∀ (f : Nat) (y : Str), G.fn[f]? = some y → ∃ a fd ps, DOk K G P f a fd ps ∧ mg y = some (.ref a)
  blt : ∀ x ∈ bltS, mg x = none
  glb : ∀ (i : Nat) (y : Str) (d : D), G.gl[i]? = some (y, d) → ∃ u v, mg y = some u ∧ RelV v u ∧ ∀ H m, RV K H m v d
  exc : ∀ (i : Nat) (y : Str), G.cl[i]? = some y → G.cx.contains y = false → mg y = some (.ref (nm.cls i)) ∧ PySem.W.excIn K (nm.cls i) [.type "ValueError", .type "Exception", .type "BaseException", .type "object"] "ValueError.__new__" = true ∧
    PySem.W.keepIn K (.ref (nm.cls i)) = true ∧ PySem.W.subIn K (.ref (nm.cls i)) (.type "BaseException") = some true ∧ PySem.W.typeIn K (.ref (nm.cls i)) = some (.type "type")
  clg : ∀ (i : Nat) (y : Str), G.cl[i]? = some y → mg y = some (.ref (nm.cls i))
  sbk : SbOk K nm G
  low : ∀ t ∈ G.lx, LowK K mg nm G t
  mt : ∀ t ∈ G.mt, ∃ a fd ps, DOk K G P t.2.1 a fd ps ∧ Cls K (nm.cls t.1) ∧ Meth K (nm.cls t.1) t.2.2 a
  mks : ∀ t ∈ G.mks, ∃ a fd ps, DOk K G P t.2 a fd ps ∧ Mk K (nm.cls t.1) a ∧ InsK K nm t.1
  flk : nm.nf = G.fl.length ∧ ∀ f n, G.fl[f]? = some n → nm.fld f = n
  sn : ∀ f ∈ G.sn, f < G.fn.length ∧ P[f]? = some ⟨2, 2, .seq (.ret sameM) .nil⟩
  on : ∀ t ∈ G.on, t.1 < G.fn.length ∧ P[t.1]? = some ⟨1, 1, .seq (.retI t.2) .nil⟩
theorem RVs.len {K : PySem.W.Frag} {H : Hp} {m : List Addr} {vs : List V} {ds : List D} (h : RVs K H m vs ds) : vs.length = ds.length := RVs.length h
theorem start_RS {K : PySem.W.Frag} {H : Hp} {m : List Addr} {N : List Str} {vs : List V} {ds : List D} {d : Rf.Def} (h : RVs K H m vs ds) (hn : d.nv = N.length) : RS K H m (L2.start N vs) (startA d ds) := by
  refine ⟨?_, fun i e q => ?_⟩
  · unfold L2.start startA
    simp only [List.length_append, List.length_map, List.length_replicate, hn, h.length]
  · unfold startA at q
    unfold L2.start
    by_cases hi : i < ds.length
    · rw [List.getElem?_append_left (by simpa using hi), List.getElem?_map] at q
      rw [List.getElem?_append_left (by simpa [h.length] using hi), List.getElem?_map]
      cases e1 : ds[i]? with
      | none => rw [e1] at q; cases q
      | some d' =>
        rw [e1] at q
        cases q
        obtain ⟨v, h1, h2⟩ := h.get e1
        exact ⟨v, by rw [h1]; rfl, h2⟩
    · rw [List.getElem?_append_right (by simpa using hi), List.getElem?_replicate] at q
      split at q <;> cases q
theorem bk_of {env : Env} (h : env.scope.kind = .function) : env.blockKind = .function := by
  unfold Env.blockKind
  rw [h]
  rfl
theorem same_w {C : CT} {m : List Addr} {h : AH} {i j : Int} : wE C sameM (startA ⟨2, 2, .nil⟩ [.int i, .int j]) h (fun d' h' => d' = .bl (decide (i = j)) ∧ h' = h) fun _ _ _ => False := by
  simp only [sameM, wE, startA, slot, List.map_cons, List.map_nil, List.cons_append, List.nil_append, List.getElem?_cons_zero, List.getElem?_cons_succ, isTyW, D.isTy]
  refine ⟨true, rfl, ?_⟩
  simp only [boolOf, if_true]
  refine ⟨false, rfl, ?_⟩
  simp only [boolOf, Bool.not_false, if_true, cmpW, eqW, unl, D.ok, true_and]
  simp only [D.eqv, and_true, D.bl.injEq]
  by_cases e : i = j
  · simp [e]
  · simp [e]
theorem fnN_same {Pr : Program} {w : World} {K : PySem.W.Frag} {mg : Str → Option Value} {base : Heap} {nm : Nm} {G : Gi} {P : Prg} (W : Wd w K mg nm G P) (hw : nm.w = w) {f : Nat} {a : Addr} {fd : FuncData} {ps : List Str} (D : DOk K G P f a fd ps)
    (hP : P[f]? = some ⟨2, 2, .seq (.ret sameM) .nil⟩) : FnN Pr w K mg base 1 a fd ps (spN K nm) := by
  obtain ⟨x, qual, params, body, scope, N, d, hd, F, S, h1, h2, h3⟩ := D.ex
  rw [hP] at hd
  cases hd
  refine fnN_of (N := N) F S (fun _ vs H Q h => ?_) fun cdv A out s0 H vs Q p room _ h => ?_
  · obtain ⟨m, h, i, j, _, rfl, _⟩ := h
    simpa using h1
  · obtain ⟨m, h, i, j, rh, rfl, fin⟩ := h
    simp only [chkB] at h3
    split at h3
    · rename_i st sts
      simp only [Bool.and_eq_true] at h3
      obtain ⟨h3, h4⟩ := h3
      have hs : sts = [] := by
        cases sts with
        | nil => rfl
        | cons _ _ => simp [chkB] at h4
      subst hs
      simp only [chkS] at h3
      split at h3
      · rename_i v pr
        have de := sndN (X := cxN Pr w K mg base N qual scope a cdv A out s0 H p) (nm := nm) (G := G) (C := fun _ _ _ _ _ => False) W.blt hw (by have := room.un; show (A.deeper _).units + 65 < cLine; omega) sameM rfl v h3
        refine ⟨_, pss_cons (ps_ret de) pss_nil, ?_⟩
        refine ⟨startA ⟨2, 2, .nil⟩ [.int i, .int j], m, h, fun d' h' => d' = .bl (decide (i = j)) ∧ h' = h, fun _ _ _ => False, start_RS (.cons (.int i) (.cons (.int j) .nil)) h2, rh, same_w (m := m), ?_, fun v H1 m1 d1 g1 rv rh1 ex1 q1 => ?_⟩
        · refine (takes_of (E := fun _ _ _ => False) rfl rfl rfl rfl).imp fun cls dx σ H1 z => ?_
          obtain ⟨_, _, _, _, _, _, _, _, no⟩ := z
          exact no
        · obtain ⟨rfl, rfl⟩ := q1
          cases rv
          exact fin H1 m1 rh1 ex1
      · cases h3
    · cases h3
theorem fnN_other {Pr : Program} {w : World} {K : PySem.W.Frag} {mg : Str → Option Value} {base : Heap} {nm : Nm} {G : Gi} {P : Prg} (W : Wd w K mg nm G P) {f : Nat} {a : Addr} {fd : FuncData} {ps : List Str} (D : DOk K G P f a fd ps)
    {cs : List Nat} (hP : P[f]? = some ⟨1, 1, .seq (.retI cs) .nil⟩) : FnN Pr w K mg base 1 a fd ps (spO K nm G.sb cs) := by
  obtain ⟨x, qual, params, body, scope, N, d, hd, F, S, h1, h2, h3⟩ := D.ex
  rw [hP] at hd
  cases hd
  refine fnN_of (N := N) F S (fun _ vs H Q h => ?_) fun cdv A out s0 H vs Q p room pin h => ?_
  · obtain ⟨_, _, _, _, _, _, rfl, _⟩ := h
    simpa using h1
  · obtain ⟨xc, dd, b, hz, hf, ⟨c, v, hx⟩, rfl, hd, e, fin⟩ := h
    simp only [chkB] at h3
    split at h3
    · rename_i st sts
      simp only [Bool.and_eq_true] at h3
      obtain ⟨h3, h4⟩ := h3
      have hs : sts = [] := by
        cases sts with
        | nil => rfl
        | cons _ _ => simp [chkB] at h4
      subst hs
      simp only [chkS] at h3
      split at h3
      · rename_i ex pr
        have pe := pe_isn0 (X := cxN Pr w K mg base N qual scope a cdv A out s0 H p) (nm := nm) (G := G) (sb := G.sb) (x := ⟨xc, []⟩) (i := 0) (a := p.1) (d := dd) (W.blt _ (by simp [bltS])) W.clg (fun c b e => W.sbk.kit _ _ _ e) (call_isETp (oe := p.2) (by show (p.1, p.2) ∈ [p]; simp) (W.sbk.xc _ _ _ hx) hz hf) h3
        refine ⟨_, pss_cons (ps_ret pe) pss_nil, ?_⟩
        exact ⟨rfl, hd, b, e, fun H' g => fin H' g⟩
      · cases h3
    · cases h3
theorem fn_g {CX : CXT} {Pr : Program} {w : World} {K : PySem.W.Frag} {mg : Str → Option Value} {b0 : Heap} {k : Nat} {f : Addr} {x qual : Str} {params : Arguments} {body : List Stmt} {scope : Scope} {fd : FuncData} {N ps : List Str} {sp : Sp}
    (F : FunD K x qual params body scope [] [] f fd) (S : FnScope N ps scope) (hl : ∀ xs H Q E, sp xs H Q E → xs.length = ps.length)
    (hb : ∀ (cdv : Value) (A : Around) (out : List Env) (s0 : Shared) (H : Hp) (xs : List V) (Q : VK) (E : XK), A.guards = some [] → Room k (A.deeper (envOfC qual scope s0.heap.objs.size f cdv)) → sp xs H Q E →
      ∃ t, PSs (cxOf CX Pr w K mg b0 N qual scope f cdv A out s0 H E) body t ∧ t { nx := fun _ H' => Q .non H', rt := Q } (start N xs) H) : FnG Pr w K mg b0 CX (k + 1) f fd ps sp := by
  obtain ⟨oc, od, dV, kV, doc, pm, an, cdv, ct, osl, rfl, lk, hcd, _, _⟩ := F.ex
  refine ⟨hl, fun A out s0 H ar us xs Q E hg room e0 bd rv hq => ?_⟩
  have up : ∀ b o, b0.get? b = some o → s0.heap.get? b = some o := fun b o z => (e0.bs b o z).1
  have kin := e0.mod.kin.keeps up
  refine codeAny_call_function room.depth (kin _ _ lk) rfl S.co S.gen rfl (PySem.W.codeRec_of kin hcd) (bd _ _ _ _ ?_)
  refine wpAny_newFunctionEnv_cells S.kind (fun y hy => ?_) fun env he s1 x => ?_
  · have hm := (List.of_mem_zip (show (y.1, y.2) ∈ ps.zip us from hy)).1
    rcases S.par y.1 hm with z | z
    · exact Or.inl z
    · exact Or.inr ⟨z, PySem.W.cellsFrom_some _ _ _ (Or.inl z)⟩
  · subst he
    refine ⟨(e0.mod.nolimit.keeps up).keeps x.toInCall.keep, codeAny_func ?_⟩
    obtain ⟨t, ht, hs⟩ := hb cdv A out s0 H xs Q E hg (room.deeper _) hq
    have J : L2.Inv (cxOf CX Pr w K mg b0 N qual scope f cdv A out s0 H E) [] (start N xs) H s1 := inv_start S room.hd e0 (hl _ _ _ _ hq) rv x
    refine wpAny_mono (ht.run [] s1 (start N xs) H _ J hs) (fun fl s2 z => ?_) fun _ _ z => z
    cases fl with
    | next =>
      obtain ⟨_, H2, J2, q2⟩ := z
      exact ⟨.non, H2, J2.os, J2.bare, J2.base, J2.hok, rfl, q2⟩
    | ret u =>
      obtain ⟨v, _, H2, J2, r2, q2⟩ := z
      exact ⟨v, H2, J2.os, J2.bare, J2.base, J2.hok, r2, q2⟩
    | brk =>
      obtain ⟨_, _, _, q2⟩ := z
      exact q2.elim
    | cont =>
      obtain ⟨_, _, _, q2⟩ := z
      exact q2.elim
theorem fn_lvl {Pr : Program} {w : World} {K : PySem.W.Frag} {mg : Str → Option Value} {base : Heap} {nm : Nm} {G : Gi} {P : Prg} (W : Wd w K mg nm G P) (hw : nm.w = w) : ∀ (n : Nat) (f : Nat) (a : Addr) (fd : FuncData) (ps : List Str), DOk K G P f a fd ps →
    FnG Pr w K mg base (CX Pr w) (2 * n + 2) a fd ps (spC K nm (wC P n) f)
  | 0, f, a, fd, ps, D => by
    have no : ∀ vs H Q E, ¬ spC K nm (wC P 0) f vs H Q E := fun vs H Q E h => by
      obtain ⟨ds, m, h', Qa, Ea, _, _, q, _⟩ := h
      exact q
    exact ⟨fun vs H Q E h => (no _ _ _ _ h).elim, fun A outer s H args us vs Q E _ _ _ _ _ h => (no _ _ _ _ h).elim⟩
  | n + 1, f, a, fd, ps, D => by
    obtain ⟨x, qual, params, body, scope, N, d, hd, F, S, h1, h2, h3⟩ := D.ex
    refine fn_g F S (k := 2 * n + 3) (fun vs H Q E h => ?_) (fun cdv A outer s H vs Q E hgd hr h => ?_)
    · obtain ⟨ds, m, h', Qa, Ea, rv, _, q, _⟩ := h
      simp only [wC, hd] at q
      rw [rv.length, q.1, h1]
    · obtain ⟨ds, m, h', Qa, Ea, rv, rh, q, fin, fx⟩ := h
      simp only [wC, hd] at q
      obtain ⟨_, q⟩ := q
      have ct : Ct (cxOf (CX Pr w) Pr w K mg base N qual scope a cdv A outer s H E) nm G (wC P n) := by
        refine ⟨hgd, rfl, ?_, S.nd, fun g z hz => ?_, W.blt, W.glb, W.exc, W.clg, W.sbk, W.low, fun _ => hr.mono (by omega), fun t ht => ?_, fun t ht => ?_, W.flk, hw, W.kd, (L2H.roomH_of hr).mono (by omega), fun g hg => ?_, fun g hg => ?_⟩
        · have := hr.un
          show (A.deeper _).units + 65 < cLine
          omega
        · obtain ⟨a', fd', ps', D', hm⟩ := W.fn g z hz
          obtain ⟨x', qual', params', body', scope', N', d', hd', F', S', _⟩ := D'.ex
          exact ⟨a', fd', ps', 2 * n + 2, fn_lvl W hw n g a' fd' ps' D', hr.mono (by omega), hm, F'.kp, D'.bi⟩
        · obtain ⟨a', fd', ps', D', h1, h2⟩ := W.mt t ht
          exact ⟨a', fd', ps', 2 * n + 2, fn_lvl W hw n t.2.1 a' fd' ps' D', hr.mono (by omega), h1, h2, D'.bi⟩
        · obtain ⟨a', fd', ps', D', h1, h2⟩ := W.mks t ht
          exact ⟨a', fd', ps', 2 * n + 2, fn_lvl W hw n t.2 a' fd' ps' D', hr, h1, D'.bi, h2⟩
        · obtain ⟨hl, hP⟩ := W.sn g hg
          obtain ⟨a', fd', ps', D', hm⟩ := W.fn g _ (List.getElem?_eq_getElem hl)
          obtain ⟨x', qual', params', body', scope', N', d', hd', F', S', _⟩ := D'.ex
          exact ⟨_, a', fd', ps', List.getElem?_eq_getElem hl, fnN_same W hw D' hP, hm, F'.kp, D'.bi⟩
        · obtain ⟨hl, hP⟩ := W.on g hg
          obtain ⟨a', fd', ps', D', hm⟩ := W.fn g.1 _ (List.getElem?_eq_getElem hl)
          obtain ⟨x', qual', params', body', scope', N', d', hd', F', S', _⟩ := D'.ex
          exact ⟨_, a', fd', ps', List.getElem?_eq_getElem hl, fnN_other W D' hP, hm, F'.kp, D'.bi⟩
      have st : StC (cxOf (CX Pr w) Pr w K mg base N qual scope a cdv A outer s H E) := ⟨passes_of rfl, fun _ => rfl, bk_of S.kind, rfl, rfl, rfl⟩
      refine ⟨_, (snd_s d.body).2 _ body ct st h3, startA d ds, m, h', _, _, start_RS rv h2, rh, q, ?_, ?_⟩
      · refine (takes_of (E := E) rfl rfl rfl rfl).imp fun cls dx σ H1 z => ?_
        obtain ⟨x, sa', m', h1, rx, _, rh', ex, qx⟩ := z
        exact fx cls dx x H1 m' h1 rx rh' ex qx
      · exact ⟨fun σ' sa' H' m' h'' _ rh' ex z => fin _ _ _ _ _ .non rh' ex z, fin, fun σ' sa' H' m' h'' _ rh' ex z => z, fun σ' sa' H' m' h'' _ rh' ex z => z⟩
end Rf
namespace Rf
open PySem PySem.Spec PyProof.Rows L2
mutual
theorem dB_ok {K : PySem.W.Frag} : ∀ {d : D} {u : Value}, dB K d u = true → ∃ v, RelV v u ∧ ∀ H m, RV K H m v d
  | .non, u, h => by
    cases u <;> simp only [dB] at h <;> first | (cases h; done) | skip
    exact ⟨.non, rfl, fun _ _ => .non⟩
  | .bl b, u, h => by
    cases u <;> simp only [dB] at h <;> first | (cases h; done) | skip
    have := eq_of_beq h
    subst this
    exact ⟨.bl b, rfl, fun _ _ => .bl b⟩
  | .int i, u, h => by
    cases u <;> simp only [dB] at h <;> first | (cases h; done) | skip
    have := of_decide_eq_true h
    subst this
    exact ⟨.int i, ⟨_, rfl⟩, fun _ _ => .int i⟩
  | .str x, u, h => by
    cases u <;> simp only [dB] at h <;> first | (cases h; done) | skip
    have := of_decide_eq_true h
    subst this
    exact ⟨.str (mkS x), ⟨_, rfl⟩, fun _ _ => .str x⟩
  | .tup ds, u, h => by
    cases u <;> simp only [dB] at h <;> first | (cases h; done) | skip
    split at h
    · rename_i a c its n sl e
      simp only [Bool.and_eq_true, decide_eq_true_eq] at h
      obtain ⟨rfl, h2, h3⟩ := h
      obtain ⟨vs, h4, h5⟩ := dBs_ok h3
      exact ⟨.ref _, rfl, fun H m => .tup (.inr ⟨_, _, _, e, rfl, rfl, rfl, h2, h4⟩) (h5 H m)⟩
    · cases h
  | .wtup _, u, h => by cases u <;> simp [dB] at h
  | .rol ds, u, h => by
    cases u <;> simp only [dB] at h <;> first | (cases h; done) | skip
    split at h
    · rename_i a c its n sl e
      simp only [Bool.and_eq_true, decide_eq_true_eq] at h
      obtain ⟨rfl, h2, h3⟩ := h
      obtain ⟨vs, h4, h5⟩ := dBs_ok h3
      exact ⟨.ref _, rfl, fun H m => .rol (.inr ⟨_, _, _, e, rfl, rfl, rfl, h2, h4⟩) (h5 H m)⟩
    · cases h
  | .ref _, u, h => by cases u <;> simp [dB] at h
theorem dBs_ok {K : PySem.W.Frag} : ∀ {ds : List D} {us : List Value}, dBs K ds us = true → ∃ vs, Vals vs us ∧ ∀ H m, RVs K H m vs ds
  | [], us, h => by
    cases us with
    | nil => exact ⟨[], .nil, fun _ _ => .nil⟩
    | cons _ _ => simp [dBs] at h
  | d :: ds, us, h => by
    cases us with
    | nil => simp [dBs] at h
    | cons u us =>
      simp only [dBs, Bool.and_eq_true] at h
      obtain ⟨v, h1, h2⟩ := dB_ok h.1
      obtain ⟨vs, h3, h4⟩ := dBs_ok h.2
      exact ⟨v :: vs, .cons h1 h3, fun H m => .cons (h2 H m) (h4 H m)⟩
end
theorem isSome'_ok {o : Option Bool} {v : Bool} (h : isSome' o v = true) : o = some v := by
  unfold isSome' at h
  split at h
  · rw [beq_iff_eq] at h; rw [h]
  · cases h
theorem slotB1_ok {o : Option (Option Value)} {n : String} (h : slotB1 o n = true) : o = some (some (.builtin n)) := by
  unfold slotB1 at h
  split at h
  · have := of_decide_eq_true h
    rw [this]
  · cases h
theorem noB1_ok {o : Option (Option Value)} (h : noB1 o = true) : o = some none := by
  unfold noB1 at h
  split at h
  · rfl
  · cases h
theorem excB_ok {K : PySem.W.Frag} {D : Addr} (h : excB K D = true) : ExcC K D := by
  simp only [excB, Bool.and_eq_true] at h
  obtain ⟨h1, h2, h3, h4, h5, h6, h7, h8⟩ := h
  exact ⟨slotB1_ok h1, noB1_ok h2, isSome'_ok h3, h4, slotB1_ok h5, slotB1_ok h6, isSome'_ok h7, isSome'_ok h8⟩
theorem sbB_ok {G : Gi} {K : PySem.W.Frag} {f : Nat → Str} {n : Nat} {w : World} (h : sbB G K = true) : SbOk K ⟨fun i => cls G K i, f, n, w⟩ G := by
  have key : ∀ a b v, sbL G.sb a b = some v → _ := fun a b v e => List.all_eq_true.mp h _ (sbL_mem e)
  simp only [Bool.and_eq_true] at key
  exact ⟨fun a b v e => isSome'_ok (key a b v e).1, fun a b v e => isSome'_ok (key a b v e).2.1, fun a b v e => excB_ok (key a b v e).2.2.1, fun a b v e => isSome'_ok (key a b v e).2.2.2⟩
theorem adrB_ok {o : Option (Option Value)} {a : Addr} (h : adrB o a = true) : o = some (some (.ref a)) := by
  unfold adrB at h
  split at h
  · have := of_decide_eq_true h
    rw [this]
  · cases h
theorem tyB_ok {o : Option Value} {n : String} (h : tyB o n = true) : o = some (.type n) := by
  unfold tyB at h
  split at h
  · have := of_decide_eq_true h
    rw [this]
  · cases h
theorem fcB_ok {o : Option PySem.W.CFound} {n : String} (h : fcB o n = true) : o = some (.val (.builtin n)) := by
  unfold fcB at h
  split at h
  · have := of_decide_eq_true h
    rw [this]
  · cases h
theorem oexB_ok {K : PySem.W.Frag} {C : Addr} (h : oexB K C = true) : OexC K C := by
  simp only [oexB, Bool.and_eq_true, decide_eq_true_eq] at h
  obtain ⟨h1, h2, h3, h4, h5⟩ := h
  refine ⟨?_, slotB1_ok h2, isSome'_ok h3, tyB_ok h4, h5⟩
  split at h1
  · rename_i c dd cd sl ho
    split at h1
    · rename_i C' bm k0 k1 k2 k3 n k5 hm hs
      simp only [Bool.and_eq_true, decide_eq_true_eq, Bool.not_eq_true'] at h1
      obtain ⟨rfl, rfl, rfl, hd, hdel, hv⟩ := h1
      obtain ⟨nm, bs, mro, ns, qn, hd', sn, sub, ab, col, del⟩ := cd
      dsimp only at hm hdel hd
      subst hm hdel hd
      have hsl : sl = #[k0, k1, k2, k3, some (.builtin "ValueError.__new__"), k5] := by
        obtain ⟨l⟩ := sl
        simp only at hs
        rw [hs]
      subst hsl
      exact ⟨nm, qn, ns, bs, bm, sn, sub, ab, col, dd, k0, k1, k2, k3, k5, ho, hv⟩
    · cases h1
  · cases h1
theorem clsOkB_ok {K : PySem.W.Frag} {C : Addr} (h : clsOkB K C = true) : Cls K C := by
  simp only [clsOkB, Bool.and_eq_true] at h
  exact ⟨h.1, h.2.1, h.2.2.1, slotB1_ok h.2.2.2⟩
theorem obsRG_eq {n : Nat} {G : Gi} {fn : List He.DefD} {g : Addr → Option Obj} {s : Shared} (h : ∀ a, g a = s.heap.get? a) : obsRG n G fn g = (hookR n G fn).obs s := by
  have e : g = s.heap.get? := funext h
  rw [e] <;> rfl
section
variable {G : Gi} {fn : List He.DefD} {K : PySem.W.Frag} {w : World}
theorem saysR_def (c : obsR G fn K = valR G fn w) (i : Nat) {d : He.DefD} (h : fn[i]? = some d) : ∃ fd, FunD K d.name d.qual d.params d.body d.scope (d.dvs K) (d.kws K) (He.fAd K d.at_) fd := by
  have c2 := (He.ba (show (((xfR G K && lowR G fn K) && (gdR G K && insR G fn K)) && fn.all fun d => d.ok K) = true from congrArg (fun z : He.AlT => z.1.1) c)).2
  have e : fn.map (fun d => He.fnW K d.at_) = fn.map He.DefD.val := congrArg (fun z : He.AlT => z.1.2) c
  have e2 : (fn.map fun d => He.fnW K d.at_)[i]? = (fn.map He.DefD.val)[i]? := by rw [e]
  rw [List.getElem?_map, List.getElem?_map, h] at e2
  exact He.DefD.funD (Option.some.inj e2) (List.all_eq_true.mp c2 d (List.mem_of_getElem? h))
theorem saysR_xi (c : obsR G fn K = valR G fn w) : ((xfR G K && lowR G fn K) && (gdR G K && insR G fn K)) = true :=
  (He.ba (show (((xfR G K && lowR G fn K) && (gdR G K && insR G fn K)) && fn.all fun d => d.ok K) = true from congrArg (fun z : He.AlT => z.1.1) c)).1
theorem saysR_xl (c : obsR G fn K = valR G fn w) : (xfR G K && lowR G fn K) = true := (He.ba (saysR_xi c)).1
theorem saysR_x (c : obsR G fn K = valR G fn w) : xfR G K = true :=
  (He.ba (saysR_xl c)).1
structure Rw where
  y : Str
  ps : List Str
  N : List Str
  d : Rf.Def
def rwC (G : Gi) (r : Rw) (d : He.DefD) : Bool := (match d.at_ with | (y, none) => decide (y = r.y) | _ => true) && (C8.scC r.N r.ps d.scope && (decide (r.d.np = r.ps.length) && (decide (r.d.nv = r.N.length) && (d.dfl.isEmpty && (d.kwd.isEmpty && chkB G r.N d.scope r.d.body d.body)))))
def BindsR (r : Rw) (d : He.DefD) : Prop := ∀ (kV doc pm : Value) (an : Option Addr) (cdv ct : Value) (us : List Value), us.length = r.ps.length → bindArgs (PySem.W.fnOf d.name d.qual d.params d.body d.scope .none kV doc pm an cdv ct) ⟨us, []⟩ = pure (r.ps.zip us)
inductive Rws (G : Gi) : List Rw → List He.DefD → Prop
  | nil {ds : List He.DefD} : Rws G [] ds
  | cons {r : Rw} {d : He.DefD} {rs : List Rw} {ds : List He.DefD} : rwC G r d = true → BindsR r d → Rws G rs ds → Rws G (r :: rs) (d :: ds)
theorem Rws.at_ : ∀ {rs : List Rw} {fn : List He.DefD}, Rws G rs fn → ∀ (i : Nat) (r : Rw), rs[i]? = some r → ∃ d, fn[i]? = some d ∧ rwC G r d = true ∧ BindsR r d
  | _, _, .nil, i, r, e => by simp at e
  | _, _, .cons h b _, 0, r, e => by simp at e; subst e; exact ⟨_, rfl, h, b⟩
  | _, _, .cons _ _ t, i + 1, r, e => by simpa using Rws.at_ t i r (by simpa using e)
def LowS (G : Gi) (fn : List He.DefD) (t : Nat × Nat × Nat × Nat) : Prop := ∃ (d : He.DefD) (r : Rw) (y n : Str), fn[t.2.2.2]? = some d ∧ BindsR r d ∧ C8.scC r.N r.ps d.scope = true ∧ r.ps.length = 2 ∧ r.N.length = 2 ∧ d.dfl = [] ∧ d.kwd = [] ∧ G.cl[t.2.2.1]? = some y ∧ G.fl[t.2.1]? = some n ∧ initB r.N d.scope y n d.body = true
theorem mem_lookL {x : List Nat} {d : D} : ∀ {kvs : List (List Nat × D)}, kvs.lookup x = some d → (x, d) ∈ kvs
  | [], h => by cases h
  | (y, e) :: r, h => by
    rw [List.lookup_cons] at h
    split at h
    · rename_i q
      cases h
      have := eq_of_beq q
      subst this
      exact List.mem_cons_self
    · exact List.mem_cons_of_mem _ (mem_lookL h)
theorem ns_miss {p : Params} {z : Str} : ∀ {es : List DictEntry} {ks : List Str}, es.map He.keyOf = He.keysIn p ks → z ∉ ks → es.find? (·.key.isStr z) = none ∧ es.any (·.refKey) = false
  | [], _, _, _ => ⟨rfl, rfl⟩
  | e :: r, [], h, _ => by cases h
  | e :: r, k :: ks, h, hz => by
    have h1 : He.keyOf e :: r.map He.keyOf = some (k, PyData.keyHash p k) :: He.keysIn p ks := h
    injection h1 with h2 h3
    obtain ⟨a1, a2⟩ := ns_miss (z := z) h3 fun hm => hz (List.mem_cons_of_mem _ hm)
    have hne : k ≠ z := fun q => hz (by rw [q]; exact List.mem_cons_self)
    unfold He.keyOf at h2
    split at h2
    · rename_i x t q
      obtain rfl : x = k := (Prod.mk.inj (Option.some.inj h2)).1
      have e1 : e.key.isStr z = false := by rw [q]; simpa [Value.isStr] using hne
      have e2 : e.refKey = false := by unfold DictEntry.refKey; rw [q]
      exact ⟨by rw [List.find?_cons, e1]; exact a1, by rw [List.any_cons, e2, a2]; rfl⟩
    · cases h2
theorem wd_of {h : Heap} {mg : Str → Option Value} {rs : List Rw} (X : K.In h) (N : h.Ns mainGlobals mg) (c : obsR G fn K = valR G fn w) (hG : (rs.take G.fn.length).map (·.y) = G.fn) (hA : (fn.take G.fn.length).all (fun d => d.at_.2.isNone) = true) (hU : G.fl.Nodup) (hC : ∀ (i : Nat) (r : Rw), rs[i]? = some r → ∃ d, fn[i]? = some d ∧ rwC G r d = true ∧ BindsR r d) (hL : ∀ t ∈ G.lx, LowS G fn t) (hM : ∀ t ∈ G.mt, t.2.1 < rs.length) (hK : ∀ t ∈ G.mks, t.2 < rs.length) (hS : ∀ f ∈ G.sn, f < G.fn.length ∧ (rs.map (·.d))[f]? = some ⟨2, 2, .seq (.ret sameM) .nil⟩) (hO : ∀ t ∈ G.on, t.1 < G.fn.length ∧ (rs.map (·.d))[t.1]? = some ⟨1, 1, .seq (.retI t.2) .nil⟩) :
    ∃ nm : Nm, nm.w = w ∧ Wd w K mg nm G (rs.map (·.d)) := by
  have cx := saysR_x c
  simp only [xfR, Bool.and_eq_true, List.all_eq_true] at cx
  obtain ⟨c1, c2, c3, c4, c5⟩ := cx
  have dok : ∀ (i : Nat) (r : Rw), rs[i]? = some r → ∃ (d : He.DefD) (fd : FuncData), fn[i]? = some d ∧ (match d.at_ with | (y, none) => decide (y = r.y) | _ => true) = true ∧ DOk K G (rs.map (·.d)) i (He.fAd K d.at_) fd r.ps := by
    intro i r e
    obtain ⟨d, hd, hr, hb⟩ := hC i r e
    obtain ⟨fd, F⟩ := saysR_def c i hd
    simp only [rwC, Bool.and_eq_true, decide_eq_true_eq, List.isEmpty_iff] at hr
    obtain ⟨r1, r2, r3, r4, r5, r6, r7⟩ := hr
    have F' : FunD K d.name d.qual d.params d.body d.scope [] [] (He.fAd K d.at_) fd := by
      have := F
      unfold He.DefD.dvs He.DefD.kws at this
      rw [r5, r6] at this
      exact this
    exact ⟨d, fd, hd, r1, F'.bindsN hb, ⟨_, _, _, _, _, r.N, r.d, by rw [List.getElem?_map, e]; rfl, F', C8.fnScope_by r2, r3, r4, r7⟩⟩
  obtain ⟨i1, i2⟩ := Bool.and_eq_true_iff.mp (He.ba (He.ba (saysR_xi c)).2).2
  refine ⟨⟨fun i => He.ga K (G.cl.getD i Str.empty), fun i => G.fl.getD i Str.empty, G.fl.length, w⟩, rfl, fun i y kvs hi => ?_, fun f y hy => ?_, fun x hx => He.free_ok X N (c1 x hx), fun i y d hi => ?_, fun i y hi hx => ?_, fun i y hi => ?_, sbB_ok c5, fun t ht => ?_, fun t ht => ?_, fun t ht => ?_, ⟨rfl, fun f n hf => ?_⟩, hS, hO⟩
  · have cg := (He.ba (He.ba (saysR_xi c)).2).1
    have cg1 := List.all_eq_true.mp cg (y, kvs) (List.mem_of_getElem? hi)
    rw [Bool.and_eq_true, List.all_eq_true] at cg1
    have ct : G.gd.map (fun p => He.dicW K (He.ga K p.1)) = G.gd.map fun p => some (He.keysIn w.params (p.2.map fun q => mkS q.1)) := congrArg (fun z : He.AlT => z.2) c
    have ct1 : (G.gd.map fun p => He.dicW K (He.ga K p.1))[i]? = (G.gd.map fun p => some (He.keysIn w.params (p.2.map fun q => mkS q.1)))[i]? := by rw [ct]
    rw [List.getElem?_map, List.getElem?_map, hi] at ct1
    obtain ⟨es, n, hk⟩ := He.dicW_ok (Option.some.inj ct1)
    have hks : es.toList.map He.keyOf = He.keysIn w.params (kvs.map fun q => mkS q.1) := by
      have c3 : He.dicW K (He.ga K y) = some (He.keysIn w.params (kvs.map fun q => mkS q.1)) := Option.some.inj ct1
      unfold He.dicW at c3
      rw [hk.at_] at c3
      simpa [hk.low] using c3
    refine ⟨He.ga K y, es, n, He.glo_ok X N cg1.1, hk, fun x d hx => ?_, fun x hx => ?_⟩
    rotate_left
    · obtain ⟨m1, m2⟩ := ns_miss hks (z := mkS x) (fun hm => by
        obtain ⟨q, hq, e⟩ := List.mem_map.mp hm
        have e2 : q.1 = x := congrArg TL.tl e
        have hne := List.lookup_eq_none_iff.mp hx q hq
        rw [e2] at hne
        simp at hne)
      unfold PySem.W.nsIn
      rw [hk.at_]
      simp [m1, m2]
    have hm : (x, d) ∈ kvs := mem_lookL hx
    have q := cg1.2 (x, d) hm
    simp only at q
    split at q
    · rename_i u hu
      obtain ⟨v, h1, h2⟩ := dB_ok q
      exact ⟨u, v, hu, h1, h2⟩
    · cases q
  · have hlt : f < G.fn.length := (List.getElem?_eq_some_iff.mp hy).1
    have hy' := hy
    rw [← hG, List.getElem?_map, List.getElem?_take] at hy'
    rw [if_pos hlt] at hy'
    cases e : rs[f]? with
    | none => rw [e] at hy'; cases hy'
    | some r =>
      rw [e] at hy'
      cases hy'
      obtain ⟨d, fd, hd, r1, D⟩ := dok f r e
      have m := He.glo_ok X N (c2 r.y (List.mem_of_getElem? hy))
      have hn := List.all_eq_true.mp hA d (List.mem_of_getElem? (show (fn.take G.fn.length)[f]? = some d by rw [List.getElem?_take, if_pos hlt]; exact hd))
      have ea : He.fAd K d.at_ = He.ga K r.y := by
        revert r1 hn
        cases d.at_ with
        | mk y o =>
          cases o with
          | none => intro z _; have := of_decide_eq_true z; subst this; rfl
          | some _ => intro _ z; cases z
      rw [ea] at D
      exact ⟨_, fd, r.ps, D, m⟩
  · have q := c3 (y, d) (List.mem_of_getElem? hi)
    unfold tabB at q
    simp only at q
    cases e : PySem.W.nsIn K mainGlobals y with
    | none => rw [e] at q; cases q
    | some o =>
      rw [e] at q
      cases o with
      | none => cases q
      | some u =>
        obtain ⟨v, h1, h2⟩ := dB_ok q
        exact ⟨u, v, PySem.W.mg_of X N e, h1, h2⟩
  · obtain ⟨q1, q2⟩ := c4 y (List.mem_of_getElem? hi)
    have e : G.cl.getD i Str.empty = y := by rw [List.getD_eq_getElem?_getD, hi]; rfl
    rw [hx, Bool.false_or] at q2
    simp only [He.Fa.ok, Bool.and_eq_true, decide_eq_true_eq] at q2
    obtain ⟨z1, z2, z3, z4⟩ := q2
    have e' : He.ga K (G.cl.getD i Str.empty) = He.ga K y := by rw [e]
    refine ⟨?_, ?_, ?_, ?_, ?_⟩
    · show mg y = some (.ref (He.ga K (G.cl.getD i Str.empty))); rw [e']; exact He.glo_ok X N q1
    · show PySem.W.excIn K (He.ga K (G.cl.getD i Str.empty)) _ _ = true; rw [e']; exact z1
    · show PySem.W.keepIn K (.ref (He.ga K (G.cl.getD i Str.empty))) = true; rw [e']; exact z2
    · show PySem.W.subIn K (.ref (He.ga K (G.cl.getD i Str.empty))) _ = _; rw [e']; exact z3
    · show PySem.W.typeIn K (.ref (He.ga K (G.cl.getD i Str.empty))) = _; rw [e']; exact z4
  · obtain ⟨q1, q2⟩ := c4 y (List.mem_of_getElem? hi)
    have e : G.cl.getD i Str.empty = y := by rw [List.getD_eq_getElem?_getD, hi]; rfl
    have e' : He.ga K (G.cl.getD i Str.empty) = He.ga K y := by rw [e]
    show mg y = some (.ref (He.ga K (G.cl.getD i Str.empty))); rw [e']; exact He.glo_ok X N q1
  · obtain ⟨d, r, y, n, hd, hb, hs, hp2, hN2, hdf, hkw, hy, hn, hi⟩ := hL t ht
    have q := List.all_eq_true.mp (He.ba (saysR_xl c)).2 t ht
    simp only [Bool.and_eq_true] at q
    obtain ⟨q1, q2, q3⟩ := q
    rw [hd, hy, hn] at q3
    simp only [Bool.and_eq_true] at q3
    obtain ⟨q3, q4, q5, q6, q7, q8⟩ := q3
    obtain ⟨fd, F⟩ := saysR_def c _ hd
    have F' : FunD K d.name d.qual d.params d.body d.scope [] [] (He.fAd K d.at_) fd := by
      have := F
      unfold He.DefD.dvs He.DefD.kws at this
      rw [hdf, hkw] at this
      exact this
    have m := He.glo_ok X N (c4 y (List.mem_of_getElem? hy)).1
    refine ⟨oexB_ok q1, xfB_ok q2, He.fAd K d.at_, fd, d.name, d.qual, d.params, d.body, d.scope, r.N, r.ps, n, y, He.ga K y, .type "type", adrB_ok q3, tyB_ok q4, F', C8.fnScope_by hs, hp2, hN2, F'.bindsN hb, hi, hn, ?_, noB1_ok q5, m, slotB1_ok q6, q7, fcB_ok q8⟩
    show G.fl.getD t.2.1 Str.empty = n
    rw [List.getD_eq_getElem?_getD, hn]; rfl
  · have q := List.all_eq_true.mp i1 t ht
    simp only [Bool.and_eq_true] at q
    obtain ⟨q1, q2⟩ := q
    split at q2
    · rename_i d hd
      simp only [methOkB, Bool.and_eq_true] at q2
      have hr : t.2.1 < rs.length := hM t ht
      obtain ⟨d', fd, hd', _, D⟩ := dok t.2.1 _ (List.getElem?_eq_getElem hr)
      rw [hd] at hd'
      cases hd'
      exact ⟨_, fd, _, D, clsOkB_ok q1, ⟨adrB_ok q2.1, q2.2.1, q2.2.2⟩⟩
    · cases q2
  · have q := List.all_eq_true.mp i2 t ht
    simp only [Bool.and_eq_true] at q
    obtain ⟨q1, q2, q3⟩ := q
    split at q1
    · rename_i d hd
      simp only [Bool.and_eq_true] at q1
      have hr : t.2 < rs.length := hK t ht
      obtain ⟨d', fd, hd', _, D⟩ := dok t.2 _ (List.getElem?_eq_getElem hr)
      rw [hd] at hd'
      cases hd'
      refine ⟨_, fd, _, D, ⟨q1.1, adrB_ok q1.2.1, q1.2.2.1, q1.2.2.2⟩, ⟨clsOkB_ok q2, fun f hf => ?_, fun f g hf hg e => ?_⟩⟩
      · have := List.all_eq_true.mp q3 (G.fl.getD f Str.empty) (by rw [List.getD_eq_getElem?_getD, List.getElem?_eq_getElem hf]; exact List.getElem_mem _)
        exact noB1_ok this
      · have e' : G.fl.getD f Str.empty = G.fl.getD g Str.empty := e
        rw [List.getD_eq_getElem?_getD, List.getD_eq_getElem?_getD, List.getElem?_eq_getElem hf, List.getElem?_eq_getElem hg] at e'
        exact (List.getElem_inj hU).mp e'
    · cases q1
  · show G.fl.getD f Str.empty = n
    rw [List.getD_eq_getElem?_getD, hf]; rfl
theorem law_sp {nm : Nm} {P : Prg} {n f : Nat} {a : Addr} {H : Hp} {ns : List Int} (hO : Only H) (hS : SqL K H a (ns.map V.int)) (h : wC P n f [.rol (ns.map .int)] [] (fun d _ => d = .bl true) fun _ _ => False) :
    spC K nm (wC P n) f [.ref a] H (fun v _ => v = .bl true) fun _ _ _ => False := by
  have hF : SqF K H a (ns.map V.int) := by
    rcases hS with (h | h) | h
    · rcases hO a with z | ⟨o, xs, z⟩
      · rw [z] at h; cases h
      · rw [z] at h; cases h
    · obtain ⟨o, h⟩ := h; exact .inl ⟨o, h⟩
    · exact .inr h
  have hr : RVs K H [] (ns.map V.int) (ns.map D.int) := by
    clear h hF hS
    induction ns with
    | nil => exact .nil
    | cons n ns ih => exact .cons (.int n) ih
  refine ⟨[.rol (ns.map .int)], [], [], _, _, .cons (.rol hF hr) .nil, ⟨rfl, List.nodup_nil, fun n a e => by simp at e, fun n a o e => by simp at e⟩, h, fun v H' m' d h' rv _ _ e => ?_, fun cls dx x H' m' h' _ _ _ z => z.elim⟩
  subst e
  cases rv
  rfl
def CXe (P : Program) : CXT := fun outer H s E e s' => ∃ w, CX P w outer H s E e s'
theorem fn_cx {Pr : Program} {w : World} {K : PySem.W.Frag} {mg : Str → Option Value} {base : Heap} {k : Nat} {f : Addr} {fd : FuncData} {ps : List Str} {sp : Sp} (F : FnG Pr w K mg base (CX Pr w) k f fd ps sp) : FnG Pr w K mg base (CXe Pr) k f fd ps sp :=
  ⟨F.len, fun A outer s H args us vs Q E hg hr he hb hv hs => codeAny_mono (F.run A outer s H args us vs Q E hg hr he hb hv hs) fun r s' h => by
    cases r with
    | error e => exact ⟨w, h⟩
    | ok fl => cases fl <;> exact h⟩
theorem run_law {P : Program} {w : World} {K : PySem.W.Frag} {mg mb : Str → Option Value} {CX : CXT} {k : Nat} {fa a : Addr} {fd : FuncData} {x : Str} {sp : Sp} {s1 : Shared} {us : List Value} {ns : List Int}
    (kin : K.In s1.heap) (nsM : s1.heap.Ns mainGlobals mg) (nsB : s1.heap.Ns builtinsNs mb) (bt : ∀ y : Str, y ≠ "__name__" → mb y = bootBuiltins y) (lim : s1.heap.NoLimit) (gs : s1.gens = #[])
    (at_ : s1.heap.get? a = some { cls := .type "list", data := .seq us.toArray }) (hin : IntsAre us ns) (hz : ns.length ≤ sizeLine) (room : Room k callerA)
    (F : ∀ b0 : Heap, K.In b0 → b0.Ns mainGlobals mg → FnG P w K mg b0 CX k fa fd [x] sp) (bd : ∀ (s : Shared) (u : Value), BindsTo s fd ⟨[u], []⟩ [(x, u)])
    (law : ∀ H : Hp, Only H → SqL K H a (ns.map V.int) → sp [.ref a] H (fun v _ => v = .bl true) fun _ _ _ => False)
    (hCX : ∀ H e s', CX [] H s1 (fun _ _ _ => False) e s' → False) :
    codeAny (model P w) callerA (.call (.ref fa) ⟨[.ref a], []⟩) (fun r s' => r = .ok (.ret (.bool true)) ∧ OldK s1.heap s'.heap ∧ s'.os = s1.os ∧ AllBare s'.gens) s1 := by
  have vi := vals_ints hin
  -- H tracks the script alone, or nothing
  have main : ∀ H : Hp, Only H → SqL K H a (ns.map V.int) → HOk P w H s1.heap → (∀ b u, H b = some u → b = a ∧ K.lookup a = none) →
      codeAny (model P w) callerA (.call (.ref fa) ⟨[.ref a], []⟩) (fun r s' => r = .ok (.ret (.bool true)) ∧ OldK s1.heap s'.heap ∧ s'.os = s1.os ∧ AllBare s'.gens) s1 := by
    intro H only sq hok one
    have free : ∀ {b : Addr} {o : Obj}, s1.heap.get? b = some o → (∀ its n, o.data ≠ .seq its n) → H b = none := fun {b o} e nd => by
      cases q : H b with
      | none => rfl
      | some u =>
        obtain ⟨rfl, _⟩ := one b u q
        rw [at_] at e
        exact (nd _ _ (congrArg Obj.data (Option.some.inj e)).symm).elim
    have nsUp : ∀ {b : Addr} {m : Str → Option Value}, s1.heap.Ns b m → (hidT s1.heap H).Ns b m := fun {b m} z => by
      obtain ⟨o, es, ep, e, d, r⟩ := z
      exact ⟨o, es, ep, hidT_get e (free e fun its n q => by rw [d] at q; cases q), d, r⟩
    have kin0 : K.In (hidT s1.heap H) := fun b o e => hidT_get (kin b o e) (by
      cases q : H b with
      | none => rfl
      | some u =>
        obtain ⟨rfl, z⟩ := one b u q
        rw [z] at e
        cases e)
    obtain ⟨mc, l1, l2⟩ := lim
    have mod0 : Mod K mg (hidT s1.heap H) := ⟨kin0, nsUp nsM, ⟨mb, nsUp nsB, bt⟩, ⟨mc, nsUp l1, l2⟩⟩
    have none_ : ∀ b : Addr, b ∉ frs ([] : List Env) := fun b z => nomatch z
    have env0 : Env0 P w K mg (hidT s1.heap H) callerA [] s1 H := ⟨rfl, mod0, fun b o e => of_hidT e, Nat.le_of_eq (hidT_size _ _), trivial, fun b z => (none_ b z).elim, hok, .of_eq gs⟩
    have go := (F _ kin0 (nsUp nsM)).run callerA [] s1 H ⟨[.ref a], []⟩ [.ref a] [.ref a] _ _ rfl room env0 (bd s1 (.ref a)) (.cons rfl .nil) (law H only sq)
    refine codeAny_mono go fun r s2 z => ?_
    rcases r with e | fl
    · exact (hCX H e s2 z).elim
    · cases fl with
      | ret u =>
        obtain ⟨v, H2, eo, eb, un, ok2, rv, qv⟩ := z
        cases (show v = .bl true from qv)
        cases (show u = Value.bool true from rv)
        refine ⟨rfl, OldK.of_keep fun b o e => ?_, eo, eb⟩
        cases q : H b with
        | none => exact un.keep b o e q (none_ b) (fun z => nomatch z)
        | some t =>
          rcases only b with z | ⟨ob, xs, z⟩
          · rw [z] at q; cases q
          · have f1 := (hok b _ z).1
            have f2 := (ok2 b _ (un.frzs b ob _ z)).1
            rw [f1] at e
            rw [f2, e]
      | next => exact z.elim
      | brk => exact z.elim
      | cont => exact z.elim
  by_cases hk : K.lookup a = none
  · have sq : SqL K (fun b => if b = a then some (.frz { cls := .type "list", data := .seq us.toArray } (.lst (ns.map V.int))) else none) a (ns.map V.int) := .inl (.inr ⟨_, if_pos rfl⟩)
    refine main _ (fun b => ?_) sq (fun b u q => ?_) fun b u q => ?_
    · by_cases e : b = a
      · exact .inr ⟨_, _, if_pos e⟩
      · exact .inl (if_neg e)
    · by_cases e : b = a
      · have q' := (if_pos e).symm.trans q
        cases q'
        rw [e]
        refine ⟨at_, ?_, us, _, vi, at_⟩
        simpa using hz
      · have q' := (if_neg e).symm.trans q
        cases q'
    · by_cases e : b = a
      · exact ⟨e, hk⟩
      · have q' := (if_neg e).symm.trans q
        cases q'
  · obtain ⟨o, ho⟩ := Option.ne_none_iff_exists'.mp hk
    have e := kin a o ho
    rw [at_] at e
    obtain rfl := Option.some.inj e
    refine main (fun _ => none) (fun _ => .inl rfl) (.inr ⟨_, us.toArray, _, ho, rfl, rfl, rfl, ?_, vi⟩) (fun b u q => nomatch q) fun b u q => nomatch q
    rw [List.size_toArray, hin.length]
    exact hz
theorem walk_M {l : PySem.W.OpenLaw} {k n f : Nat} {q : Program} {loose : List Str} {XP : (Str → Option Value) → Heap → Prop} {d : DefRec} {x : Str} {rs : List Rw} {r : Rw}
    (hn : l.most = some n) (hn2 : n ≤ sizeLine) (hdf : d.params.defaults = []) (hr : Room (2 * k + 2) callerA) (hG : (rs.take G.fn.length).map (·.y) = G.fn) (hA : (fn.take G.fn.length).all (fun d => d.at_.2.isNone) = true) (hU : G.fl.Nodup) (hC : Rws G rs fn) (hL : ∀ t ∈ G.lx, LowS G fn t)
    (hM : (G.mt.all fun t => decide (t.2.1 < rs.length)) = true) (hK : (G.mks.all fun t => decide (t.2 < rs.length)) = true) (hS : ∀ f ∈ G.sn, f < G.fn.length ∧ (rs.map (·.d))[f]? = some ⟨2, 2, .seq (.ret sameM) .nil⟩) (hO : ∀ t ∈ G.on, t.1 < G.fn.length ∧ (rs.map (·.d))[t.1]? = some ⟨1, 1, .seq (.retI t.2) .nil⟩) (hf : f < G.fn.length) (hx : rs[f]? = some r) (hps : r.ps = [x]) (hy : d.name = r.y)
    (law : ∀ ns : List Int, ns.length ≤ n → wC (rs.map (·.d)) k f [.rol (ns.map .int)] [] (fun d _ => d = .bl true) fun _ _ => False) :
    PySem.W.WalkO q loose XP (fun w h => ∃ K : PySem.W.Frag, K.In h ∧ obsR G fn K = valR G fn w) l.row.toRowW d [] (fun f vs => PySem.call f vs) := by
  refine Att.attach_call hn hdf fun w s₀ s₁ mg mb fa o pm cd doc adr us nums G0 Y0 ho hd0 hcd hmg0 hobj hints hlen hgens => ?_
  suffices hF : ∃ (K : PySem.W.Frag) (fd : FuncData) (sp : Sp), K.In s₁.heap ∧ (∀ (s : Shared) (u : Value), BindsTo s fd ⟨[u], []⟩ [(x, u)]) ∧ (∀ (H : Hp) (a : Addr) (ns : List Int), ns.length ≤ n → Only H → SqL K H a (ns.map V.int) → sp [.ref a] H (fun v _ => v = .bl true) fun _ _ _ => False) ∧
      ∀ base : Heap, K.In base → base.Ns mainGlobals mg → FnG l.prog w K mg base (CXe l.prog) (2 * k + 2) fa fd [x] sp by
    obtain ⟨K, fd, sp, KX, hb, hsp, hF⟩ := hF
    exact run_law KX G0.T.g G0.T.b G0.T.builtins G0.T.nolimit hgens hobj hints (Nat.le_trans hlen hn2) hr hF hb (fun H hO hS => hsp H adr nums hlen hO hS) fun H e s' ⟨w, a, B, H', cls, dd, _, _, _, _, _, _, _, z⟩ => z
  have N := G0.T.g
  have hmg := hmg0
  have Y := Y0
  clear hmg0 Y0 hobj hints hgens
  obtain ⟨K, KX, c⟩ := Y
  obtain ⟨nm, hw, W⟩ := wd_of KX N c hG hA hU hC.at_ hL (fun t ht => of_decide_eq_true (List.all_eq_true.mp hM t ht)) (fun t ht => of_decide_eq_true (List.all_eq_true.mp hK t ht)) hS hO
  have hgf : G.fn[f]? = some r.y := by rw [← hG, List.getElem?_map, List.getElem?_take, if_pos hf, hx]; rfl
  -- the law's own def
  obtain ⟨dd, hd, hrw, hb⟩ := hC.at_ f r hx
  obtain ⟨fd, F⟩ := saysR_def c f hd
  simp only [rwC, Bool.and_eq_true, decide_eq_true_eq, List.isEmpty_iff] at hrw
  obtain ⟨r1, r2, r3, r4, r5, r6, r7⟩ := hrw
  have cx := saysR_x c
  simp only [xfR, Bool.and_eq_true, List.all_eq_true] at cx
  have m := He.glo_ok KX N (cx.2.1 r.y (List.mem_of_getElem? hgf))
  have hn' := List.all_eq_true.mp hA dd (List.mem_of_getElem? (show (fn.take G.fn.length)[f]? = some dd by rw [List.getElem?_take, if_pos hf]; exact hd))
  have ea : He.fAd K dd.at_ = He.ga K r.y := by
    revert r1 hn'
    cases dd.at_ with
    | mk y o =>
      cases o with
      | none => intro z _; have := of_decide_eq_true z; subst this; rfl
      | some _ => intro _ z; cases z
  have F' : FunD K dd.name dd.qual dd.params dd.body dd.scope [] [] (He.ga K r.y) fd := by
    have := F
    unfold He.DefD.dvs He.DefD.kws at this
    rw [r5, r6, ea] at this
    exact this
  rw [hy] at hmg
  have e := hmg.symm.trans m
  cases e
  have b := FunD.bindsA (ps := r.ps) F' hb
  rw [hps] at b
  refine ⟨K, fd, spC K nm (wC (rs.map (·.d)) k) f, KX, fun s v => b s [v] rfl, fun H a ns hl hO hS => law_sp hO hS (law ns hl), fun base _ _ => ?_⟩
  have D : DOk K G (rs.map (·.d)) f (He.ga K r.y) fd r.ps := ⟨F'.bindsN hb, ⟨_, _, _, _, _, r.N, r.d, by rw [List.getElem?_map, hx]; rfl, F', C8.fnScope_by r2, r3, r4, r7⟩⟩
  rw [← hps]
  exact fn_cx (fn_lvl W hw k f _ fd r.ps D)
end
end Rf
namespace Rf
section
variable (C : CT)
@[simp] theorem wE_var (i : Nat) (s : Sa) (h : AH) (Q : QD) (E : EK) : wE C (.var i) s h Q E = (slot s i fun d => Q d h) := by simp only [wE]
@[simp] theorem wE_k (d : D) (s : Sa) (h : AH) (Q : QD) (E : EK) : wE C (.k d) s h Q E = (Q d h) := by simp only [wE]
@[simp] theorem wE_glb (u0 : Nat) (d : D) (s : Sa) (h : AH) (Q : QD) (E : EK) : wE C (.glb u0 d) s h Q E = (Q d h) := by simp only [wE]
@[simp] theorem wE_bin (op : Bop) (a : M) (b : M) (s : Sa) (h : AH) (Q : QD) (E : EK) : wE C (.bin op a b) s h Q E = (wE C a s h (fun x h1 => wE C b s h1 (fun y h2 => bopW op x y h2 Q) E) E) := by simp only [wE]
@[simp] theorem wE_neg (a : M) (s : Sa) (h : AH) (Q : QD) (E : EK) : wE C (.neg a) s h Q E = (wE C a s h (fun x h1 => intOf x fun i => Q (.int (-i)) h1) E) := by simp only [wE]
@[simp] theorem wE_cmp (op : Cop) (a : M) (b : M) (s : Sa) (h : AH) (Q : QD) (E : EK) : wE C (.cmp op a b) s h Q E = (wE C a s h (fun x h1 => wE C b s h1 (fun y h2 => cmpW op x y h2 fun b => Q (.bl b) h2) E) E) := by simp only [wE]
@[simp] theorem wE_ch (o1 : Cop) (o2 : Cop) (a : M) (b : M) (c : M) (s : Sa) (h : AH) (Q : QD) (E : EK) : wE C (.ch o1 o2 a b c) s h Q E = (wE C a s h (fun x h1 => wE C b s h1 (fun y h2 => cmpW o1 x y h2 fun k => if k = true then wE C c s h2 (fun z h3 => cmpW o2 y z h3 fun k' => Q (.bl k') h3) E else Q (.bl false) h2) E) E) := by simp only [wE]
@[simp] theorem wE_and (a : M) (b : M) (s : Sa) (h : AH) (Q : QD) (E : EK) : wE C (.and a b) s h Q E = (wE C a s h (fun x h1 => boolOf x fun t => if t = true then wE C b s h1 Q E else Q (.bl false) h1) E) := by simp only [wE]
@[simp] theorem wE_or (a : M) (b : M) (s : Sa) (h : AH) (Q : QD) (E : EK) : wE C (.or a b) s h Q E = (wE C a s h (fun x h1 => boolOf x fun t => if t = true then Q (.bl true) h1 else wE C b s h1 Q E) E) := by simp only [wE]
@[simp] theorem wE_not (a : M) (s : Sa) (h : AH) (Q : QD) (E : EK) : wE C (.not a) s h Q E = (wE C a s h (fun x h1 => boolOf x fun b => Q (.bl (!b)) h1) E) := by simp only [wE]
@[simp] theorem wE_ite (c : M) (a : M) (b : M) (s : Sa) (h : AH) (Q : QD) (E : EK) : wE C (.ite c a b) s h Q E = (wT C c s h (fun t h1 => if t = true then wE C a s h1 Q E else wE C b s h1 Q E) E) := by simp only [wE]
@[simp] theorem wE_tup (as : M) (s : Sa) (h : AH) (Q : QD) (E : EK) : wE C (.tup as) s h Q E = (wA C as s h (fun ds h1 => ds.length ≤ SZ ∧ Q (.tup ds) h1) E) := by simp only [wE]
@[simp] theorem wE_lst (as : M) (s : Sa) (h : AH) (Q : QD) (E : EK) : wE C (.lst as) s h Q E = (wA C as s h (fun ds h1 => ds.length ≤ SZ ∧ Q (.ref h1.length) (h1 ++ [.lst ds])) E) := by simp only [wE]
@[simp] theorem wE_idx (a : M) (i : M) (s : Sa) (h : AH) (Q : QD) (E : EK) : wE C (.idx a i) s h Q E = (wE C a s h (fun x h1 => wE C i s h1 (fun y h2 => idxW h2 x y fun d => Q d h2) E) E) := by simp only [wE]
@[simp] theorem wE_slc (a : M) (lo : M) (hi : M) (s : Sa) (h : AH) (Q : QD) (E : EK) : wE C (.slc a lo hi) s h Q E = (wE C a s h (fun x h1 => wO C lo s h1 (fun l h2 => wO C hi s h2 (fun u h3 => slcW h3 x l u Q) E) E) E) := by simp only [wE]
@[simp] theorem wE_slst (a : M) (st : M) (s : Sa) (h : AH) (Q : QD) (E : EK) : wE C (.slst a st) s h Q E = (wE C a s h (fun x h1 => wE C st s h1 (fun y h2 => intOf y fun k => slstW h2 x k Q) E) E) := by simp only [wE]
@[simp] theorem wE_call (f : Nat) (as : M) (s : Sa) (h : AH) (Q : QD) (E : EK) : wE C (.call f as) s h Q E = (wA C as s h (fun ds h1 => C f ds h1 Q fun x h' => E x s h') E) := by simp only [wE]
@[simp] theorem wE_bf (f : Bf) (as : M) (s : Sa) (h : AH) (Q : QD) (E : EK) : wE C (.bf f as) s h Q E = (wA C as s h (fun ds h1 => bfW h1 f ds Q) E) := by simp only [wE]
@[simp] theorem wE_bm (f : Bm) (o : M) (as : M) (s : Sa) (h : AH) (Q : QD) (E : EK) : wE C (.bm f o as) s h Q E = (wE C o s h (fun x h1 => bmT h1 f x ∧ wA C as s h1 (fun ds h2 => bmW h2 f x ds Q) E) E) := by simp only [wE]
@[simp] theorem wE_isi (t : Ty1) (a : M) (s : Sa) (h : AH) (Q : QD) (E : EK) : wE C (.isi t a) s h Q E = (wE C a s h (fun x h1 => ∃ b, isTyW h1 t x = some b ∧ Q (.bl b) h1) E) := by simp only [wE]
@[simp] theorem wE_lrng (a : M) (s : Sa) (h : AH) (Q : QD) (E : EK) : wE C (.lrng a) s h Q E = (wE C a s h (fun x h1 => intOf x fun n => (-(2 ^ 62) ≤ n ∧ n ≤ 2 ^ 24) ∧ Q (.ref h1.length) (h1 ++ [.lst ((List.range n.toNat).map fun (i : Nat) => .int (0 + (i : Int)))])) E) := by simp only [wE]
@[simp] theorem wE_dnew  (s : Sa) (h : AH) (Q : QD) (E : EK) : wE C (.dnew) s h Q E = (Q (.ref h.length) (h ++ [.dk []])) := by simp only [wE]
@[simp] theorem wE_tnew  (s : Sa) (h : AH) (Q : QD) (E : EK) : wE C (.tnew) s h Q E = (Q (.ref h.length) (h ++ [.dk []]) ∨ Q (.ref h.length) (h ++ [.dt []])) := by simp only [wE]
@[simp] theorem wE_tidx (a : M) (i : M) (s : Sa) (h : AH) (Q : QD) (E : EK) : wE C (.tidx a i) s h Q E = (wE C a s h (fun x h1 => wE C i s h1 (fun y h2 => tidxW h2 x y fun d => Q d h2) E) E) := by simp only [wE]
@[simp] theorem wE_kdx (u0 : Nat) (kvs : List (List Nat × D)) (e : M) (s : Sa) (h : AH) (Q : QD) (E : EK) : wE C (.kdx u0 kvs e) s h Q E = (wE C e s h (fun x h1 => ∃ w d, x = .str w ∧ kvs.lookup w = some d ∧ Q d h1) E) := by simp only [wE]
@[simp] theorem wE_kdg (u0 : Nat) (kvs : List (List Nat × D)) (e : M) (s : Sa) (h : AH) (Q : QD) (E : EK) : wE C (.kdg u0 kvs e) s h Q E = (wE C e s h (fun x h1 => ∃ w, x = .str w ∧ Q ((kvs.lookup w).getD .non) h1) E) := by simp only [wE]
@[simp] theorem wE_kdi (u0 : Nat) (kvs : List (List Nat × D)) (e : M) (s : Sa) (h : AH) (Q : QD) (E : EK) : wE C (.kdi u0 kvs e) s h Q E = (wE C e s h (fun x h1 => ∃ w, x = .str w ∧ Q (.bl (kvs.lookup w).isSome) h1) E) := by simp only [wE]
@[simp] theorem wE_ddisp (a : M) (b : M) (s : Sa) (h : AH) (Q : QD) (E : EK) : wE C (.ddisp a b) s h Q E = (wE C a s (h ++ [.dk []]) (fun x h1 => wE C b s h1 (fun y h2 => ∃ k, keyOf x = some k ∧ h2[h.length]? = some (.dk []) ∧ Q (.ref h.length) (h2.set h.length (.dk [(k, y)]))) E) E) := by simp only [wE]
@[simp] theorem wE_disp (r : M) (s : Sa) (h : AH) (Q : QD) (E : EK) : wE C (.disp r) s h Q E = (wD C r s (h ++ [.dk []]) (fun ps h1 => ∃ kvs, kvOf ps = some kvs ∧ ps.length ≤ 15 ∧ h1[h.length]? = some (.dk []) ∧ Q (.ref h.length) (h1.set h.length (.dk (mergeD [] kvs)))) E) := by simp only [wE]
@[simp] theorem wE_lvals (a : M) (s : Sa) (h : AH) (Q : QD) (E : EK) : wE C (.lvals a) s h Q E = (wE C a s h (fun x h1 => ∃ n kvs, x = .ref n ∧ h1[n]? = some (.dk kvs) ∧ Q (.ref h1.length) (h1 ++ [.lst (kvs.map (·.2))])) E) := by simp only [wE]
@[simp] theorem wE_attr (a : M) (f : Nat) (s : Sa) (h : AH) (Q : QD) (E : EK) : wE C (.attr a f) s h Q E = (wE C a s h (fun x h1 => instW h1 x fun _ _ fs => ∃ d, fs.lookup f = some d ∧ Q d h1) E) := by simp only [wE]
@[simp] theorem wE_meth (tb : List (Nat × Nat)) (o : M) (as : M) (s : Sa) (h : AH) (Q : QD) (E : EK) : wE C (.meth tb o as) s h Q E = (wE C o s h (fun x h1 => instW h1 x fun _ c _ => ∃ f, tb.lookup c = some f ∧ wA C as s h1 (fun ds h2 => C f (x :: ds) h2 Q fun x h' => E x s h') E) E) := by simp only [wE]
@[simp] theorem wE_make (c : Nat) (f : Nat) (as : M) (s : Sa) (h : AH) (Q : QD) (E : EK) : wE C (.make c f as) s h Q E = (wA C as s h (fun ds h1 => C f (.ref h1.length :: ds) (h1 ++ [.ins c []]) (fun v h2 => v = .non ∧ Q (.ref h1.length) h2) fun x h' => E x s h') E) := by simp only [wE]
@[simp] theorem wE_nset (a : M) (s : Sa) (h : AH) (Q : QD) (E : EK) : wE C (.nset a) s h Q E = (wE C a s h (fun x h1 => ∃ ks : List Kd, itemsOf h1 x = some (ks.map kD) ∧ ks.length ≤ 4000 ∧ Q (.int ((ddK ks).length : Int)) h1) E) := by simp only [wE]
@[simp] theorem wE_sset (a : M) (s : Sa) (h : AH) (Q : QD) (E : EK) : wE C (.sset a) s h Q E = (wE C a s h (fun x h1 => ssetW x h1 Q) E) := by simp only [wE]
@[simp] theorem wE_isx (sb : Sb) (c : Nat) (a : M) (s : Sa) (h : AH) (Q : QD) (E : EK) : wE C (.isx sb c a) s h Q E = (wE C a s h (fun x h1 => ∃ n xc b, x = .ref n ∧ h1[n]? = some (.exc xc) ∧ sbL sb xc c = some b ∧ Q (.bl b) h1) E) := by simp only [wE]
@[simp] theorem wE_isxv (sb : Sb) (a : M) (s : Sa) (h : AH) (Q : QD) (E : EK) : wE C (.isxv sb a) s h Q E = (wE C a s h (fun x h1 => ∃ n xc c b, x = .ref n ∧ h1[n]? = some (.exc xc) ∧ sbL sb xc c = some b ∧ Q (.bl true) h1) E) := by simp only [wE]
@[simp] theorem wE_lcK (e : M) (tg : Tg) (i : Nat) (c : M) (own : List Nat) (s : Sa) (h : AH) (Q : QD) (E : EK) : wE C (.lcK e tg i c own) s h Q E = (slot s i fun d => ∃ n kvs, d = .ref n ∧ getK h n = some kvs ∧ lcW (fun _ => True) tg (fun s1 h2 Q1 => wT C c s1 h2 Q1 noE) (fun s1 h2 Q1 => wE C e s1 h2 Q1 noE) (keysD kvs) [] (wipeA s own) (lockA h n) fun ds h3 => Q (.ref h3.length) (unlockA h n (h3 ++ [O.lst ds]))) := by simp only [wE]
@[simp] theorem wE_lc (e : M) (tg : Tg) (src : M) (c : M) (own : List Nat) (s : Sa) (h : AH) (Q : QD) (E : EK) : wE C (.lc e tg src c own) s h Q E = (wI C src s h (fun it h1 => lcW it.ck tg (fun s1 h2 Q1 => wT C c s1 h2 Q1 noE) (fun s1 h2 Q1 => wE C e s1 h2 Q1 noE) it.xs [] (wipeA s own) h1 fun ds h3 => Q (.ref h3.length) (h3 ++ [.lst ds])) E) := by simp only [wE]
@[simp] theorem wA_nil  (s : Sa) (h : AH) (Q : QL) (E : EK) : wA C (.nil) s h Q E = (Q [] h) := by simp only [wA]
@[simp] theorem wA_cons (a : M) (r : M) (s : Sa) (h : AH) (Q : QL) (E : EK) : wA C (.cons a r) s h Q E = (wE C a s h (fun x h1 => wA C r s h1 (fun xs h2 => Q (x :: xs) h2) E) E) := by simp only [wA]
@[simp] theorem wD_nil  (s : Sa) (h : AH) (Q : List (D × D) → AH → Prop) (E : EK) : wD C (.nil) s h Q E = (Q [] h) := by simp only [wD]
@[simp] theorem wD_kv (a : M) (b : M) (r : M) (s : Sa) (h : AH) (Q : List (D × D) → AH → Prop) (E : EK) : wD C (.kv a b r) s h Q E = (wE C a s h (fun x h1 => wE C b s h1 (fun y h2 => wD C r s h2 (fun ps h3 => Q ((x, y) :: ps) h3) E) E) E) := by simp only [wD]
@[simp] theorem wO_nil  (s : Sa) (h : AH) (Q : Option Int → AH → Prop) (E : EK) : wO C (.nil) s h Q E = (Q none h) := by simp only [wO]
@[simp] theorem wO_cons (a : M) (u1 : M) (s : Sa) (h : AH) (Q : Option Int → AH → Prop) (E : EK) : wO C (.cons a u1) s h Q E = (wE C a s h (fun x h1 => intOf x fun i => Q (some i) h1) E) := by simp only [wO]
@[simp] theorem wT_nil  (s : Sa) (h : AH) (Q : Bool → AH → Prop) (E : EK) : wT C (.nil) s h Q E = (Q true h) := by simp only [wT]
@[simp] theorem wT_not (a : M) (s : Sa) (h : AH) (Q : Bool → AH → Prop) (E : EK) : wT C (.not a) s h Q E = (wT C a s h (fun b h1 => Q (!b) h1) E) := by simp only [wT]
@[simp] theorem wT_and (a : M) (b : M) (s : Sa) (h : AH) (Q : Bool → AH → Prop) (E : EK) : wT C (.and a b) s h Q E = (wT C a s h (fun t h1 => if t = true then wT C b s h1 Q E else Q false h1) E) := by simp only [wT]
@[simp] theorem wT_or (a : M) (b : M) (s : Sa) (h : AH) (Q : Bool → AH → Prop) (E : EK) : wT C (.or a b) s h Q E = (wT C a s h (fun t h1 => if t = true then Q true h1 else wT C b s h1 Q E) E) := by simp only [wT]
@[simp] theorem wT_cmp (op : Cop) (a : M) (b : M) (s : Sa) (h : AH) (Q : Bool → AH → Prop) (E : EK) : wT C (.cmp op a b) s h Q E = (wE C a s h (fun x h1 => wE C b s h1 (fun y h2 => cmpW op x y h2 fun t => boolOf (.bl t) fun t => Q t h2) E) E) := by simp only [wT]
@[simp] theorem wT_ch (o1 : Cop) (o2 : Cop) (a : M) (b : M) (c : M) (s : Sa) (h : AH) (Q : Bool → AH → Prop) (E : EK) : wT C (.ch o1 o2 a b c) s h Q E = (wE C a s h (fun x h1 => wE C b s h1 (fun y h2 => cmpW o1 x y h2 fun k => if k = true then wE C c s h2 (fun z h3 => cmpW o2 y z h3 fun t => boolOf (.bl t) fun t => Q t h3) E else boolOf (.bl false) fun t => Q t h2) E) E) := by simp only [wT]
@[simp] theorem wT_kdi (u0 : Nat) (kvs : List (List Nat × D)) (e : M) (s : Sa) (h : AH) (Q : Bool → AH → Prop) (E : EK) : wT C (.kdi u0 kvs e) s h Q E = (wE C e s h (fun x h1 => ∃ w, x = .str w ∧ Q (kvs.lookup w).isSome h1) E) := by simp only [wT]
@[simp] theorem wT_tv (a : M) (s : Sa) (h : AH) (Q : Bool → AH → Prop) (E : EK) : wT C (.tv a) s h Q E = (wE C a s h (fun d h1 => truW h1 d fun b => Q b h1) E) := by simp only [wT]
@[simp] theorem wI_rng1 (a : M) (s : Sa) (h : AH) (Q : It → AH → Prop) (E : EK) : wI C (.rng1 a) s h Q E = (wE C a s h (fun x h1 => intOf x fun n => (-(2 ^ 62) ≤ n ∧ n < 2 ^ 62) ∧ Q ⟨(List.range n.toNat).map fun (i : Nat) => .int (0 + (i : Int)), fun _ => True⟩ h1) E) := by simp only [wI]
@[simp] theorem wI_rng2 (a : M) (b : M) (s : Sa) (h : AH) (Q : It → AH → Prop) (E : EK) : wI C (.rng2 a b) s h Q E = (wE C a s h (fun x h1 => wE C b s h1 (fun y h2 => intOf x fun i => intOf y fun j => (-(2 ^ 62) ≤ i ∧ i < 2 ^ 62 ∧ -(2 ^ 62) ≤ j ∧ j < 2 ^ 62) ∧ Q ⟨(List.range (j - i).toNat).map fun (k : Nat) => .int (i + (k : Int)), fun _ => True⟩ h2) E) E) := by simp only [wI]
@[simp] theorem wI_rng3 (a : M) (b : M) (c : M) (s : Sa) (h : AH) (Q : It → AH → Prop) (E : EK) : wI C (.rng3 a b c) s h Q E = (wE C a s h (fun x h1 => wE C b s h1 (fun y h2 => wE C c s h2 (fun z h3 => intOf x fun i => intOf y fun j => intOf z fun k => ∃ n : Nat, L2.RgC i j k n ∧ Q ⟨(List.range n).map fun (t : Nat) => .int (i + (t : Int) * k), fun _ => True⟩ h3) E) E) E) := by simp only [wI]
@[simp] theorem wI_enum (a : M) (s : Sa) (h : AH) (Q : It → AH → Prop) (E : EK) : wI C (.enum a) s h Q E = (wE C a s h (fun x h1 => seqW h1 x fun it => Q ⟨enumL it.xs, it.ck⟩ h1) E) := by simp only [wI]
@[simp] theorem wI_zip (a : M) (b : M) (s : Sa) (h : AH) (Q : It → AH → Prop) (E : EK) : wI C (.zip a b) s h Q E = (wE C a s h (fun x h1 => wE C b s h1 (fun y h2 => seqW h2 x fun i1 => seqW h2 y fun i2 => Q ⟨zipL i1.xs i2.xs, fun h' => i1.ck h' ∧ i2.ck h'⟩ h2) E) E) := by simp only [wI]
@[simp] theorem wI_itv (a : M) (s : Sa) (h : AH) (Q : It → AH → Prop) (E : EK) : wI C (.itv a) s h Q E = (wE C a s h (fun d h1 => itW h1 d fun it => Q it h1) E) := by simp only [wI]
@[simp] theorem wS_nil  (s : Sa) (h : AH) (Z : En) (E : EK) : wS C (.nil) s h Z E = (Z.nx s h) := by simp only [wS]
@[simp] theorem wS_seq (a : MS) (r : MS) (s : Sa) (h : AH) (Z : En) (E : EK) : wS C (.seq a r) s h Z E = (wS C a s h { nx := fun s' h' => wS C r s' h' Z E, rt := Z.rt, bk := Z.bk, ct := Z.ct } E) := by simp only [wS]
@[simp] theorem wS_set (i : Nat) (e : M) (s : Sa) (h : AH) (Z : En) (E : EK) : wS C (.set i e) s h Z E = (wE C e s h (fun d h1 => Z.nx (s.set i (some d)) h1) E) := by simp only [wS]
@[simp] theorem wS_setT (is : List Nat) (e : M) (s : Sa) (h : AH) (Z : En) (E : EK) : wS C (.setT is e) s h Z E = (wE C e s h (fun d h1 => tgW (.many is) d s fun s1 => Z.nx s1 h1) E) := by simp only [wS]
@[simp] theorem wS_setI (o : M) (i : M) (e : M) (s : Sa) (h : AH) (Z : En) (E : EK) : wS C (.setI o i e) s h Z E = (wE C e s h (fun v h1 => wE C o s h1 (fun x h2 => wE C i s h2 (fun y h3 => setIW h3 x y v fun h4 => Z.nx s h4) E) E) E) := by simp only [wS]
@[simp] theorem wS_tset (o : M) (i : M) (e : M) (s : Sa) (h : AH) (Z : En) (E : EK) : wS C (.tset o i e) s h Z E = (wE C e s h (fun v h1 => wE C o s h1 (fun x h2 => wE C i s h2 (fun y h3 => tsetW h3 x y v fun h4 => Z.nx s h4) E) E) E) := by simp only [wS]
@[simp] theorem wS_setA (o : M) (f : Nat) (e : M) (s : Sa) (h : AH) (Z : En) (E : EK) : wS C (.setA o f e) s h Z E = (wE C e s h (fun v h1 => wE C o s h1 (fun x h2 => instW h2 x fun n c fs => fs.length < 1000 ∧ Z.nx s (h2.set n (.ins c (putFd f v fs)))) E) E) := by simp only [wS]
@[simp] theorem wS_augA (o : M) (f : Nat) (op : Bop) (e : M) (s : Sa) (h : AH) (Z : En) (E : EK) : wS C (.augA o f op e) s h Z E = (wE C o s h (fun x h1 => instW h1 x fun n c fs => ∃ d, fs.lookup f = some d ∧ wE C e s h1 (fun y h2 => (∃ a b, d = .int a ∧ y = .int b) ∧ bopW op d y h2 fun z h3 => instW h3 (.ref n) fun _ c' fs' => c' = c ∧ fs'.length < 1000 ∧ Z.nx s (h3.set n (.ins c (putFd f z fs')))) E) E) := by simp only [wS]
@[simp] theorem wS_aug (i : Nat) (op : Bop) (e : M) (s : Sa) (h : AH) (Z : En) (E : EK) : wS C (.aug i op e) s h Z E = (slot s i fun x => wE C e s h (fun y h1 => (∃ a b, x = .int a ∧ y = .int b) ∧ bopW op x y h1 fun z h2 => Z.nx (s.set i (some z)) h2) E) := by simp only [wS]
@[simp] theorem wS_expr (e : M) (s : Sa) (h : AH) (Z : En) (E : EK) : wS C (.expr e) s h Z E = (wE C e s h (fun _ h1 => Z.nx s h1) E) := by simp only [wS]
@[simp] theorem wS_ret (e : M) (s : Sa) (h : AH) (Z : En) (E : EK) : wS C (.ret e) s h Z E = (wE C e s h Z.rt E) := by simp only [wS]
@[simp] theorem wS_ret0  (s : Sa) (h : AH) (Z : En) (E : EK) : wS C (.ret0) s h Z E = (Z.rt .non h) := by simp only [wS]
@[simp] theorem wS_cond (c : M) (a : MS) (b : MS) (s : Sa) (h : AH) (Z : En) (E : EK) : wS C (.cond c a b) s h Z E = (wT C c s h (fun t h1 => if t = true then wS C a s h1 Z E else wS C b s h1 Z E) E) := by simp only [wS]
@[simp] theorem wS_while_ (c : M) (b : MS) (s : Sa) (h : AH) (Z : En) (E : EK) : wS C (.while_ c b) s h Z E = (∃ n, whileW (wT C c) (wS C b) n s h Z E) := by simp only [wS]
@[simp] theorem wS_for_ (tg : Tg) (src : M) (b : MS) (s : Sa) (h : AH) (Z : En) (E : EK) : wS C (.for_ tg src b) s h Z E = (wI C src s h (fun it h1 => forW it.ck tg (wS C b) it.xs s h1 Z E) E) := by simp only [wS]
@[simp] theorem wS_forK (tg : Tg) (i : Nat) (b : MS) (s : Sa) (h : AH) (Z : En) (E : EK) : wS C (.forK tg i b) s h Z E = (slot s i fun d => ∃ n kvs, d = .ref n ∧ getK h n = some kvs ∧ forW (fun _ => True) tg (wS C b) (keysD kvs) s (lockA h n) { nx := fun s' h' => Z.nx s' (unlockA h n h'), rt := fun v h' => Z.rt v (unlockA h n h'), bk := fun _ _ => False, ct := fun _ _ => False } E) := by simp only [wS]
@[simp] theorem wS_pass_  (s : Sa) (h : AH) (Z : En) (E : EK) : wS C (.pass_) s h Z E = (Z.nx s h) := by simp only [wS]
@[simp] theorem wS_brk  (s : Sa) (h : AH) (Z : En) (E : EK) : wS C (.brk) s h Z E = (Z.bk s h) := by simp only [wS]
@[simp] theorem wS_cont  (s : Sa) (h : AH) (Z : En) (E : EK) : wS C (.cont) s h Z E = (Z.ct s h) := by simp only [wS]
@[simp] theorem wS_raise_ (c : Nat) (as : M) (s : Sa) (h : AH) (Z : En) (E : EK) : wS C (.raise_ c as) s h Z E = (wA C as s h (fun _ h1 => E ⟨c, []⟩ s h1) E) := by simp only [wS]
@[simp] theorem wS_raiseF (c : Nat) (f : Nat) (e : M) (s : Sa) (h : AH) (Z : En) (E : EK) : wS C (.raiseF c f e) s h Z E = (wE C e s h (fun d h1 => E ⟨c, [(f, d)]⟩ s h1) E) := by simp only [wS]
@[simp] theorem wS_tryK (b : MS) (sb : Sb) (c : Nat) (i : Nat) (j : Nat) (s : Sa) (h : AH) (Z : En) (E : EK) : wS C (.tryK b sb c i j) s h Z E = (wS C b s h Z fun x s' h' => tryKE sb c i j Z E x s' h') := by simp only [wS]
@[simp] theorem wS_tryX (b : MS) (sb : Sb) (c : Nat) (i : Nat) (hs : List (Nat × XE)) (s : Sa) (h : AH) (Z : En) (E : EK) : wS C (.tryX b sb c i hs) s h Z E = (wS C b s h Z fun x s' h' => tryE sb c i hs Z E x s' h') := by simp only [wS]
@[simp] theorem wS_tryR (b : MS) (sb : Sb) (c : Nat) (i : Nat) (w : List Nat) (f : Nat) (s : Sa) (h : AH) (Z : En) (E : EK) : wS C (.tryR b sb c i w f) s h Z E = (wS C b s h Z fun x s' h' => tryRE sb c i w f Z E x s' h') := by simp only [wS]
@[simp] theorem wS_tryN (b : MS) (sb : Sb) (c : Nat) (i : Nat) (g : XE) (f : Nat) (lc : List Nat) (fn : Nat) (j : Option Nat) (k : Int) (s : Sa) (h : AH) (Z : En) (E : EK) : wS C (.tryN b sb c i g f lc fn j k) s h Z E = (wS C b s h Z fun x s' h' => tryNE sb c i g f lc j k Z E x s' h') := by simp only [wS]
@[simp] theorem wS_try2 (b : MS) (sb : Sb) (i : Nat) (j : Nat) (fn : Nat) (cs : List Nat) (hs : List (Nat × List Nat × Nat)) (s : Sa) (h : AH) (Z : En) (E : EK) : wS C (.try2 b sb i j fn cs hs) s h Z E = (wS C b s h Z fun x s' h' => try2E sb i j cs Z E x s' h' hs) := by simp only [wS]
@[simp] theorem wS_retI (u0 : List Nat) (s : Sa) (h : AH) (Z : En) (E : EK) : wS C (.retI u0) s h Z E = (False) := by simp only [wS]
@[simp] theorem wS_never  (s : Sa) (h : AH) (Z : En) (E : EK) : wS C (.never) s h Z E = (False) := by simp only [wS]
@[simp] theorem wS_alt (a : MS) (b : MS) (s : Sa) (h : AH) (Z : En) (E : EK) : wS C (.alt a b) s h Z E = (wS C a s h Z E ∨ wS C b s h Z E) := by simp only [wS]
@[simp] theorem wS_setU (is : List Nat) (e : M) (s : Sa) (h : AH) (Z : En) (E : EK) : wS C (.setU is e) s h Z E = (wE C e s h (fun d h1 => ∃ n xs, d = .ref n ∧ h1[n]? = some (.lst xs) ∧ xs.length = is.length ∧ Z.nx (setAll s is xs) h1) E) := by simp only [wS]
end
def optK {α : Type} (o : Option α) (K : α → Prop) : Prop := ∃ a, o = some a ∧ K a
@[simp] theorem optK_some {α : Type} (a : α) (K : α → Prop) : optK (some a) K = K a := propext ⟨fun ⟨b, e, k⟩ => by cases e; exact k, fun k => ⟨a, rfl, k⟩⟩
def getL (h : AH) (n : Nat) : Option (List D) := match h[n]? with
  | some (.lst xs) => some xs
  | _ => none
theorem getL_iff {h : AH} {n : Nat} {xs : List D} : getL h n = some xs ↔ h[n]? = some (.lst xs) := by
  unfold getL
  split
  · rename_i ys e
    rw [e]
    constructor
    · intro z; cases z; rfl
    · intro z; cases z; rfl
  · rename_i e
    constructor
    · intro z; cases z
    · intro z; exact absurd z (e xs)
theorem getK_of_getW {h : AH} {n : Nat} {kvs : List (Kd × D)} (e : getW h n = some kvs) : getK h n = some kvs := by
  have := getW_iff.mp e
  unfold getK
  rw [this]
theorem getL_lt {h : AH} {n : Nat} {xs : List D} (e : getL h n = some xs) : n < h.length := (List.getElem?_eq_some_iff.mp (getL_iff.mp e)).1
@[simp] theorem getL_set_self {h : AH} {n : Nat} {xs : List D} (hl : n < h.length) : getL (h.set n (.lst xs)) n = some xs := getL_iff.mpr (by rw [List.getElem?_set_self hl])
theorem getL_set_ne {h : AH} {n m : Nat} {o : O} (hn : n ≠ m) : getL (h.set n o) m = getL h m := by unfold getL; rw [List.getElem?_set_ne hn]
theorem getL_app {h t : AH} {n : Nat} (hl : n < h.length) : getL (h ++ t) n = getL h n := by unfold getL; rw [List.getElem?_append_left hl]
@[simp] theorem getL_new_dk {h : AH} {xs : List (Kd × D)} : getL (h ++ [.dk xs]) h.length = none := by unfold getL; simp
@[simp] theorem getK_new {h : AH} {xs : List (Kd × D)} : getK (h ++ [.dk xs]) h.length = some xs := by unfold getK; simp
@[simp] theorem getW_new {h : AH} {xs : List (Kd × D)} : getW (h ++ [.dk xs]) h.length = some xs := by unfold getW; simp
@[simp] theorem getL_set_dk {h : AH} {n : Nat} {xs : List (Kd × D)} : getL (h.set n (.dk xs)) n = none := by
  unfold getL
  by_cases hl : n < h.length
  · rw [List.getElem?_set_self hl]
  · rw [List.getElem?_eq_none (by simpa using hl)]
@[simp] theorem getL_set_lk {h : AH} {n : Nat} {xs : List (Kd × D)} : getL (h.set n (.lk xs)) n = none := by
  unfold getL
  by_cases hl : n < h.length
  · rw [List.getElem?_set_self hl]
  · rw [List.getElem?_eq_none (by simpa using hl)]
@[simp] theorem getK_set_dk {h : AH} {n : Nat} {xs : List (Kd × D)} (hl : n < h.length) : getK (h.set n (.dk xs)) n = some xs := by unfold getK; rw [List.getElem?_set_self hl]
@[simp] theorem getK_set_lk {h : AH} {n : Nat} {xs : List (Kd × D)} (hl : n < h.length) : getK (h.set n (.lk xs)) n = some xs := by unfold getK; rw [List.getElem?_set_self hl]
@[simp] theorem getW_set_dk {h : AH} {n : Nat} {xs : List (Kd × D)} (hl : n < h.length) : getW (h.set n (.dk xs)) n = some xs := by unfold getW; rw [List.getElem?_set_self hl]
theorem getK_lt {h : AH} {n : Nat} {xs : List (Kd × D)} (e : getK h n = some xs) : n < h.length := by
  rcases getK_or e with q | q <;> exact (List.getElem?_eq_some_iff.mp q).1
theorem getW_lt {h : AH} {n : Nat} {xs : List (Kd × D)} (e : getW h n = some xs) : n < h.length := getK_lt (getK_of_getW e)
@[simp] theorem getL_new {h : AH} {xs : List D} : getL (h ++ [.lst xs]) h.length = some xs := getL_iff.mpr (by simp)
section
variable (h : AH) (Q : QD)
theorem ex_lst {n : Nat} {K : List D → Prop} : (∃ xs, h[n]? = some (.lst xs) ∧ K xs) = optK (getL h n) K := propext ⟨fun ⟨xs, e, k⟩ => ⟨xs, getL_iff.mpr e, k⟩, fun ⟨xs, e, k⟩ => ⟨xs, getL_iff.mp e, k⟩⟩
def oL {α β : Type} (o : Option α) (p : Option β) (F : α → Prop) (G : β → Prop) : Prop := match o with
  | some a => F a
  | none => optK p G
@[simp] theorem oL_some {α β : Type} (a : α) (p : Option β) (F : α → Prop) (G : β → Prop) : oL (some a) p F G = F a := rfl
@[simp] theorem oL_none {α β : Type} (p : Option β) (F : α → Prop) (G : β → Prop) : oL none p F G = optK p G := rfl
@[simp] theorem optK_none {α : Type} (K : α → Prop) : optK none K = False := by unfold optK; simp
theorem getL_of_getK {h : AH} {n : Nat} {kvs : List (Kd × D)} (e : getK h n = some kvs) : getL h n = none := by
  unfold getL
  rcases getK_or e with q | q <;> rw [q]
@[simp] theorem idxW_ref (n : Nat) (y : D) (K : D → Prop) : idxW h (.ref n) y K = oL (getL h n) (getK h n) (fun xs => intOf y fun i => optK (L2.atI xs i) K) fun kvs => optK (keyOf y) fun k => optK (valD kvs k) K := by
  have e : idxW h (.ref n) y K = (match getK h n with
    | some kvs => ∃ k d, keyOf y = some k ∧ valD kvs k = some d ∧ K d
    | none => ∃ xs i d, h[n]? = some (.lst xs) ∧ y = .int i ∧ L2.atI xs i = some d ∧ K d) := by cases y <;> rfl
  rw [e]
  cases hk : getK h n with
  | some kvs =>
    rw [getL_of_getK hk]
    simp only [oL_none, optK_some]
    exact propext ⟨fun ⟨k, d, a, b, c⟩ => ⟨k, a, d, b, c⟩, fun ⟨k, a, d, b, c⟩ => ⟨k, d, a, b, c⟩⟩
  | none =>
    cases hl : getL h n with
    | some xs =>
      apply propext
      constructor
      · rintro ⟨ys, i, d, a, rfl, b, c⟩
        have := getL_iff.mpr a
        rw [hl] at this
        cases this
        exact ⟨d, b, c⟩
      · intro z
        cases y <;> first | exact z.elim | skip
        obtain ⟨d, b, c⟩ := z
        exact ⟨xs, _, d, getL_iff.mp hl, rfl, b, c⟩
    | none =>
      simp only [oL_none, optK_none, eq_iff_iff, iff_false]
      rintro ⟨ys, i, d, a, _⟩
      have := getL_iff.mpr a
      rw [hl] at this
      cases this
@[simp] theorem idxW_tup (xs : List D) (i : Int) (K : D → Prop) : idxW h (.tup xs) (.int i) K = optK (L2.atI xs i) K := rfl
@[simp] theorem idxW_rol (xs : List D) (i : Int) (K : D → Prop) : idxW h (.rol xs) (.int i) K = optK (L2.atI xs i) K := rfl
@[simp] theorem idxW_str (xs : List Nat) (i : Int) (K : D → Prop) : idxW h (.str xs) (.int i) K = (xs.length ≤ SZ ∧ optK (L2.atI xs i) fun c => K (.str [c])) := rfl
@[simp] theorem setIW_ref (n : Nat) (y v : D) (K : AH → Prop) : setIW h (.ref n) y v K = oL (getL h n) (getW h n) (fun xs => intOf y fun k => optK (L2.ixN xs.length k) fun j => K (h.set n (.lst (xs.set j v)))) fun kvs => optK (keyOf y) fun k => kvs.length < SZ ∧ K (h.set n (.dk (putD kvs k v))) := by
  unfold setIW getL getW
  simp only
  cases e : h[n]? with
  | none => simp
  | some o =>
    cases o with
    | lst xs =>
      apply propext
      constructor
      · rintro ⟨k, j, rfl, b, c⟩
        exact ⟨j, b, c⟩
      · intro z
        simp only [oL_some] at z
        cases y <;> first | exact z.elim | skip
        obtain ⟨j, b, c⟩ := z
        exact ⟨_, j, rfl, b, c⟩
    | dk kvs =>
      simp only [oL_none, optK_some]
      exact propext ⟨fun ⟨k, a, b⟩ => ⟨k, a, b⟩, fun ⟨k, a, b⟩ => ⟨k, a, b⟩⟩
    | _ => simp
@[simp] theorem bop_add (i j : Int) : bopW .add (.int i) (.int j) h Q = Q (.int (i + j)) h := rfl
@[simp] theorem bop_sub (i j : Int) : bopW .sub (.int i) (.int j) h Q = Q (.int (i - j)) h := rfl
@[simp] theorem bop_mul (i j : Int) : bopW .mul (.int i) (.int j) h Q = (((-(2 ^ 64) < i ∧ i < 2 ^ 64) ∨ (-(2 ^ 64) < j ∧ j < 2 ^ 64)) ∧ Q (.int (i * j)) h) := rfl
@[simp] theorem bop_fdiv (i j : Int) : bopW .fdiv (.int i) (.int j) h Q = (0 < j ∧ j.natAbs < 2 ^ 200 ∧ Q (.int (i / j)) h) := rfl
@[simp] theorem bop_mod (i j : Int) : bopW .mod (.int i) (.int j) h Q = (0 < j ∧ Q (.int (i % j)) h) := rfl
@[simp] theorem bop_pow (i j : Int) : bopW .pow (.int i) (.int j) h Q = ((0 ≤ j ∧ j ≤ 1000000 ∧ i.natAbs < 2 ^ 64) ∧ Q (.int (i ^ j.toNat)) h) := rfl
@[simp] theorem bop_str (a b : List Nat) : bopW .add (.str a) (.str b) h Q = (a.length + b.length ≤ SZ ∧ Q (.str (a ++ b)) h) := rfl
@[simp] theorem bop_lmul (a : Nat) (k : Int) : bopW .mul (.ref a) (.int k) h Q = optK (getL h a) fun xs => -(2 ^ 63) ≤ k ∧ k < 2 ^ 63 ∧ xs.length * k.toNat ≤ SZ ∧ Q (.ref h.length) (h ++ [.lst (List.replicate k.toNat xs).flatten]) := by
  rw [← ex_lst]
  rfl
@[simp] theorem bop_smul (a : List Nat) (j : Int) : bopW .mul (.str a) (.int j) h Q = (0 ≤ j ∧ j ≤ 1000 ∧ a.length ≤ 1000 ∧ Q (.str (List.replicate j.toNat a).flatten) h) := rfl
@[simp] theorem bop_tup (a b : List D) : bopW .add (.tup a) (.tup b) h Q = (a.length + b.length ≤ SZ ∧ Q (.tup (a ++ b)) h) := rfl
@[simp] theorem bop_lst (a b : Nat) : bopW .add (.ref a) (.ref b) h Q = optK (getL h a) fun xs => optK (getL h b) fun ys => xs.length + ys.length ≤ SZ ∧ Q (.ref h.length) (h ++ [.lst (xs ++ ys)]) := by
  rw [← ex_lst]
  exact propext ⟨fun ⟨xs, ys, e, e2, k⟩ => ⟨xs, e, ys, getL_iff.mpr e2, k⟩, fun ⟨xs, e, ys, e2, k⟩ => ⟨xs, ys, e, getL_iff.mp e2, k⟩⟩
variable (K : Bool → Prop)
@[simp] theorem cmp_lt (i j : Int) : cmpW .lt (.int i) (.int j) h K = K (decide (i < j)) := rfl
@[simp] theorem cmp_le (i j : Int) : cmpW .le (.int i) (.int j) h K = K (decide (i ≤ j)) := rfl
@[simp] theorem cmp_gt (i j : Int) : cmpW .gt (.int i) (.int j) h K = K (decide (j < i)) := rfl
@[simp] theorem cmp_ge (i j : Int) : cmpW .ge (.int i) (.int j) h K = K (decide (j ≤ i)) := rfl
@[simp] theorem cmp_eq (x y : D) : cmpW .eq x y h K = eqW h x y K := by cases x <;> cases y <;> rfl
@[simp] theorem cmp_ne (x y : D) : cmpW .ne x y h K = eqW h x y fun b => K (!b) := by cases x <;> cases y <;> rfl
@[simp] theorem cmp_in (x y : D) : cmpW .isin x y h K = inW h x y K := by cases x <;> cases y <;> rfl
@[simp] theorem cmp_notin (x y : D) : cmpW .notin x y h K = inW h x y fun b => K (!b) := by cases x <;> cases y <;> rfl
@[simp] theorem cmp_eqd (x y : D) : cmpW .eqd x y h K = eqdW h x y K := by cases x <;> cases y <;> rfl
@[simp] theorem cmp_ned (x y : D) : cmpW .ned x y h K = eqdW h x y fun b => K (!b) := by cases x <;> cases y <;> rfl
@[simp] theorem cmp_ins (x y : D) : cmpW .ins x y h K = insW h x y K := by cases x <;> cases y <;> rfl
@[simp] theorem cmp_notins (x y : D) : cmpW .notins x y h K = insW h x y fun b => K (!b) := by cases x <;> cases y <;> rfl
@[simp] theorem cmp_tin (x y : D) : cmpW .tin x y h K = tinW h x y K := by cases x <;> cases y <;> rfl
@[simp] theorem cmp_eqe (x y : D) : cmpW .eqe x y h K = eqeW h x y K := by cases x <;> cases y <;> rfl
@[simp] theorem cmp_nee (x y : D) : cmpW .nee x y h K = eqeW h x y fun b => K (!b) := by cases x <;> cases y <;> rfl
@[simp] theorem cmp_eqx (x y : D) : cmpW .eqx x y h K = eqxW h x y K := by cases x <;> cases y <;> rfl
@[simp] theorem cmp_nex (x y : D) : cmpW .nex x y h K = eqxW h x y fun b => K (!b) := by cases x <;> cases y <;> rfl
@[simp] theorem cmp_ind (x y : D) : cmpW .ind x y h K = indW h x y K := by cases x <;> cases y <;> rfl
@[simp] theorem cmp_notind (x y : D) : cmpW .notind x y h K = indW h x y fun b => K (!b) := by cases x <;> cases y <;> rfl
@[simp] theorem cmp_tnotin (x y : D) : cmpW .tnotin x y h K = tinW h x y fun b => K (!b) := by cases x <;> cases y <;> rfl
@[simp] theorem cmp_isN (x : D) : cmpW .isN x .non h K = K x.isN := by cases x <;> rfl
@[simp] theorem cmp_notN (x : D) : cmpW .notN x .non h K = K (!x.isN) := by cases x <;> rfl
@[simp] theorem cmp_isNb (a b : Bool) : cmpW .isN (.bl a) (.bl b) h K = K (decide (a = b)) := rfl
@[simp] theorem cmp_notNb (a b : Bool) : cmpW .notN (.bl a) (.bl b) h K = K (!decide (a = b)) := rfl
end
@[simp] theorem isN_non : D.isN .non = true := rfl
@[simp] theorem isN_int (i : Int) : D.isN (.int i) = false := rfl
@[simp] theorem isN_str (i : List Nat) : D.isN (.str i) = false := rfl
@[simp] theorem isN_tup (i : List D) : D.isN (.tup i) = false := rfl
@[simp] theorem bool_bl (b : Bool) (K : Bool → Prop) : boolOf (.bl b) K = K b := rfl
@[simp] theorem int_int (b : Int) (K : Int → Prop) : intOf (.int b) K = K b := rfl
@[simp] theorem atI_0 {α : Type} (a : α) (l : List α) : L2.atI (a :: l) 0 = some a := by simp [L2.atI, L2.ixN]
theorem atI_nat {α : Type} (xs : List α) (n : Nat) : L2.atI xs (n : Int) = xs[n]? := by
  unfold L2.atI L2.ixN
  rw [if_pos (by omega)]
  by_cases h : n < xs.length
  · rw [if_pos (by omega)]; simp
  · rw [if_neg (by omega)]; simp [h]
@[simp] theorem atI_1 {α : Type} (xs : List α) : L2.atI xs 1 = xs[1]? := atI_nat xs 1
@[simp] theorem atI_2 {α : Type} (xs : List α) : L2.atI xs 2 = xs[2]? := atI_nat xs 2
@[simp] theorem atI_3 {α : Type} (xs : List α) : L2.atI xs 3 = xs[3]? := atI_nat xs 3
@[simp] theorem atI_4 {α : Type} (xs : List α) : L2.atI xs 4 = xs[4]? := atI_nat xs 4
@[simp] theorem atI_5 {α : Type} (xs : List α) : L2.atI xs 5 = xs[5]? := atI_nat xs 5
@[simp] theorem atI_6 {α : Type} (xs : List α) : L2.atI xs 6 = xs[6]? := atI_nat xs 6
@[simp] theorem atI_7 {α : Type} (xs : List α) : L2.atI xs 7 = xs[7]? := atI_nat xs 7
@[simp] theorem atI_8 {α : Type} (xs : List α) : L2.atI xs 8 = xs[8]? := atI_nat xs 8
@[simp] theorem atI_9 {α : Type} (xs : List α) : L2.atI xs 9 = xs[9]? := atI_nat xs 9
@[simp] theorem atI_10 {α : Type} (xs : List α) : L2.atI xs 10 = xs[10]? := atI_nat xs 10
@[simp] theorem atI_11 {α : Type} (xs : List α) : L2.atI xs 11 = xs[11]? := atI_nat xs 11
@[simp] theorem atI_12 {α : Type} (xs : List α) : L2.atI xs 12 = xs[12]? := atI_nat xs 12
@[simp] theorem slot_eq (s : Sa) (i : Nat) (K : D → Prop) : slot s i K = optK (s[i]?.join) K := by
  unfold slot
  cases e : s[i]? with
  | none => simp [optK]
  | some o => cases o <;> simp [optK]
@[simp] theorem tg_one (i : Nat) (d : D) (s : Sa) (K : Sa → Prop) : tgW (.one i) d s K = K (s.set i (some d)) := rfl
@[simp] theorem tg_many (is : List Nat) (ds : List D) (s : Sa) (K : Sa → Prop) : tgW (.many is) (.tup ds) s K = (ds.length = is.length ∧ K (setAll s is ds)) := rfl
@[simp] theorem tg_wmany (is : List Nat) (ds : List D) (s : Sa) (K : Sa → Prop) : tgW (.many is) (.wtup ds) s K = (ds.length = is.length ∧ K (setAll s is ds)) := rfl
@[simp] theorem setAll_cons (s : Sa) (i : Nat) (is : List Nat) (d : D) (ds : List D) : setAll s (i :: is) (d :: ds) = setAll (s.set i (some d)) is ds := rfl
@[simp] theorem setAll_nil (s : Sa) (ds : List D) : setAll s [] ds = s := by cases ds <;> rfl
@[simp] theorem wipeA_nil (s : Sa) : wipeA s [] = s := rfl
@[simp] theorem wipeA_cons (s : Sa) (v : Nat) (vs : List Nat) : wipeA s (v :: vs) = (wipeA s vs).set v none := rfl
@[simp] theorem tru_bl (h : AH) (b : Bool) (K : Bool → Prop) : truW h (.bl b) K = K b := rfl
theorem call_ok {P : Prg} {f n : Nat} {d : Rf.Def} {as : List D} {h : AH} {Q : QD} {E : EC} (hf : P[f]? = some d) (ha : as.length = d.np)
    (w : wS (wC P n) d.body (startA d as) h { nx := fun _ h' => Q .non h', rt := Q, bk := fun _ _ => False, ct := fun _ _ => False } fun x _ h' => E x h') : wC P (n + 1) f as h Q E := by
  simp only [wC, hf]
  exact ⟨ha, w⟩
theorem forW_ind {ck : AH → Prop} {tg : Tg} {body : Sa → AH → En → EK → Prop} {Z : En} {E : EK} (I : List D → Sa → AH → Prop) (hd : ∀ s h, I [] s h → ck h ∧ Z.nx s h)
    (step : ∀ x xs s h (K : Sa → AH → Prop), I (x :: xs) s h → (∀ s' h', I xs s' h' → K s' h') → ck h ∧ tgW tg x s fun s1 => body s1 h { nx := K, rt := Z.rt, bk := Z.nx, ct := K } E) :
    ∀ (xs : List D) (s : Sa) (h : AH), I xs s h → forW ck tg body xs s h Z E
  | [], s, h, i => hd s h i
  | x :: xs, s, h, i => step x xs s h _ i fun s' h' i' => forW_ind I hd step xs s' h' i'
theorem lcW_ind {ck : AH → Prop} {tg : Tg} {c : Sa → AH → (Bool → AH → Prop) → Prop} {e : Sa → AH → QD → Prop} {Q : QL} (I : List D → List D → Sa → AH → Prop) (hd : ∀ acc s h, I [] acc s h → ck h ∧ Q acc h)
    (step : ∀ x xs acc s h (K : List D → AH → Prop), I (x :: xs) acc s h → (∀ acc' h', I xs acc' s h' → K acc' h') → ck h ∧ tgW tg x s fun s1 => c s1 h fun b h1 => if b = true then e s1 h1 fun d h2 => acc.length < SZ ∧ K (acc ++ [d]) h2 else K acc h1) :
    ∀ (xs acc : List D) (s : Sa) (h : AH), I xs acc s h → lcW ck tg c e xs acc s h Q
  | [], acc, s, h, i => hd acc s h i
  | x :: xs, acc, s, h, i => step x xs acc s h (fun acc' h' => lcW ck tg c e xs acc' s h' Q) i fun acc' h' i' => lcW_ind I hd step xs acc' s h' i'
structure Keep (ps : List Nat) (h h' : AH) : Prop where
  len : h.length ≤ h'.length
  at_ : ∀ i, i < h.length → i ∉ ps → h'[i]? = h[i]?
theorem Keep.refl {ps : List Nat} {h : AH} : Keep ps h h := ⟨Nat.le_refl _, fun _ _ _ => rfl⟩
theorem Keep.trans {ps : List Nat} {a b c : AH} (x : Keep ps a b) (y : Keep ps b c) : Keep ps a c :=
  ⟨Nat.le_trans x.len y.len, fun i hi hp => (y.at_ i (Nat.lt_of_lt_of_le hi x.len) hp).trans (x.at_ i hi hp)⟩
theorem Keep.weak {ps qs : List Nat} {a b : AH} (x : Keep ps a b) (h : ∀ p ∈ ps, p ∈ qs) : Keep qs a b := ⟨x.len, fun i hi hq => x.at_ i hi fun z => hq (h i z)⟩
theorem Keep.app {ps : List Nat} {h t : AH} : Keep ps h (h ++ t) := ⟨by simp, fun i hi _ => List.getElem?_append_left hi⟩
theorem Keep.set {ps : List Nat} {h : AH} {p : Nat} {o : O} (hp : p ∈ ps) : Keep ps h (h.set p o) := ⟨by simp, fun i _ hi => List.getElem?_set_ne (fun e => hi (by rw [← e]; exact hp))⟩
theorem Keep.get {ps : List Nat} {h h' : AH} {i : Nat} {xs : List D} (x : Keep ps h h') (e : getL h i = some xs) (hp : i ∉ ps) : getL h' i = some xs := by
  have := x.at_ i (getL_lt e) hp
  unfold getL at e ⊢
  rw [this]
  exact e
theorem Keep.getK {ps : List Nat} {h h' : AH} {i : Nat} {xs : List (Kd × D)} (x : Keep ps h h') (e : getK h i = some xs) (hp : i ∉ ps) : getK h' i = some xs := by
  have := x.at_ i (getK_lt e) hp
  unfold Rf.getK at e ⊢
  rw [this]
  exact e
theorem Keep.getW {ps : List Nat} {h h' : AH} {i : Nat} {xs : List (Kd × D)} (x : Keep ps h h') (e : getW h i = some xs) (hp : i ∉ ps) : getW h' i = some xs := by
  have := x.at_ i (getW_lt e) hp
  unfold Rf.getW at e ⊢
  rw [this]
  exact e
theorem Keep.new {h h' : AH} {ps qs : List Nat} (x : Keep ps h h') (hp : ∀ p ∈ ps, p ∉ qs → h.length ≤ p) : Keep qs h h' := ⟨x.len, fun i hi hq => x.at_ i hi fun z => absurd (hp i z hq) (Nat.not_le.mpr hi)⟩
def Purse (h : AH) (p : Nat) : Prop := ∃ a d c : Int, getL h p = some [.int a, .int d, .int c] ∧ 0 ≤ a ∧ a < 2147483587 ∧ 0 ≤ d
theorem Purse.lt {h : AH} {p : Nat} (x : Purse h p) : p < h.length := by
  obtain ⟨a, d, c, e, _⟩ := x
  exact getL_lt e
theorem Purse.keep {h h' : AH} {p : Nat} {ps : List Nat} (x : Purse h p) (k : Keep ps h h') (hp : p ∉ ps) : Purse h' p := by
  obtain ⟨a, d, c, e, r⟩ := x
  exact ⟨a, d, c, k.get e hp, r⟩
def bTake : MS := (.seq (.setI (.var 0) (.k (.int 2)) (.bin .add (.idx (.var 0) (.k (.int 2))) (.k (.int 1))))
    (.seq (.set 2 (.idx (.var 0) (.k (.int 0))))
    (.seq (.setI (.var 0) (.k (.int 0)) (.bin .mod (.bin .add (.bin .mul (.var 2) (.bin .add (.bin .mod (.var 2) (.k (.int 46337))) (.k (.int 30011)))) (.bin .mul (.k (.int 104729)) (.idx (.var 0) (.k (.int 2))))) (.k (.int 2147483587))))
    (.seq (.cond (.cmp .gt (.idx (.var 0) (.k (.int 1))) (.k (.int 0))) (.seq (.set 3 (.bin .mod (.idx (.var 0) (.k (.int 1))) (.var 1)))
    (.seq (.setI (.var 0) (.k (.int 1)) (.bin .fdiv (.idx (.var 0) (.k (.int 1))) (.var 1)))
    (.seq (.ret (.var 3))
    .nil))) .nil)
    (.seq (.ret (.bin .mod (.bin .fdiv (.idx (.var 0) (.k (.int 0))) (.k (.int 32))) (.var 1)))
    .nil)))))
theorem take_ok {P : Prg} {f n : Nat} (hf : P[f]? = some ⟨2, 4, bTake⟩) {p : Nat} {m : Int} {h : AH} {Q : QD} {E : EC} (hp : Purse h p) (hm : 0 < m) (hm2 : m < 2 ^ 199)
    (k : ∀ (t : Int) h', 0 ≤ t → t < m → Purse h' p → Keep [p] h h' → h'.length = h.length → Q (.int t) h') : wC P (n + 1) f [.ref p, .int m] h Q E := by
  refine call_ok hf rfl ?_
  obtain ⟨a, d, c, e, h1, h2, h3⟩ := hp
  have hl := getL_lt e
  simp [startA, bTake, e, hl, L2.ixN]
  have hn : m.natAbs < 2 ^ 200 := by omega
  have hr := Int.emod_nonneg (a * (a % 46337 + 30011) + 104729 * (c + 1)) (show (2147483587 : Int) ≠ 0 by decide)
  have hr2 := Int.emod_lt_of_pos (a * (a % 46337 + 30011) + 104729 * (c + 1)) (show (0 : Int) < 2147483587 by decide)
  refine ⟨.inl ⟨by omega, by omega⟩, ?_⟩
  split
  · refine ⟨hm, hn, k _ _ (Int.emod_nonneg _ (by omega)) (Int.emod_lt_of_pos _ hm) ⟨_, _, _, getL_set_self hl, hr, hr2, Int.ediv_nonneg h3 (by omega)⟩ (.set (by simp)) (by simp)⟩
  · exact ⟨hm, k _ _ (Int.emod_nonneg _ (by omega)) (Int.emod_lt_of_pos _ hm) ⟨_, _, _, getL_set_self hl, hr, hr2, h3⟩ (.set (by simp)) (by simp)⟩
end Rf
namespace Rf
def bPurse : MS := (.seq (.set 1 (.k (.int 0)))
    (.seq (.cond (.or (.cmp .lt (.var 0) (.k (.int 0))) (.cmp .ge (.var 0) (.bin .pow (.k (.int 10)) (.k (.int 18))))) (.seq (.set 1 (.bf .abs (.cons (.var 0) .nil)))
    .nil) .nil)
    (.seq (.ret (.lst (.cons (.bin .mod (.var 0) (.k (.int 2147483587))) (.cons (.var 1) (.cons (.k (.int 0)) .nil)))))
    .nil)))
@[simp] theorem bf_abs_int (h : AH) (i : Int) (Q : QD) : bfW h .abs [.int i] Q = Q (.int (if i < 0 then -i else i)) h := rfl
theorem purse_ok {P : Prg} {f n : Nat} (hf : P[f]? = some ⟨1, 2, bPurse⟩) {c : Int} {h : AH} {Q : QD} {E : EC}
    (k : ∀ h', Purse h' h.length → Keep [] h h' → h'.length = h.length + 1 → Q (.ref h.length) h') : wC P (n + 1) f [.int c] h Q E := by
  refine call_ok hf rfl ?_
  have hr := Int.emod_nonneg c (show (2147483587 : Int) ≠ 0 by decide)
  have hr2 := Int.emod_lt_of_pos c (show (0 : Int) < 2147483587 by decide)
  have fin : ∀ d : Int, 0 ≤ d → Q (.ref h.length) (h ++ [.lst [.int (c % 2147483587), .int d, .int 0]]) := fun d hd => k _ ⟨_, _, _, getL_new, hr, hr2, hd⟩ .app (by simp)
  simp [startA, bPurse, SZ]
  by_cases h1 : c < 0
  · simp [h1]
    exact fin _ (by omega)
  · by_cases h2 : 1000000000000000000 ≤ c
    · simp [h1, h2]
      exact fin _ (by omega)
    · simp [h1, h2]
      exact fin _ (by omega)
def bCell : MS := (.seq (.cond (.cmp .lt (.var 1) (.bf .len (.cons (.var 0) .nil))) (.seq (.ret (.idx (.var 0) (.var 1)))
    .nil) .nil)
    (.seq (.set 2 (.bin .mul (.bin .mul (.k (.int 39373)) (.bin .add (.var 1) (.k (.int 5)))) (.bin .add (.var 1) (.k (.int 5)))))
    (.seq (.for_ (.one 3) (.itv (.slc (.var 0) .nil (.cons (.k (.int 4)) .nil))) (.seq (.set 2 (.bin .mod (.bin .add (.bin .mul (.var 2) (.k (.int 16843))) (.var 3)) (.k (.int 2147483587))))
    .nil))
    (.seq (.ret (.var 2))
    .nil))))
@[simp] theorem dictOf_rol (h : AH) (xs : List D) : dictOf h (.rol xs) = none := rfl
@[simp] theorem dictOf_tup (h : AH) (xs : List D) : dictOf h (.tup xs) = none := rfl
@[simp] theorem dictOf_ref (h : AH) (n : Nat) : dictOf h (.ref n) = getK h n := rfl
@[simp] theorem len_rol (h : AH) (xs : List D) (Q : QD) : bfW h .len [.rol xs] Q = Q (.int xs.length) h := propext ⟨fun ⟨_, e, q⟩ => by cases e; exact q, fun q => ⟨_, rfl, q⟩⟩
@[simp] theorem len_tup (h : AH) (xs : List D) (Q : QD) : bfW h .len [.tup xs] Q = Q (.int xs.length) h := propext ⟨fun ⟨_, e, q⟩ => by cases e; exact q, fun q => ⟨_, rfl, q⟩⟩
@[simp] theorem len_str (h : AH) (xs : List Nat) (Q : QD) : bfW h .len [.str xs] Q = (xs.length ≤ SZ ∧ Q (.int xs.length) h) := rfl
theorem itemsOf_ref (h : AH) (n : Nat) : itemsOf h (.ref n) = getL h n := by unfold itemsOf getL; rfl
theorem oL_eq {h : AH} {n : Nat} {P : Prop} {F : List D → Prop} {G : List (Kd × D) → Prop} (e : P = (match getK h n with | some kvs => G kvs | none => ∃ xs, itemsOf h (.ref n) = some xs ∧ F xs)) : P = oL (getL h n) (getK h n) F G := by
  rw [e]
  cases hk : getK h n with
  | some kvs => rw [getL_of_getK hk]; simp
  | none =>
    rw [itemsOf_ref]
    cases hl : getL h n <;> simp
@[simp] theorem len_ref (h : AH) (n : Nat) (Q : QD) : bfW h .len [.ref n] Q = oL (getL h n) (getK h n) (fun xs => Q (.int xs.length) h) fun kvs => Q (.int kvs.length) h := oL_eq rfl
@[simp] theorem slc_tup (h : AH) (xs : List D) (lo hi : Option Int) (Q : QD) : slcW h (.tup xs) lo hi Q = Q (.tup (cut xs lo hi)) h := rfl
@[simp] theorem slc_str (h : AH) (xs : List Nat) (lo hi : Option Int) (Q : QD) : slcW h (.str xs) lo hi Q = (xs.length ≤ SZ ∧ Q (.str (cut xs lo hi)) h) := rfl
@[simp] theorem slc_rol (h : AH) (xs : List D) (lo hi : Option Int) (Q : QD) : slcW h (.rol xs) lo hi Q = Q (.ref h.length) (h ++ [.lst (cut xs lo hi)]) := rfl
@[simp] theorem slc_ref (h : AH) (n : Nat) (lo hi : Option Int) (Q : QD) : slcW h (.ref n) lo hi Q = optK (getL h n) fun xs => Q (.ref h.length) (h ++ [.lst (cut xs lo hi)]) := ex_lst h
@[simp] theorem itW_tup (h : AH) (xs : List D) (K : It → Prop) : itW h (.tup xs) K = K ⟨xs, fun _ => True⟩ := rfl
@[simp] theorem itW_rol (h : AH) (xs : List D) (K : It → Prop) : itW h (.rol xs) K = K ⟨xs, fun _ => True⟩ := rfl
@[simp] theorem itW_str (h : AH) (xs : List Nat) (K : It → Prop) : itW h (.str xs) K = K ⟨xs.map fun c => .str [c], fun _ => True⟩ := rfl
def getLk (h : AH) (n : Nat) : Option (List (Kd × D)) := match h[n]? with
  | some (.lk kvs) => some kvs
  | _ => none
theorem itL_eq {h : AH} {n : Nat} {P : Prop} {F : List D → Prop} {G : List (Kd × D) → Prop} (e : P = (match h[n]? with | some (.lst xs) => F xs | some (.lk kvs) => G kvs | _ => False)) : P = oL (getL h n) (getLk h n) F G := by
  rw [e]
  unfold getL getLk
  cases q : h[n]? with
  | none => simp
  | some o => cases o <;> simp
@[simp] theorem itW_ref (h : AH) (n : Nat) (K : It → Prop) : itW h (.ref n) K = oL (getL h n) (getLk h n) (fun xs => K ⟨xs, fun h' => getL h' n = some xs⟩) fun kvs => K ⟨keysD kvs, fun _ => True⟩ := by
  have e : ∀ xs, (fun h' : AH => getL h' n = some xs) = fun h' => h'[n]? = some (.lst xs) := fun xs => funext fun h' => propext getL_iff
  simp only [e]
  exact itL_eq rfl
theorem cut_mem {α : Type} {xs : List α} {lo hi : Option Int} {x : α} (h : x ∈ cut xs lo hi) : x ∈ xs := List.mem_of_mem_drop (List.mem_of_mem_take h)
theorem cell_ok {P : Prg} {f n : Nat} (hf : P[f]? = some ⟨2, 4, bCell⟩) {ns : List Int} {i : Nat} (hi : i < 2 ^ 60) {h : AH} {Q : QD} {E : EC}
    (k : ∀ (c : Int) h', Keep [] h h' → Q (.int c) h') : wC P (n + 1) f [.rol (ns.map .int), .int i] h Q E := by
  refine call_ok hf rfl ?_
  simp [startA, bCell]
  by_cases h1 : i < ns.length
  · simp [h1, atI_nat]
    exact k _ _ .refl
  · simp [h1]
    refine ⟨.inr (by omega), ?_⟩
    refine forW_ind (fun xs s h' => (∀ x ∈ xs, ∃ j : Int, x = .int j) ∧ Keep [] (h ++ [.lst (cut (ns.map D.int) none (some 4))]) h' ∧ ∃ (v : Int) (d : Option D), s = [some (.rol (ns.map .int)), some (.int i), some (.int v), d])
      (fun s h' ⟨_, kp, v, d, e⟩ => ⟨kp.get getL_new (by simp), ?_⟩) (fun x xs s h' K ⟨hx, kp, v, d, e⟩ hK => ⟨kp.get getL_new (by simp), ?_⟩) _ _ _ ⟨fun x hx => ?_, .refl, _, _, rfl⟩
    · subst e
      simp
      exact k _ _ (Keep.trans .app kp)
    · subst e
      obtain ⟨j, rfl⟩ := hx _ List.mem_cons_self
      simp
      exact hK _ _ ⟨fun y hy => hx y (List.mem_cons_of_mem _ hy), kp, _, _, rfl⟩
    · obtain ⟨j, _, e⟩ := List.mem_map.mp (cut_mem hx)
      exact ⟨j, e.symm⟩
end Rf
namespace Rf
def Word (w : List Nat) : Prop := 1 ≤ w.length ∧ w.length ≤ 6 ∧ ∀ c ∈ w, 97 ≤ c ∧ c ≤ 122
theorem Word.ok {w : List Nat} (h : Word w) : strOkL w = true := by
  unfold strOkL
  rw [List.all_eq_true]
  intro c hc
  have := h.2.2 c hc
  exact decide_eq_true (by omega)
theorem eqv_str (x y : List Nat) : D.eqv (.str x) (.str y) = decide (x = y) := rfl
theorem mem_str (w : List Nat) (us : List (List Nat)) : D.mem (.str w) (us.map .str) = decide (w ∈ us) := by
  unfold D.mem
  induction us with
  | nil => rfl
  | cons u us ih =>
    rw [List.map_cons, List.any_cons, ih, eqv_str]
    by_cases h : u = w
    · subst h; simp
    · simp [h, Ne.symm h]
theorem oks_str {n : Nat} {us : List (List Nat)} (h : ∀ u ∈ us, strOkL u = true) : D.oks n (us.map .str) = true := by
  induction us with
  | nil => rfl
  | cons u us ih =>
    simp only [List.map_cons, D.oks, Bool.and_eq_true]
    refine ⟨?_, ih fun v hv => h v (List.mem_cons_of_mem _ hv)⟩
    have := h u List.mem_cons_self
    cases n <;> exact this
theorem inW_eq (h : AH) (x : D) (n : Nat) (K : Bool → Prop) : inW h x (.ref n) K = (match getK h n with
    | some kvs => ∃ k, keyOf x = some k ∧ K (valD kvs k).isSome
    | none => ∃ ys, itemsOf h (.ref n) = some ys ∧ D.ok 60 x = true ∧ D.oks 59 ys = true ∧ K (D.mem x ys)) := by
  cases x with
  | str x => rcases x with _ | ⟨c, _ | ⟨d, r⟩⟩ <;> rfl
  | _ => rfl
theorem inW_ref (h : AH) (x : D) (n : Nat) (K : Bool → Prop) : inW h x (.ref n) K = oL (getL h n) (getK h n) (fun ys => D.ok 60 x = true ∧ D.oks 59 ys = true ∧ K (D.mem x ys)) fun kvs => optK (keyOf x) fun k => K (valD kvs k).isSome := by
  refine oL_eq (G := fun kvs => optK (keyOf x) fun k => K (valD kvs k).isSome) ((inW_eq h x n K).trans ?_)
  rfl
def abc : List Nat := [97, 98, 99, 100, 101, 102, 103, 104, 105, 106, 107, 108, 109, 110, 111, 112, 113, 114, 115, 116, 117, 118, 119, 120, 121, 122]
def lstM : List (List Nat) → M
  | [] => .nil
  | w :: ws => .cons (.k (.str w)) (lstM ws)
theorem cut_take {α : Type} (xs : List α) (k : Nat) : cut xs none (some (k : Int)) = xs.take k := by
  unfold cut
  rw [HT.sIx_nat]
  show (xs.drop 0).take (min k xs.length - 0) = _
  rw [List.drop_zero, Nat.sub_zero]
  by_cases h : k ≤ xs.length
  · rw [Nat.min_eq_left h]
  · rw [Nat.min_eq_right (by omega), List.take_length, List.take_of_length_le (by omega)]
theorem abc_mem {c : Nat} : c ∈ abc ↔ 97 ≤ c ∧ c ≤ 122 := by
  unfold abc
  simp only [List.mem_cons, List.not_mem_nil, or_false]
  omega
theorem free_letter {us : List (List Nat)} (hl : us.length < 26) (w : List Nat) : (abc.filter fun c => decide (c :: w ∉ us)) ≠ [] := by
  intro h
  rw [List.filter_eq_nil_iff] at h
  have h' : ∀ c ∈ abc, c :: w ∈ us := fun c hc => by simpa using h c hc
  have nd : (abc.map fun c => c :: w).Nodup := by
    exact List.Pairwise.map _ (fun a b hab e => hab (by cases e; rfl)) (by decide : abc.Nodup)
  have := List.Nodup.length_le_of_subset nd (l₂ := us) fun x hx => by
    obtain ⟨c, hc, rfl⟩ := List.mem_map.mp hx
    exact h' c hc
  simp [abc] at this
  omega
@[simp] theorem wA_lstM (C : CT) (ws : List (List Nat)) (s : Sa) (h : AH) (Q : QL) (E : EK) : wA C (lstM ws) s h Q E = Q (ws.map .str) h := by
  induction ws generalizing Q with
  | nil => simp [lstM]
  | cons w ws ih => simp [lstM, ih]
end Rf
namespace Rf
@[simp] theorem bmT_ref (h : AH) (f : Bm) (n : Nat) (hf : f ≠ .index ∧ f ≠ .get ∧ f ≠ .popk ∧ f ≠ .getT ∧ f ≠ .join ∧ f ≠ .split ∧ f ≠ .count ∧ f ≠ .upper := by decide) : bmT h f (.ref n) = ((getL h n).isSome = true) := by
  have e : bmT h f (.ref n) = ∃ xs, h[n]? = some (.lst xs) := by cases f <;> first | rfl | exact absurd rfl hf.1 | exact absurd rfl hf.2.1 | exact absurd rfl hf.2.2.1 | exact absurd rfl hf.2.2.2.1 | exact absurd rfl hf.2.2.2.2.1 | exact absurd rfl hf.2.2.2.2.2.1 | exact absurd rfl hf.2.2.2.2.2.2.1 | exact absurd rfl hf.2.2.2.2.2.2.2
  rw [e]
  apply propext
  rw [Option.isSome_iff_exists]
  exact ⟨fun ⟨xs, e⟩ => ⟨xs, getL_iff.mpr e⟩, fun ⟨xs, e⟩ => ⟨xs, getL_iff.mp e⟩⟩
@[simp] theorem bmw_append (h : AH) (n : Nat) (y : D) (Q : QD) : bmW h .append (.ref n) [y] Q = optK (getL h n) fun xs => xs.length < SZ ∧ Q .non (h.set n (.lst (xs ++ [y]))) := ex_lst h
structure WordsAt (h : AH) (q : Nat) (ws : List (List Nat)) : Prop where
  at_ : getL h q = some (ws.map .str)
  nd : ws.Nodup
  w : ∀ x ∈ ws, Word x
end Rf
namespace Rf
mutual
def D.pl : Nat → D → Bool
  | _, .non => true
  | _, .bl _ => true
  | _, .int _ => true
  | _, .str x => strOkL x
  | n, .tup xs => (match n with | 0 => false | n + 1 => decide (xs.length < 16777216) && D.pls n xs)
  | _, .rol _ => false
  | _, .wtup _ => false
  | _, .ref _ => false
def D.pls : Nat → List D → Bool
  | _, [] => true
  | n, x :: xs => D.pl n x && D.pls n xs
end
theorem pls_mem : ∀ {n : Nat} {xs : List D}, D.pls n xs = true ↔ ∀ x ∈ xs, D.pl n x = true
  | n, [] => by simp [D.pls]
  | n, x :: xs => by
    have := pls_mem (n := n) (xs := xs)
    simp [D.pls, this]
theorem oks_mem : ∀ {n : Nat} {xs : List D}, D.oks n xs = true ↔ ∀ x ∈ xs, D.ok n x = true
  | n, [] => by simp [D.oks]
  | n, x :: xs => by
    have := oks_mem (n := n) (xs := xs)
    simp [D.oks, this]
theorem pl_ok : ∀ {n m : Nat} {x : D}, n ≤ m → D.pl n x = true → D.ok m x = true
  | n, m, .non, _, _ => by cases m <;> rfl
  | n, m, .bl _, _, _ => by cases m <;> rfl
  | n, m, .int _, _, _ => by cases m <;> rfl
  | n, m, .str x, _, h => by cases n <;> cases m <;> exact h
  | 0, m, .tup xs, _, h => by simp [D.pl] at h
  | n + 1, 0, .tup xs, l, h => by omega
  | n + 1, m + 1, .tup xs, l, h => by
    simp only [D.pl, Bool.and_eq_true] at h
    simp only [D.ok]
    rw [oks_mem]
    rw [pls_mem] at h
    exact fun x hx => pl_ok (by omega) (h.2 x hx)
  | n, m, .rol _, _, h => by cases n <;> simp [D.pl] at h
  | n, m, .wtup _, _, h => by cases n <;> simp [D.pl] at h
  | n, m, .ref _, _, h => by cases n <;> simp [D.pl] at h
theorem pl_mono : ∀ {n m : Nat} {x : D}, n ≤ m → D.pl n x = true → D.pl m x = true
  | n, m, .non, _, _ => by cases m <;> rfl
  | n, m, .bl _, _, _ => by cases m <;> rfl
  | n, m, .int _, _, _ => by cases m <;> rfl
  | n, m, .str x, _, h => by cases n <;> cases m <;> exact h
  | 0, m, .tup xs, _, h => by simp [D.pl] at h
  | n + 1, 0, .tup xs, l, h => by omega
  | n + 1, m + 1, .tup xs, l, h => by
    simp only [D.pl, Bool.and_eq_true] at h ⊢
    rw [pls_mem] at h ⊢
    exact ⟨h.1, fun x hx => pl_mono (by omega) (h.2 x hx)⟩
  | n, m, .rol _, _, h => by cases n <;> simp [D.pl] at h
  | n, m, .wtup _, _, h => by cases n <;> simp [D.pl] at h
  | n, m, .ref _, _, h => by cases n <;> simp [D.pl] at h
theorem unl_pl {n : Nat} {x : D} (h : AH) (p : D.pl n x = true) : unl h x = x := by
  cases x <;> first | rfl | (cases n <;> simp [D.pl] at p)
theorem eqW_pl {n m : Nat} {x y : D} (h : AH) (K : Bool → Prop) (hn : n ≤ 60) (hm : m ≤ 60) (p : D.pl n x = true) (q : D.pl m y = true) : eqW h x y K = K (D.eqv x y) := by
  unfold eqW
  rw [unl_pl h p, unl_pl h q]
  exact propext ⟨fun z => z.2.2, fun z => ⟨pl_ok hn p, pl_ok hm q, z⟩⟩
theorem ok_int (n : Nat) (a : Int) : D.ok n (.int a) = true := by cases n <;> rfl
@[simp] theorem eqW_int (h : AH) (a b : Int) (K : Bool → Prop) : eqW h (.int a) (.int b) K = K (decide (a = b)) := by
  have e : D.eqv (.int a) (.int b) = decide (a = b) := by simp [D.eqv]; rfl
  unfold eqW
  exact propext ⟨fun z => by rw [← e]; exact z.2.2, fun z => ⟨ok_int 60 a, ok_int 60 b, by show K (D.eqv (.int a) (.int b)); rw [e]; exact z⟩⟩
@[simp] theorem eqW_str (h : AH) (a b : List Nat) (K : Bool → Prop) : eqW h (.str a) (.str b) K = (strOkL a = true ∧ strOkL b = true ∧ K (decide (a = b))) := rfl
theorem lstOf_ref (h : AH) (n : Nat) : lstOf h (.ref n) = getL h n := by unfold lstOf getL; rfl
@[simp] theorem all_ref (h : AH) (n : Nat) (Q : QD) : bfW h .all [.ref n] Q = ∃ bs : List Bool, getL h n = some (bs.map D.bl) ∧ Q (.bl (bs.all id)) h := by
  rw [← lstOf_ref]; rfl
@[simp] theorem any_ref (h : AH) (n : Nat) (Q : QD) : bfW h .any [.ref n] Q = ∃ bs : List Bool, getL h n = some (bs.map D.bl) ∧ Q (.bl (bs.any id)) h := by
  rw [← lstOf_ref]; rfl
@[simp] theorem seqW_tup (h : AH) (xs : List D) (K : It → Prop) : seqW h (.tup xs) K = K ⟨xs, fun _ => True⟩ := rfl
@[simp] theorem seqW_rol (h : AH) (xs : List D) (K : It → Prop) : seqW h (.rol xs) K = K ⟨xs, fun _ => True⟩ := rfl
@[simp] theorem seqW_ref (h : AH) (n : Nat) (K : It → Prop) : seqW h (.ref n) K = optK (getL h n) fun xs => K ⟨xs, fun h' => getL h' n = some xs⟩ := by
  have e : ∀ xs, (fun h' : AH => getL h' n = some xs) = fun h' => h'[n]? = some (.lst xs) := fun xs => funext fun h' => propext getL_iff
  simp only [e]
  unfold seqW getL
  simp only
  cases q : h[n]? with
  | none => simp
  | some o => cases o <;> simp
def bSame (sm : Nat) : MS := (.seq (.cond (.or (.tv (.isi .tuple (.var 0))) (.tv (.isi .tuple (.var 1)))) (.seq (.cond (.or (.not (.tv (.isi .tuple (.var 0)))) (.or (.not (.tv (.isi .tuple (.var 1)))) (.cmp .ne (.bf .len (.cons (.var 0) .nil)) (.bf .len (.cons (.var 1) .nil))))) (.seq (.ret (.k (.bl false)))
    .nil) .nil)
    (.seq (.ret (.bf .all (.cons (.lc (.call sm (.cons (.var 2) (.cons (.var 3) .nil))) (.many [2, 3]) (.zip (.var 0) (.var 1)) .nil [2, 3]) .nil)))
    .nil)) .nil)
    (.seq (.cond (.or (.tv (.isi .bool (.var 0))) (.tv (.isi .bool (.var 1)))) (.seq (.ret (.and (.isi .bool (.var 0)) (.and (.isi .bool (.var 1)) (.cmp .eq (.var 0) (.var 1)))))
    .nil) .nil)
    (.seq (.ret (.cmp .eq (.var 0) (.var 1)))
    .nil)))
@[simp] theorem isTyW_non (h : AH) (t : Ty1) : isTyW h t .non = D.isTy t .non := rfl
@[simp] theorem isTyW_bl (h : AH) (t : Ty1) (b : Bool) : isTyW h t (.bl b) = D.isTy t (.bl b) := rfl
@[simp] theorem isTyW_int (h : AH) (t : Ty1) (b : Int) : isTyW h t (.int b) = D.isTy t (.int b) := rfl
@[simp] theorem isTyW_str (h : AH) (t : Ty1) (b : List Nat) : isTyW h t (.str b) = D.isTy t (.str b) := rfl
@[simp] theorem isTyW_tup (h : AH) (t : Ty1) (b : List D) : isTyW h t (.tup b) = D.isTy t (.tup b) := rfl
@[simp] theorem isTy_tt (xs : List D) : D.isTy .tuple (.tup xs) = some true := rfl
@[simp] theorem isTy_tn : D.isTy .tuple .non = some false := rfl
@[simp] theorem isTy_tb (b : Bool) : D.isTy .tuple (.bl b) = some false := rfl
@[simp] theorem isTy_ti (b : Int) : D.isTy .tuple (.int b) = some false := rfl
@[simp] theorem isTy_ts (b : List Nat) : D.isTy .tuple (.str b) = some false := rfl
@[simp] theorem isTy_list_n : D.isTy .list .non = some false := rfl
@[simp] theorem isTy_list_b (b : Bool) : D.isTy .list (.bl b) = some false := rfl
@[simp] theorem isTy_list_i (b : Int) : D.isTy .list (.int b) = some false := rfl
@[simp] theorem isTy_list_s (b : List Nat) : D.isTy .list (.str b) = some false := rfl
@[simp] theorem isTy_list_t (b : List D) : D.isTy .list (.tup b) = some false := rfl
@[simp] theorem isTy_dict_n : D.isTy .dict .non = some false := rfl
@[simp] theorem isTy_dict_b (b : Bool) : D.isTy .dict (.bl b) = some false := rfl
@[simp] theorem isTy_dict_i (b : Int) : D.isTy .dict (.int b) = some false := rfl
@[simp] theorem isTy_dict_s (b : List Nat) : D.isTy .dict (.str b) = some false := rfl
@[simp] theorem isTy_dict_t (b : List D) : D.isTy .dict (.tup b) = some false := rfl
@[simp] theorem isTy_bt (xs : List D) : D.isTy .bool (.tup xs) = some false := rfl
@[simp] theorem isTy_bn : D.isTy .bool .non = some false := rfl
@[simp] theorem isTy_bb (b : Bool) : D.isTy .bool (.bl b) = some true := rfl
@[simp] theorem isTy_bi (b : Int) : D.isTy .bool (.int b) = some false := rfl
@[simp] theorem isTy_bs (b : List Nat) : D.isTy .bool (.str b) = some false := rfl
@[simp] theorem isTy_it (xs : List D) : D.isTy .int (.tup xs) = some false := rfl
@[simp] theorem isTy_in : D.isTy .int .non = some false := rfl
@[simp] theorem isTy_ib (b : Bool) : D.isTy .int (.bl b) = some true := rfl
@[simp] theorem isTy_ii (b : Int) : D.isTy .int (.int b) = some true := rfl
@[simp] theorem isTy_is (b : List Nat) : D.isTy .int (.str b) = some false := rfl
@[simp] theorem isTy_st (xs : List D) : D.isTy .str (.tup xs) = some false := rfl
@[simp] theorem isTy_sn : D.isTy .str .non = some false := rfl
@[simp] theorem isTy_sb (b : Bool) : D.isTy .str (.bl b) = some false := rfl
@[simp] theorem isTy_si (b : Int) : D.isTy .str (.int b) = some false := rfl
@[simp] theorem isTy_ss (b : List Nat) : D.isTy .str (.str b) = some true := rfl
@[simp] theorem eqxW_str (h : AH) (a b : List Nat) (K : Bool → Prop) : eqxW h (.str a) (.str b) K = K (decide (a = b)) := by
  have e : PySem.PyData.eqv (.str (mkS a)) (.str (mkS b)) = decide (a = b) := by simp [PySem.PyData.eqv, mkS_beq]
  refine propext ⟨fun ⟨x, ae, k⟩ => ?_, fun k => ⟨_, .inl ⟨_, _, rfl, rfl, rfl, rfl, rfl⟩, by rw [e]; exact k⟩⟩
  rcases ae with ⟨px, py, h1, h2, _, _, rfl⟩ | ⟨xs, ys, _, ⟨h1, _⟩ | ⟨_, _, h1, _⟩, _⟩ | ⟨_, _, h1, _⟩ | ⟨_, _, _, h1, _⟩ | ⟨_, _, h1, _⟩ | ⟨_, _, _, h1, _⟩
  · cases h1
    cases h2
    rwa [e] at k
  · cases h1
  · cases h1
  · cases h1
  · cases h1
  · cases h1
  · cases h1
theorem eqW_non (h : AH) (K : Bool → Prop) : eqW h .non .non K = K true := propext ⟨fun z => z.2.2, fun z => ⟨rfl, rfl, z⟩⟩
theorem eqW_bl (h : AH) (b : Bool) (K : Bool → Prop) : eqW h (.bl b) (.bl b) K = K true := by
  have e : D.eqv (.bl b) (.bl b) = true := by simp [D.eqv]
  exact propext ⟨fun z => by rw [← e]; exact z.2.2, fun z => ⟨rfl, rfl, by show K (D.eqv (.bl b) (.bl b)); rw [e]; exact z⟩⟩
theorem zipL_cons (x y : D) (xs ys : List D) : zipL (x :: xs) (y :: ys) = .wtup [x, y] :: zipL xs ys := rfl
theorem same_ok {P : Prg} {sm : Nat} (hf : P[sm]? = some ⟨2, 4, bSame sm⟩) : ∀ (n : Nat) {x : D} {h : AH} {Q : QD} {E : EC}, D.pl n x = true → (∀ h', Keep [] h h' → Q (.bl true) h') → wC P (n + 1) sm [x, x] h Q E
  | n, .non, h, Q, E, p, k => by
    refine call_ok hf rfl ?_
    simp [startA, bSame, eqW_non]
    exact k _ .refl
  | n, .bl b, h, Q, E, p, k => by
    refine call_ok hf rfl ?_
    simp [startA, bSame, eqW_bl]
    exact k _ .refl
  | n, .int b, h, Q, E, p, k => by
    refine call_ok hf rfl ?_
    simp [startA, bSame]
    exact k _ .refl
  | n, .str b, h, Q, E, p, k => by
    refine call_ok hf rfl ?_
    have : strOkL b = true := by cases n <;> exact p
    simp [startA, bSame, this]
    exact k _ .refl
  | 0, .tup xs, h, Q, E, p, k => by simp [D.pl] at p
  | n + 1, .tup xs, h, Q, E, p, k => by
    simp only [D.pl, Bool.and_eq_true, decide_eq_true_eq] at p
    obtain ⟨hz, p⟩ := p
    rw [pls_mem] at p
    refine call_ok hf rfl ?_
    simp [startA, bSame]
    refine lcW_ind (fun ys acc s h2 => ∃ (l : List D) (b : Nat), ys = zipL l l ∧ (∀ x ∈ l, D.pl n x = true) ∧ acc = (List.replicate b true).map D.bl ∧ b + l.length = xs.length ∧ s = [some (.tup xs), some (.tup xs), none, none] ∧ Keep [] h h2)
      (fun acc s h2 ⟨l, b, e1, e2, e3, e4, e5, e6⟩ => ⟨trivial, ?_⟩) (fun y ys acc s h2 K ⟨l, b, e1, e2, e3, e4, e5, e6⟩ hK => ⟨trivial, ?_⟩) _ _ _ _ ⟨xs, 0, rfl, p, rfl, by simp, rfl, .refl⟩
    · subst e3 e5
      simp
      refine ⟨List.replicate b true, by simp, ?_⟩
      have e : (List.replicate b true).all id = true := by rw [List.all_eq_true]; intro x hx; exact (List.mem_replicate.mp hx).2
      rw [e]
      exact k _ (e6.trans .app)
    · subst e5
      cases l with
      | nil => simp [zipL] at e1
      | cons x l =>
        rw [zipL_cons] at e1
        cases e1
        simp
        refine same_ok hf n (e2 x List.mem_cons_self) fun h3 kp => ?_
        refine ⟨?_, hK _ _ ⟨l, b + 1, rfl, fun z hz => e2 z (List.mem_cons_of_mem _ hz), ?_, ?_, rfl, e6.trans kp⟩⟩
        · rw [e3]; simp at e4 ⊢; show _ < 16777216; omega
        · rw [e3, List.replicate_succ']; simp
        · simp at e4 ⊢; omega
  | n, .rol _, _, _, _, h, _ => by cases n <;> simp [D.pl] at h
  | n, .wtup _, _, _, _, h, _ => by cases n <;> simp [D.pl] at h
  | n, .ref _, _, _, _, h, _ => by cases n <;> simp [D.pl] at h
end Rf
namespace Rf
theorem seq_step {C : CT} {a r : MS} {s : Sa} {h : AH} {Z : En} {E : EK} (H : ∀ K : Sa → AH → Prop, (∀ s' h', K s' h' = wS C r s' h' Z E) → wS C a s h { nx := K, rt := Z.rt, bk := Z.bk, ct := Z.ct } E) : wS C (.seq a r) s h Z E := by
  rw [wS_seq]
  exact H _ fun _ _ => rfl
theorem whileW_ind {c : Sa → AH → (Bool → AH → Prop) → EK → Prop} {body : Sa → AH → En → EK → Prop} {Z : En} {E : EK} (I : Nat → Sa → AH → Prop)
    (step : ∀ n s h (K : Sa → AH → Prop), I n s h → (∀ m s' h', m < n → I m s' h' → K s' h') → c s h (fun b h1 => if b = true then body s h1 { nx := K, rt := Z.rt, bk := Z.nx, ct := K } E else Z.nx s h1) E) :
    ∀ (N : Nat) (s : Sa) (h : AH), (∃ n, n < N ∧ I n s h) → whileW c body N s h Z E
  | 0, s, h, ⟨n, hn, _⟩ => absurd hn (Nat.not_lt_zero _)
  | N + 1, s, h, ⟨n, hn, i⟩ => step n s h (fun s' h' => whileW c body N s' h' Z E) i fun m s' h' hm i' => whileW_ind I step N s' h' ⟨m, by omega, i'⟩
theorem while_ok {C : CT} {c : M} {b : MS} {s : Sa} {h : AH} {Z : En} {E : EK} (I : Nat → Sa → AH → Prop)
    (step : ∀ n s h (K : Sa → AH → Prop), I n s h → (∀ m s' h', m < n → I m s' h' → K s' h') → wT C c s h (fun t h1 => if t = true then wS C b s h1 { nx := K, rt := Z.rt, bk := Z.nx, ct := K } E else Z.nx s h1) E)
    {n : Nat} (i : I n s h) : wS C (.while_ c b) s h Z E := by
  rw [wS_while_]
  exact ⟨n + 1, whileW_ind I step _ _ _ ⟨n, Nat.lt_succ_self _, i⟩⟩
@[simp] theorem slst_ref (h : AH) (n : Nat) (k : Int) (Q : QD) : slstW h (.ref n) k Q = ((k = 1 ∨ k = -1) ∧ optK (getL h n) fun xs => Q (.ref h.length) (h ++ [.lst (stepL xs k)])) := by
  rw [← ex_lst]; rfl
@[simp] theorem slst_tup (h : AH) (xs : List D) (k : Int) (Q : QD) : slstW h (.tup xs) k Q = ((k = 1 ∨ k = -1) ∧ Q (.tup (stepL xs k)) h) := rfl
@[simp] theorem slst_rol (h : AH) (xs : List D) (k : Int) (Q : QD) : slstW h (.rol xs) k Q = ((k = 1 ∨ k = -1) ∧ Q (.ref h.length) (h ++ [.lst (stepL xs k)])) := rfl
theorem bmw_remove (h : AH) (n : Nat) (w : List Nat) (Q : QD) : bmW h .remove (.ref n) [.str w] Q = ∃ (xs : List (List Nat)) (j : Nat), getL h n = some (xs.map .str) ∧ xs.findIdx? (fun z => decide (z = w)) = some j ∧ Q .non (h.set n (.lst ((xs.eraseIdx j).map .str))) := by
  apply propext
  constructor
  · rintro ⟨xs, j, e, e2, q⟩
    exact ⟨xs, j, getL_iff.mpr e, e2, q⟩
  · rintro ⟨xs, j, e, e2, q⟩
    exact ⟨xs, j, getL_iff.mp e, e2, q⟩
@[simp] theorem tru_ref (h : AH) (n : Nat) (K : Bool → Prop) : truW h (.ref n) K = oL (getL h n) (getW h n) (fun xs => K (!xs.isEmpty)) fun kvs => K (!kvs.isEmpty) := by
  unfold truW getL getW
  simp only
  cases q : h[n]? with
  | none => simp
  | some o => cases o <;> simp
theorem getL_new2 (h : AH) (a : O) (ys : List D) : getL (h ++ [a, .lst ys]) (h.length + 1) = some ys := getL_iff.mpr (by simp)
theorem inW_tup (h : AH) (x : D) (ys : List D) (K : Bool → Prop) : inW h x (.tup ys) K = (D.ok 60 x = true ∧ D.oks 59 ys = true ∧ K (D.mem x ys)) := by
  have e : inW h x (.tup ys) K = ∃ zs, itemsOf h (.tup ys) = some zs ∧ D.ok 60 x = true ∧ D.oks 59 zs = true ∧ K (D.mem x zs) := by
    cases x with
    | str x => rcases x with _ | ⟨c, _ | ⟨d, r⟩⟩ <;> rfl
    | _ => rfl
  rw [e]
  apply propext
  constructor
  · rintro ⟨zs, e1, q⟩
    cases e1
    exact q
  · exact fun q => ⟨ys, rfl, q⟩
@[simp] theorem eqW_bl2 (h : AH) (a b : Bool) (K : Bool → Prop) : eqW h (.bl a) (.bl b) K = K (a == b) := propext ⟨fun z => z.2.2, fun z => ⟨rfl, rfl, z⟩⟩
@[simp] theorem max2_int (h : AH) (i j : Int) (Q : QD) : bfW h .max2 [.int i, .int j] Q = Q (.int (if j > i then j else i)) h := rfl
@[simp] theorem min2_int (h : AH) (i j : Int) (Q : QD) : bfW h .min2 [.int i, .int j] Q = Q (.int (if j < i then j else i)) h := rfl
@[simp] theorem tuple_ref (h : AH) (n : Nat) (Q : QD) : bfW h .tuple [.ref n] Q = optK (getL h n) fun xs => Q (.tup xs) h := by
  rw [← itemsOf_ref]; rfl
@[simp] theorem tuple_tup (h : AH) (xs : List D) (Q : QD) : bfW h .tuple [.tup xs] Q = Q (.tup xs) h := propext ⟨fun ⟨_, e, q⟩ => by cases e; exact q, fun q => ⟨_, rfl, q⟩⟩
@[simp] theorem list_ref (h : AH) (n : Nat) (Q : QD) : bfW h .list [.ref n] Q = oL (getL h n) (getK h n) (fun xs => Q (.ref h.length) (h ++ [.lst xs])) fun kvs => getW h n = some kvs ∧ Q (.ref h.length) (h ++ [.lst (keysD kvs)]) := by
  have e : bfW h .list [.ref n] Q = (match getK h n with
    | some kvs => (∃ n', D.ref n = .ref n' ∧ getW h n' = some kvs) ∧ Q (.ref h.length) (h ++ [.lst (keysD kvs)])
    | none => ∃ xs, itemsOf h (.ref n) = some xs ∧ Q (.ref h.length) (h ++ [.lst xs])) := rfl
  rw [e]
  cases hk : getK h n with
  | some kvs =>
    rw [getL_of_getK hk]
    simp
  | none =>
    rw [itemsOf_ref]
    cases hl : getL h n <;> simp
@[simp] theorem list_tup (h : AH) (xs : List D) (Q : QD) : bfW h .list [.tup xs] Q = Q (.ref h.length) (h ++ [.lst xs]) := propext ⟨fun ⟨_, e, q⟩ => by cases e; exact q, fun q => ⟨_, rfl, q⟩⟩
@[simp] theorem list_str (h : AH) (w : List Nat) (Q : QD) : bfW h .list [.str w] Q = (w.length ≤ SZ ∧ Q (.ref h.length) (h ++ [.lst (w.map fun x => .str [x])])) := rfl
@[simp] theorem bf_int_bl (h : AH) (b : Bool) (Q : QD) : bfW h .int [.bl b] Q = Q (.int (if b then 1 else 0)) h := rfl
@[simp] theorem bf_int_int (h : AH) (b : Int) (Q : QD) : bfW h .int [.int b] Q = Q (.int b) h := rfl
def ixOf (fs gs cs : List Nat) (n : Nat) : Nat := if fs.contains n then fs.idxOf n else if gs.contains n then gs.idxOf n else cs.idxOf n
end Rf
namespace Lw
open PySem PySem.Spec PyProof.Rows L2 Rf
def if_kinds_of : Nat := 1
def if_elders_of : Nat := 2
def if_come_to : Nat := 3
def ic_NoKind : Nat := 4
def if_check_kind : Nat := 5
def if_above : Nat := 6
def if_beneath : Nat := 7
def if_l_cell : Nat := 8
def if_l_purse : Nat := 9
def if_l_take : Nat := 10
def if_l_word : Nat := 11
def if_l_names : Nat := 12
def if_l_some : Nat := 13
def if_l_all : Nat := 14
def if_l_family : Nat := 15
def if_l_closed : Nat := 16
def if_l_again : Nat := 17
def if_law : Nat := 20
def if_row_of : Nat := 21
def if_new_fields : Nat := 22
def if_l_merge : Nat := 24
def if_l_elders : Nat := 25
def if_l_own : Nat := 26
def if_l_table : Nat := 27
def if_l_same : Nat := 28
def if_l_due : Nat := 29
def if_l_called : Nat := 30
def if_next_kind : Nat := 39
def if_struck : Nat := 40
def if_merged : Nat := 41
def if_rows_by : Nat := 42
def if_order_by : Nat := 43
def if_all_orders : Nat := 44
def if_step_ahead : Nat := 45
def if_ring_in : Nat := 46
def if_quarrels : Nat := 47
def if_quarrel_of : Nat := 48
def if_order_of : Nat := 49
def ic_NoOrder : Nat := 50
def if_rows_for : Nat := 51
def if_l_orders : Nat := 52
def if_l_planted : Nat := 53
def if_l_words : Nat := 66
def if_l_keeps : Nat := 70
def if_l_order : Nat := 71
def if_l_kept : Nat := 72
def if_l_newly : Nat := 73
def if_l_moved : Nat := 75
def if_l_alone : Nat := 77
def ic_NoWarming : Nat := 105
def if_l_stranger : Nat := 157
def if_l_refused : Nat := 162
def if_is_shape : Nat := 189
def ic_NoShape : Nat := 190
def if_fields_at : Nat := 191
def if_child_of : Nat := 192
def ic_NoField : Nat := 193
def if_shape_by : Nat := 194
def if_l_other : Nat := 198
def if_l_asked : Nat := 199
def if_l_model : Nat := 200
def if_l_good : Nat := 201
def ic_NoLimit : Nat := 290
def ic_NoChange : Nat := 406
def ic_NoText : Nat := 407
def ic_RowError : Nat := 408
def s_above (c : Nat → Nat) : MS := (.seq (.expr (.call (c if_check_kind) (.cons (.var 0) (.cons (.var 1) .nil))))
    (.seq (.set 2 (.call (c if_come_to) (.cons (.var 0) (.cons (.var 1) .nil))))
    (.seq (.ret (.bf .tuple (.cons (.lc (.var 3) (.one 3) (.itv (.call (c if_kinds_of) (.cons (.var 0) .nil))) (.cmp .isin (.var 3) (.var 2)) [3]) .nil)))
    .nil)))
def s_all_orders (c : Nat → Nat) : MS := (.seq (.set 1 .dnew)
    (.seq (.for_ (.one 2) (.rng1 (.bf .len (.cons (.var 0) .nil))) (.seq (.for_ (.one 3) (.itv (.call (c if_kinds_of) (.cons (.var 0) .nil))) (.seq (.set 4 (.call (c if_elders_of) (.cons (.var 0) (.cons (.var 3) .nil))))
    (.seq (.cond (.and (.cmp .notin (.var 3) (.var 1)) (.tv (.bf .all (.cons (.lc (.cmp .isin (.var 5) (.var 1)) (.one 5) (.itv (.var 4)) .nil [5]) .nil)))) (.seq (.setI (.var 1) (.var 3) (.call (c if_order_by) (.cons (.var 1) (.cons (.var 3) (.cons (.var 4) .nil)))))
    .nil) .nil)
    .nil)))
    .nil))
    (.seq (.ret (.var 1))
    .nil)))
def s_beneath (c : Nat → Nat) : MS := (.seq (.expr (.call (c if_check_kind) (.cons (.var 0) (.cons (.var 1) .nil))))
    (.seq (.ret (.bf .tuple (.cons (.lc (.var 2) (.one 2) (.itv (.call (c if_kinds_of) (.cons (.var 0) .nil))) (.cmp .isin (.var 1) (.call (c if_come_to) (.cons (.var 0) (.cons (.var 2) .nil)))) [2]) .nil)))
    .nil))
def s_check_kind (c : Nat → Nat) : MS := (.seq (.cond (.or (.not (.tv (.isi .str (.var 1)))) (.cmp .notin (.var 1) (.call (c if_kinds_of) (.cons (.var 0) .nil)))) (.seq (.raise_ (c ic_NoKind) .nil)
    .nil) .nil)
    .nil)
def s_child_of (c : Nat → Nat) : MS := (.seq (.for_ (.many [4, 5]) (.enum (.var 0)) (.seq (.cond (.cmp .eq (.var 5) (.tup (.cons (.var 1) (.cons (.var 2) (.cons (.var 3) .nil))))) (.seq (.ret (.var 4))
    .nil) .nil)
    .nil))
    (.seq (.ret (.k .non))
    .nil))
def s_come_to (c : Nat → Nat) : MS := (.seq (.set 2 (.lst .nil))
    (.seq (.set 3 (.bf .list (.cons (.call (c if_elders_of) (.cons (.var 0) (.cons (.var 1) .nil))) .nil)))
    (.seq (.while_ (.cmp .ne (.var 3) (.lst .nil)) (.seq (.set 4 (.bm .pop (.var 3) .nil))
    (.seq (.cond (.cmp .notin (.var 4) (.var 2)) (.seq (.expr (.bm .append (.var 2) (.cons (.var 4) .nil)))
    (.seq (.expr (.bm .extend (.var 3) (.cons (.call (c if_elders_of) (.cons (.var 0) (.cons (.var 4) .nil))) .nil)))
    .nil)) .nil)
    .nil)))
    (.seq (.ret (.var 2))
    .nil))))
def s_elders_of (c : Nat → Nat) : MS := (.seq (.for_ (.one 2) (.itv (.var 0)) (.seq (.cond (.cmp .eq (.idx (.var 2) (.k (.int 0))) (.var 1)) (.seq (.ret (.idx (.var 2) (.k (.int 1))))
    .nil) .nil)
    .nil))
    (.seq (.ret (.tup .nil))
    .nil))
def s_fields_at (c : Nat → Nat) : MS := (.seq (.cond (.not (.tv (.call (c if_is_shape) (.cons (.var 0) (.cons (.var 1) .nil))))) (.seq (.raise_ (c ic_NoShape) .nil)
    .nil) .nil)
    (.seq (.set 2 (.lst .nil))
    (.seq (.while_ (.cmp .gt (.var 1) (.k (.int 0))) (.seq (.expr (.bm .append (.var 2) (.cons (.idx (.var 0) (.var 1)) .nil)))
    (.seq (.set 1 (.idx (.idx (.var 0) (.var 1)) (.k (.int 0))))
    .nil)))
    (.seq (.set 3 (.lst .nil))
    (.seq (.for_ (.one 4) (.itv (.slst (.var 2) (.neg (.k (.int 1))))) (.seq (.cond (.cmp .eq (.idx (.var 4) (.k (.int 1))) (.k (.str [112, 117, 116]))) (.seq (.expr (.bm .append (.var 3) (.cons (.idx (.var 4) (.k (.int 2))) .nil)))
    .nil) (.seq (.expr (.bm .remove (.var 3) (.cons (.idx (.var 4) (.k (.int 2))) .nil)))
    .nil))
    .nil))
    (.seq (.ret (.bf .tuple (.cons (.var 3) .nil)))
    .nil))))))
def s_is_shape (c : Nat → Nat) : MS := (.seq (.cond (.or (.not (.tv (.isi .int (.var 1)))) (.tv (.isi .bool (.var 1)))) (.seq (.ret (.k (.bl false)))
    .nil) .nil)
    (.seq (.ret (.ch .le .lt (.k (.int 0)) (.var 1) (.bf .len (.cons (.var 0) .nil))))
    .nil))
def s_kinds_of (c : Nat → Nat) : MS := (.seq (.ret (.lc (.idx (.var 1) (.k (.int 0))) (.one 1) (.itv (.var 0)) .nil [1]))
    .nil)
def s_l_again (c : Nat → Nat) : MS := (.seq (.set 2 (.lc (.idx (.var 5) (.k (.int 0))) (.one 5) (.itv (.var 1)) .nil [5]))
    (.seq (.set 3 (.lst .nil))
    (.seq (.for_ (.one 4) (.rng1 (.bf .len (.cons (.var 2) .nil))) (.seq (.expr (.bm .append (.var 3) (.cons (.tup (.cons (.idx (.var 2) (.var 4)) (.cons (.call (c if_l_some) (.cons (.var 0) (.cons (.slc (.var 2) .nil (.cons (.var 4) .nil)) (.cons (.k (.int 3)) .nil)))) .nil))) .nil)))
    .nil))
    (.seq (.ret (.bf .tuple (.cons (.slst (.var 3) (.bin .sub (.k (.int 1)) (.bin .mul (.k (.int 2)) (.call (c if_l_take) (.cons (.var 0) (.cons (.k (.int 2)) .nil)))))) .nil)))
    .nil))))
def s_l_all (c : Nat → Nat) : MS := (.seq (.set 3 (.bf .sorted (.cons (.lc (.tup (.cons (.call (c if_l_take) (.cons (.var 0) (.cons (.k (.int 997)) .nil))) (.cons (.var 4) .nil))) (.one 4) (.itv (.var 1)) .nil [4]) .nil)))
    (.seq (.cond (.or (.tv (.var 2)) (.cmp .eq (.call (c if_l_take) (.cons (.var 0) (.cons (.k (.int 3)) .nil))) (.k (.int 0)))) (.seq (.ret (.bf .tuple (.cons (.lc (.var 4) (.many [5, 4]) (.itv (.var 3)) .nil [5, 4]) .nil)))
    .nil) .nil)
    (.seq (.ret (.tup .nil))
    .nil)))
def s_l_alone (c : Nat → Nat) : MS := (.seq (.set 1 (.bf .tuple (.cons (.lc (.tup (.cons (.var 4) (.cons (.slc (.var 2) .nil (.cons (.k (.int 1)) .nil)) .nil))) (.many [4, 2]) (.itv (.var 0)) .nil [4, 2]) .nil)))
    (.seq (.set 2 (.bf .dnew (.cons (.var 1) .nil)))
    (.seq (.set 3 (.call (c if_l_orders) (.cons (.var 1) .nil)))
    (.seq (.forK (.one 4) 2 (.seq (.set 5 (.tup (.cons (.var 4) .nil)))
    (.seq (.for_ (.one 6) (.rng1 (.bf .len (.cons (.var 1) .nil))) (.seq (.set 5 (.bin .add (.var 5) (.idx (.var 2) (.idx (.var 5) (.neg (.k (.int 1)))))))
    (.seq (.cond (.cmp .eq (.idx (.var 2) (.idx (.var 5) (.neg (.k (.int 1))))) (.tup .nil)) (.seq .brk
    .nil) .nil)
    .nil)))
    (.seq (.cond (.cmp .ne (.idx (.var 3) (.var 4)) (.var 5)) (.seq (.ret (.k (.bl false)))
    .nil) .nil)
    .nil))))
    (.seq (.ret (.k (.bl true)))
    .nil)))))
def s_l_asked (c : Nat → Nat) : MS := (.seq (.cond (.cmp .eq (.var 0) (.k (.int 0))) (.seq (.ret (.call (c if_fields_at) (.cons (.var 1) (.cons (.var 2) .nil))))
    .nil) .nil)
    (.seq (.ret (.call (c if_shape_by) (.cons (.var 1) (.cons (.var 2) (.cons (.var 3) (.cons (.var 4) .nil))))))
    .nil))
def s_l_called (c : Nat → Nat) : MS := (.seq (.set 2 .dnew)
    (.seq (.for_ (.one 3) (.rng1 (.bf .len (.cons (.var 1) .nil))) (.seq (.setI (.var 2) (.idx (.idx (.var 0) (.var 3)) (.k (.int 0))) (.idx (.idx (.var 1) (.var 3)) (.k (.int 0))))
    .nil))
    (.seq (.set 4 (.lst .nil))
    (.seq (.for_ (.many [3, 5]) (.enum (.var 0)) (.seq (.set 6 (.bf .tuple (.cons (.lc (.idx (.var 2) (.var 8)) (.one 8) (.itv (.idx (.var 5) (.k (.int 1)))) .nil [8]) .nil)))
    (.seq (.set 7 (.bf .tuple (.cons (.lc (.idx (.var 2) (.var 8)) (.one 8) (.itv (.idx (.var 5) (.k (.int 2)))) .nil [8]) .nil)))
    (.seq (.expr (.bm .append (.var 4) (.cons (.tup (.cons (.idx (.var 2) (.idx (.var 5) (.k (.int 0)))) (.cons (.var 6) (.cons (.var 7) (.cons (.idx (.var 5) (.k (.int 3))) (.cons (.idx (.var 5) (.k (.int 4))) (.cons (.idx (.idx (.var 1) (.var 3)) (.k (.int 5))) .nil))))))) .nil)))
    .nil))))
    (.seq (.ret (.bf .tuple (.cons (.var 4) .nil)))
    .nil)))))
def s_l_cell (c : Nat → Nat) : MS := (.seq (.cond (.cmp .lt (.var 1) (.bf .len (.cons (.var 0) .nil))) (.seq (.ret (.idx (.var 0) (.var 1)))
    .nil) .nil)
    (.seq (.set 2 (.bin .mul (.bin .mul (.k (.int 39373)) (.bin .add (.var 1) (.k (.int 5)))) (.bin .add (.var 1) (.k (.int 5)))))
    (.seq (.for_ (.one 3) (.itv (.slc (.var 0) .nil (.cons (.k (.int 4)) .nil))) (.seq (.set 2 (.bin .mod (.bin .add (.bin .mul (.var 2) (.k (.int 16843))) (.var 3)) (.k (.int 2147483587))))
    .nil))
    (.seq (.ret (.var 2))
    .nil))))
def s_l_closed (c : Nat → Nat) : MS := (.seq (.set 1 .dnew)
    (.seq (.for_ (.many [3, 4]) (.itv (.var 0)) (.seq (.setI (.var 1) (.var 3) (.bf .list (.cons (.var 4) .nil)))
    .nil))
    (.seq (.for_ (.one 2) (.rng1 (.k (.int 3))) (.seq (.for_ (.one 3) (.itv (.bf .list (.cons (.var 1) .nil))) (.seq (.set 5 (.bin .add (.lc (.idx (.var 1) (.var 7)) (.one 7) (.itv (.idx (.var 1) (.var 3))) .nil [7]) (.lst (.cons (.idx (.var 1) (.var 3)) .nil))))
    (.seq (.setI (.var 1) (.var 3) (.lcK (.var 6) (.one 6) 1 (.tv (.bf .any (.cons (.lc (.cmp .isin (.var 6) (.var 8)) (.one 8) (.itv (.var 5)) .nil [8]) .nil))) [6]))
    .nil)))
    .nil))
    (.seq (.ret (.var 1))
    .nil))))
def s_l_due (c : Nat → Nat) : MS := (.seq (.set 2 (.lst .nil))
    (.seq (.for_ (.one 3) (.rng1 (.bf .len (.cons (.var 1) .nil))) (.seq (.for_ (.one 4) (.itv (.idx (.idx (.var 0) (.idx (.var 1) (.bin .sub (.bin .sub (.bf .len (.cons (.var 1) .nil)) (.k (.int 1))) (.var 3)))) (.k (.int 3)))) (.seq (.cond (.cmp .notin (.var 4) (.var 2)) (.seq (.expr (.bm .append (.var 2) (.cons (.var 4) .nil)))
    .nil) .nil)
    .nil))
    .nil))
    (.seq (.ret (.bf .tuple (.cons (.var 2) .nil)))
    .nil)))
def s_l_elders (c : Nat → Nat) : MS := (.seq (.set 4 (.call (c if_l_some) (.cons (.var 0) (.cons (.var 1) (.cons (.idx (.lst (.cons (.k (.int 4)) (.cons (.k (.int 4)) (.cons (.k (.int 4)) (.cons (.k (.int 14)) .nil))))) (.call (c if_l_take) (.cons (.var 0) (.cons (.k (.int 4)) .nil)))) .nil)))))
    (.seq (.cond (.cmp .lt (.var 2) (.k (.int 2))) (.seq (.set 4 (.bf .tuple (.cons (.slst (.slc (.var 1) (.cons (.bf .max2 (.cons (.k (.int 0)) (.cons (.bin .sub (.bin .sub (.bf .len (.cons (.var 1) .nil)) (.k (.int 1))) (.bin .mul (.k (.int 2)) (.var 2))) .nil))) .nil) .nil) (.bin .sub (.k (.int 1)) (.bin .mul (.k (.int 2)) (.call (c if_l_take) (.cons (.var 0) (.cons (.k (.int 2)) .nil)))))) .nil)))
    .nil) .nil)
    (.seq (.cond (.cmp .isN (.call (c if_l_merge) (.cons (.k (.str [])) (.cons (.bin .add (.lc (.idx (.var 3) (.var 5)) (.one 5) (.itv (.var 4)) .nil [5]) (.lst (.cons (.var 4) .nil))) .nil))) (.k .non)) (.seq (.ret (.slc (.var 4) .nil (.cons (.k (.int 1)) .nil)))
    .nil) .nil)
    (.seq (.ret (.var 4))
    .nil))))
def s_l_family (c : Nat → Nat) : MS := (.seq (.set 2 (.call (c if_l_take) (.cons (.var 0) (.cons (.k (.int 6)) .nil))))
    (.seq (.set 3 (.call (c if_l_names) (.cons (.var 0) (.cons (.bin .add (.k (.int 1)) (.call (c if_l_take) (.cons (.var 0) (.cons (.var 1) .nil)))) (.cons (.lst .nil) .nil)))))
    (.seq (.set 4 (.lst .nil))
    (.seq (.for_ (.many [6, 7]) (.enum (.var 3)) (.seq (.set 8 (.call (c if_l_some) (.cons (.var 0) (.cons (.slc (.var 3) .nil (.cons (.var 6) .nil)) (.cons (.k (.int 4)) .nil)))))
    (.seq (.cond (.cmp .eq (.var 2) (.k (.int 0))) (.seq (.set 8 (.bf .tuple (.cons (.slc (.var 3) (.cons (.bf .max2 (.cons (.k (.int 0)) (.cons (.bin .sub (.var 6) (.k (.int 1))) .nil))) .nil) (.cons (.var 6) .nil)) .nil)))
    .nil) .nil)
    (.seq (.cond (.cmp .eq (.var 2) (.k (.int 1))) (.seq (.set 8 (.bf .tuple (.cons (.slst (.slc (.var 3) (.cons (.bf .max2 (.cons (.k (.int 0)) (.cons (.bin .sub (.var 6) (.k (.int 3))) .nil))) .nil) (.cons (.var 6) .nil)) (.bin .sub (.k (.int 1)) (.bin .mul (.k (.int 2)) (.call (c if_l_take) (.cons (.var 0) (.cons (.k (.int 2)) .nil)))))) .nil)))
    .nil) .nil)
    (.seq (.cond (.cmp .eq (.var 2) (.k (.int 2))) (.seq (.set 8 (.call (c if_l_all) (.cons (.var 0) (.cons (.slc (.var 3) .nil (.cons (.var 6) .nil)) (.cons (.cmp .eq (.bin .add (.var 6) (.k (.int 1))) (.bf .len (.cons (.var 3) .nil))) .nil)))))
    .nil) .nil)
    (.seq (.expr (.bm .append (.var 4) (.cons (.tup (.cons (.var 7) (.cons (.var 8) .nil))) .nil)))
    .nil))))))
    (.seq (.set 5 (.bf .sorted (.cons (.lc (.tup (.cons (.call (c if_l_take) (.cons (.var 0) (.cons (.k (.int 997)) .nil))) (.cons (.var 6) .nil))) (.one 6) (.rng1 (.bf .len (.cons (.var 4) .nil))) .nil [6]) .nil)))
    (.seq (.ret (.bf .tuple (.cons (.lc (.idx (.var 4) (.var 6)) (.many [9, 6]) (.itv (.var 5)) .nil [9, 6]) .nil)))
    .nil))))))
def s_l_good (c : Nat → Nat) : MS := (.seq (.set 4 (.lst (.cons (.k (.str [112, 117, 116])) (.cons (.k (.str [100, 114, 111, 112])) .nil))))
    (.seq (.cond (.cmp .ne (.call (c if_l_refused) (.cons (.k (.int 1)) (.cons (.var 0) (.cons (.var 1) (.cons (.idx (.var 4) (.bin .sub (.k (.int 1)) (.bf .int (.cons (.var 2) .nil)))) (.cons (.var 3) .nil)))))) (.tup (.cons (.k (.str [102, 105, 101, 108, 100])) (.cons (.k (.bl false)) (.cons (.k (.bl false)) .nil))))) (.seq (.ret (.k (.bl false)))
    .nil) .nil)
    (.seq (.cond (.not (.tv (.var 2))) (.seq (.ret (.k (.bl true)))
    .nil) .nil)
    (.seq (.set 5 (.call (c if_shape_by) (.cons (.var 0) (.cons (.var 1) (.cons (.k (.str [100, 114, 111, 112])) (.cons (.var 3) .nil))))))
    (.seq (.set 6 (.call (c if_shape_by) (.cons (.idx (.var 5) (.k (.int 0))) (.cons (.idx (.var 5) (.k (.int 1))) (.cons (.k (.str [112, 117, 116])) (.cons (.var 3) .nil))))))
    (.seq (.ret (.call (c if_l_same) (.cons (.idx (.idx (.var 6) (.k (.int 0))) (.idx (.var 6) (.k (.int 1)))) (.cons (.tup (.cons (.idx (.var 5) (.k (.int 1))) (.cons (.k (.str [112, 117, 116])) (.cons (.var 3) .nil)))) .nil))))
    .nil))))))
def s_l_keeps (c : Nat → Nat) : MS := (.seq (.set 2 (.lc (.bm .index (.var 0) (.cons (.var 3) .nil)) (.one 3) (.itv (.var 1)) (.cmp .isin (.var 3) (.var 0)) [3]))
    (.seq (.ret (.and (.cmp .eq (.bf .len (.cons (.var 2) .nil)) (.bf .len (.cons (.var 1) .nil))) (.bf .all (.cons (.lc (.cmp .lt (.var 3) (.var 4)) (.many [3, 4]) (.zip (.var 2) (.slc (.var 2) (.cons (.k (.int 1)) .nil) .nil)) .nil [3, 4]) .nil))))
    .nil))
def s_l_kept (c : Nat → Nat) : MS := (.seq (.set 4 (.bf .dnew (.cons (.var 0) .nil)))
    (.seq (.set 5 (.idx (.var 2) (.var 3)))
    (.seq (.cond (.or (.cmp .ne (.slc (.var 5) .nil (.cons (.k (.int 1)) .nil)) (.tup (.cons (.var 3) .nil))) (.cmp .ne (.bf .sorted (.cons (.slc (.var 5) (.cons (.k (.int 1)) .nil) .nil) .nil)) (.bf .sorted (.cons (.idx (.var 1) (.var 3)) .nil)))) (.seq (.ret (.k (.bl false)))
    .nil) .nil)
    (.seq (.for_ (.one 6) (.itv (.bin .add (.tup (.cons (.var 3) .nil)) (.slc (.var 5) (.cons (.k (.int 1)) .nil) .nil))) (.seq (.cond (.or (.cmp .isN (.idx (.var 2) (.var 6)) (.k .non)) (.or (.not (.tv (.call (c if_l_keeps) (.cons (.var 5) (.cons (.idx (.var 2) (.var 6)) .nil))))) (.not (.tv (.call (c if_l_keeps) (.cons (.var 5) (.cons (.idx (.var 4) (.var 6)) .nil))))))) (.seq (.ret (.k (.bl false)))
    .nil) .nil)
    .nil))
    (.seq (.set 7 (.call (c if_rows_for) (.cons (.var 0) (.cons (.var 3) .nil))))
    (.seq (.cond (.cmp .ne (.var 7) (.bf .tuple (.cons (.bin .add (.lc (.idx (.var 2) (.var 6)) (.one 6) (.itv (.idx (.var 4) (.var 3))) .nil [6]) (.lst (.cons (.idx (.var 4) (.var 3)) .nil))) .nil))) (.seq (.ret (.k (.bl false)))
    .nil) .nil)
    (.seq (.ret (.bf .all (.cons (.lc (.call (c if_l_keeps) (.cons (.var 5) (.cons (.var 8) .nil))) (.one 8) (.itv (.var 7)) .nil [8]) .nil)))
    .nil)))))))
def s_l_merge (c : Nat → Nat) : MS := (.seq (.set 2 (.lst (.cons (.var 0) .nil)))
    (.seq (.set 1 (.lc (.bf .list (.cons (.var 4) .nil)) (.one 4) (.itv (.var 1)) (.cmp .gt (.bf .len (.cons (.var 4) .nil)) (.k (.int 0))) [4]))
    (.seq (.while_ (.cmp .ned (.var 1) (.lst .nil)) (.seq (.set 3 (.lc (.idx (.var 4) (.k (.int 0))) (.one 4) (.itv (.var 1)) (.not (.tv (.bf .any (.cons (.lc (.cmp .isin (.idx (.var 4) (.k (.int 0))) (.slc (.var 6) (.cons (.k (.int 1)) .nil) .nil)) (.one 6) (.itv (.var 1)) .nil [6]) .nil)))) [4]))
    (.seq (.cond (.cmp .eq (.var 3) (.lst .nil)) (.seq (.ret (.k .non))
    .nil) .nil)
    (.seq (.expr (.bm .append (.var 2) (.cons (.idx (.var 3) (.k (.int 0))) .nil)))
    (.seq (.set 1 (.lc (.lc (.var 5) (.one 5) (.itv (.var 4)) (.cmp .ne (.var 5) (.idx (.var 3) (.k (.int 0)))) [5]) (.one 4) (.itv (.var 1)) .nil [4]))
    (.seq (.set 1 (.lc (.var 4) (.one 4) (.itv (.var 1)) (.cmp .ne (.var 4) (.lst .nil)) [4]))
    .nil))))))
    (.seq (.ret (.bf .tuple (.cons (.var 2) .nil)))
    .nil))))
def s_l_model (c : Nat → Nat) : MS := (.seq (.setT [3, 4] (.tup (.cons (.lst (.cons (.tup .nil) .nil)) (.cons (.lst (.cons (.tup .nil) .nil)) .nil))))
    (.seq (.for_ (.one 2) (.rng1 (.call (c if_l_take) (.cons (.var 0) (.cons (.k (.int 13)) .nil)))) (.seq (.set 5 (.call (c if_l_take) (.cons (.var 0) (.cons (.bf .len (.cons (.var 3) .nil)) .nil))))
    (.seq (.set 6 (.idx (.var 1) (.call (c if_l_take) (.cons (.var 0) (.cons (.bf .len (.cons (.var 1) .nil)) .nil)))))
    (.seq (.set 7 (.idx (.lst (.cons (.k (.str [112, 117, 116])) (.cons (.k (.str [100, 114, 111, 112])) .nil))) (.bf .int (.cons (.cmp .isin (.var 6) (.idx (.var 4) (.var 5))) .nil))))
    (.seq (.cond (.cmp .notin (.tup (.cons (.var 5) (.cons (.var 7) (.cons (.var 6) .nil)))) (.var 3)) (.seq (.expr (.bm .append (.var 3) (.cons (.tup (.cons (.var 5) (.cons (.var 7) (.cons (.var 6) .nil)))) .nil)))
    (.seq (.cond (.cmp .eq (.var 7) (.k (.str [112, 117, 116]))) (.seq (.expr (.bm .append (.var 4) (.cons (.bin .add (.idx (.var 4) (.var 5)) (.tup (.cons (.var 6) .nil))) .nil)))
    .nil) (.seq (.expr (.bm .append (.var 4) (.cons (.bf .tuple (.cons (.lc (.var 8) (.one 8) (.itv (.idx (.var 4) (.var 5))) (.cmp .ne (.var 8) (.var 6)) [8]) .nil)) .nil)))
    .nil))
    .nil)) .nil)
    .nil)))))
    (.seq (.ret (.lst (.cons (.bf .tuple (.cons (.var 3) .nil)) (.cons (.var 4) .nil))))
    .nil)))
def s_l_moved (c : Nat → Nat) : MS := (.seq (.set 3 (.bf .sorted (.cons (.lc (.tup (.cons (.call (c if_l_take) (.cons (.var 0) (.cons (.k (.int 997)) .nil))) (.cons (.var 5) .nil))) (.one 5) (.rng1 (.bf .len (.cons (.var 1) .nil))) .nil [5]) .nil)))
    (.seq (.set 4 (.call (c if_l_orders) (.cons (.bf .tuple (.cons (.lc (.idx (.var 1) (.var 5)) (.many [7, 5]) (.itv (.var 3)) .nil [7, 5]) .nil)) .nil)))
    (.seq (.ret (.bf .all (.cons (.lcK (.cmp .eq (.idx (.var 4) (.var 6)) (.idx (.var 2) (.var 6))) (.one 6) 2 .nil [6]) .nil)))
    .nil)))
def s_l_names (c : Nat → Nat) : MS := (.seq (.set 3 (.call (c if_l_take) (.cons (.var 0) (.cons (.k (.int 4)) .nil))))
    (.seq (.set 4 (.call (c if_l_word) (.cons (.var 0) (.cons (.var 2) .nil))))
    (.seq (.set 5 (.call (c if_l_take) (.cons (.var 0) (.cons (.bf .len (.cons (.var 4) .nil)) .nil))))
    (.seq (.set 6 (.call (c if_l_take) (.cons (.var 0) (.cons (.k (.int 26)) .nil))))
    (.seq (.set 7 (.lst .nil))
    (.seq (.for_ (.one 8) (.rng1 (.var 1)) (.seq (.set 9 (.idx (.k (.str [97, 98, 99, 100, 101, 102, 103, 104, 105, 106, 107, 108, 109, 110, 111, 112, 113, 114, 115, 116, 117, 118, 119, 120, 121, 122])) (.bin .mod (.bin .add (.var 6) (.bin .mul (.k (.int 7)) (.var 8))) (.k (.int 26)))))
    (.seq (.set 10 (.bin .add (.bin .add (.slc (.var 4) .nil (.cons (.var 5) .nil)) (.var 9)) (.slc (.var 4) (.cons (.bin .add (.var 5) (.k (.int 1))) .nil) .nil)))
    (.seq (.cond (.cmp .eq (.var 3) (.k (.int 1))) (.seq (.set 10 (.slc (.bin .mul (.var 4) (.k (.int 6))) .nil (.cons (.bf .min2 (.cons (.k (.int 6)) (.cons (.bin .add (.var 8) (.k (.int 1))) .nil))) .nil)))
    .nil) .nil)
    (.seq (.cond (.or (.cmp .gt (.var 3) (.k (.int 1))) (.cmp .isin (.var 10) (.bin .add (.var 2) (.var 7)))) (.seq (.set 10 (.call (c if_l_word) (.cons (.var 0) (.cons (.bin .add (.var 2) (.var 7)) .nil))))
    .nil) .nil)
    (.seq (.expr (.bm .append (.var 7) (.cons (.var 10) .nil)))
    .nil))))))
    (.seq (.ret (.var 7))
    .nil)))))))
def s_l_newly (c : Nat → Nat) : MS := (.seq (.set 2 (.call (c if_l_take) (.cons (.var 0) (.cons (.k (.int 3)) .nil))))
    (.seq (.set 3 (.call (c if_l_words) (.cons (.var 0) (.cons (.bf .len (.cons (.var 1) .nil)) (.cons (.lst .nil) .nil)))))
    (.seq (.cond (.cmp .lt (.var 2) (.k (.int 2))) (.seq (.set 3 (.idx (.lst (.cons (.bin .add (.slc (.var 1) (.cons (.k (.int 1)) .nil) .nil) (.slc (.var 1) .nil (.cons (.k (.int 1)) .nil))) (.cons (.slst (.var 1) (.neg (.k (.int 1)))) .nil))) (.var 2)))
    .nil) .nil)
    (.seq (.set 4 .dnew)
    (.seq (.for_ (.many [5, 6]) (.zip (.var 1) (.var 3)) (.seq (.setI (.var 4) (.var 5) (.var 6))
    .nil))
    (.seq (.ret (.var 4))
    .nil))))))
def s_l_order (c : Nat → Nat) : MS := (.seq (.cond (.or (.not (.tv (.isi .tuple (.var 0)))) (.or (.cmp .ne (.bf .len (.cons (.var 0) .nil)) (.k (.int 2))) (.or (.cmp .ne (.idx (.var 0) (.k (.int 0))) (.k (.str [111, 114, 100, 101, 114]))) (.not (.tv (.isi .tuple (.idx (.var 0) (.k (.int 1))))))))) (.seq (.ret (.k .non))
    .nil) .nil)
    (.seq (.cond (.not (.tv (.bf .all (.cons (.lc (.isi .str (.var 1)) (.one 1) (.itv (.idx (.var 0) (.k (.int 1)))) .nil [1]) .nil)))) (.seq (.ret (.k .non))
    .nil) .nil)
    (.seq (.ret (.idx (.var 0) (.k (.int 1))))
    .nil)))
def s_l_orders (c : Nat → Nat) : MS := (.seq (.set 1 (.bf .dnew (.cons (.var 0) .nil)))
    (.seq (.set 2 .dnew)
    (.seq (.for_ (.one 3) (.rng1 (.bf .len (.cons (.var 0) .nil))) (.seq (.forK (.one 4) 1 (.seq (.cond (.and (.cmp .notin (.var 4) (.var 2)) (.tv (.bf .all (.cons (.lc (.cmp .isin (.var 6) (.var 2)) (.one 6) (.itv (.idx (.var 1) (.var 4))) .nil [6]) .nil)))) (.seq (.set 5 (.lc (.idx (.var 2) (.var 6)) (.one 6) (.itv (.idx (.var 1) (.var 4))) .nil [6]))
    (.seq (.setI (.var 2) (.var 4) (.k .non))
    (.seq (.cond (.cmp .notin (.k .non) (.var 5)) (.seq (.setI (.var 2) (.var 4) (.call (c if_l_merge) (.cons (.var 4) (.cons (.bin .add (.var 5) (.lst (.cons (.idx (.var 1) (.var 4)) .nil))) .nil))))
    .nil) .nil)
    .nil))) .nil)
    .nil))
    .nil))
    (.seq (.ret (.var 2))
    .nil))))
def s_l_orders_v1 (c : Nat → Nat) : MS := (.seq (.set 1 .dnew)
    (.seq (.for_ (.many [2, 3]) (.itv (.var 0)) (.seq (.set 4 (.call (c if_order_of) (.cons (.var 0) (.cons (.var 2) .nil))))
    (.seq (.setI (.var 1) (.var 2) (.k .non))
    (.seq (.cond (.and (.tv (.isi .tuple (.var 4))) (.and (.cmp .eq (.bf .len (.cons (.var 4) .nil)) (.k (.int 2))) (.and (.cmp .eq (.idx (.var 4) (.k (.int 0))) (.k (.str [111, 114, 100, 101, 114]))) (.tv (.isi .tuple (.idx (.var 4) (.k (.int 1)))))))) (.seq (.setI (.var 1) (.var 2) (.idx (.var 4) (.k (.int 1))))
    .nil) .nil)
    .nil))))
    (.seq (.ret (.var 1))
    .nil)))
def s_l_other_v1 (c : Nat → Nat) : MS := (.seq (.retI [(c ic_NoChange), (c ic_NoKind), (c ic_NoLimit), (c ic_NoOrder), (c ic_NoText), (c ic_NoWarming)]) .nil)
def s_l_own (c : Nat → Nat) : MS := (.seq (.set 2 (.bf .sorted (.cons (.call (c if_l_some) (.cons (.var 0) (.cons (.var 1) (.cons (.bf .len (.cons (.var 1) .nil)) .nil)))) .nil)))
    (.seq (.ret (.bf .tuple (.cons (.lc (.tup (.cons (.var 3) (.cons (.idx (.lst (.cons (.k (.int 1)) (.cons (.k (.int 99)) (.cons (.bin .add (.k (.int 1)) (.call (c if_l_take) (.cons (.var 0) (.cons (.k (.int 99)) .nil)))) .nil)))) (.call (c if_l_take) (.cons (.var 0) (.cons (.k (.int 3)) .nil)))) .nil))) (.one 3) (.itv (.var 2)) .nil [3]) .nil)))
    .nil))
def s_l_planted (c : Nat → Nat) : MS := (.seq (.cond (.cmp .lt (.var 1) (.k (.int 3))) (.seq (.ret (.call (c if_l_family) (.cons (.var 0) (.cons (.k (.int 7)) .nil))))
    .nil) .nil)
    (.seq (.set 2 (.call (c if_l_names) (.cons (.var 0) (.cons (.k (.int 7)) (.cons (.lst .nil) .nil)))))
    (.seq (.set 3 (.lst (.cons (.tup .nil) (.cons (.tup .nil) (.cons (.tup (.cons (.k (.int 0)) (.cons (.k (.int 1)) .nil))) (.cons (.tup (.cons (.k (.int 1)) (.cons (.k (.int 0)) .nil))) (.cons (.tup (.cons (.k (.int 2)) (.cons (.k (.int 3)) .nil))) (.cons (.tup (.cons (.k (.int 4)) .nil)) (.cons (.tup (.cons (.k (.int 5)) (.cons (.k (.int 2)) .nil))) .nil)))))))))
    (.seq (.set 4 (.bin .add (.k (.int 5)) (.call (c if_l_take) (.cons (.var 0) (.cons (.k (.int 3)) .nil)))))
    (.seq (.cond (.cmp .eq (.var 1) (.k (.int 4))) (.seq (.set 3 (.lst (.cons (.tup .nil) (.cons (.tup .nil) (.cons (.tup .nil) (.cons (.tup (.cons (.k (.int 0)) (.cons (.k (.int 1)) .nil))) (.cons (.tup (.cons (.k (.int 1)) (.cons (.k (.int 2)) .nil))) (.cons (.tup (.cons (.k (.int 3)) (.cons (.k (.int 4)) (.cons (.k (.int 2)) (.cons (.k (.int 0)) .nil))))) (.cons (.tup (.cons (.k (.int 5)) .nil)) .nil)))))))))
    (.seq (.set 4 (.bin .add (.k (.int 6)) (.call (c if_l_take) (.cons (.var 0) (.cons (.k (.int 2)) .nil)))))
    .nil)) .nil)
    (.seq (.set 5 (.bf .sorted (.cons (.lc (.tup (.cons (.call (c if_l_take) (.cons (.var 0) (.cons (.k (.int 997)) .nil))) (.cons (.var 6) .nil))) (.one 6) (.rng1 (.var 4)) .nil [6]) .nil)))
    (.seq (.ret (.bf .tuple (.cons (.lc (.tup (.cons (.idx (.var 2) (.var 6)) (.cons (.bf .tuple (.cons (.lc (.idx (.var 2) (.var 8)) (.one 8) (.itv (.idx (.var 3) (.var 6))) .nil [8]) .nil)) .nil))) (.many [7, 6]) (.itv (.var 5)) .nil [7, 6]) .nil)))
    .nil)))))))
def s_l_purse (c : Nat → Nat) : MS := (.seq (.set 1 (.k (.int 0)))
    (.seq (.cond (.or (.cmp .lt (.var 0) (.k (.int 0))) (.cmp .ge (.var 0) (.bin .pow (.k (.int 10)) (.k (.int 18))))) (.seq (.set 1 (.bf .abs (.cons (.var 0) .nil)))
    .nil) .nil)
    (.seq (.ret (.lst (.cons (.bin .mod (.var 0) (.k (.int 2147483587))) (.cons (.var 1) (.cons (.k (.int 0)) .nil)))))
    .nil)))
def s_l_refused_v5 (c : Nat → Nat) : MS := (.seq (.set 5 (.tup (.cons (.k (.str [116, 111, 108, 100])) .nil)))
    (.seq (.try2 (.seq (.expr (.call (c if_l_asked) (.cons (.var 0) (.cons (.var 1) (.cons (.var 2) (.cons (.var 3) (.cons (.var 4) .nil)))))))
    .nil) [((c ic_NoShape), (c ic_NoField), false), ((c ic_NoShape), (c ic_NoShape), true), ((c ic_NoShape), (c ic_RowError), true), ((c ic_NoShape), (c ic_NoChange), false), ((c ic_NoShape), (c ic_NoKind), false), ((c ic_NoShape), (c ic_NoLimit), false), ((c ic_NoShape), (c ic_NoOrder), false), ((c ic_NoShape), (c ic_NoText), false), ((c ic_NoShape), (c ic_NoWarming), false), ((c ic_NoField), (c ic_NoField), true), ((c ic_NoField), (c ic_NoShape), false), ((c ic_NoField), (c ic_RowError), true), ((c ic_NoField), (c ic_NoChange), false), ((c ic_NoField), (c ic_NoKind), false), ((c ic_NoField), (c ic_NoLimit), false), ((c ic_NoField), (c ic_NoOrder), false), ((c ic_NoField), (c ic_NoText), false), ((c ic_NoField), (c ic_NoWarming), false)] 6 5 (c if_l_other) [(c ic_NoChange), (c ic_NoKind), (c ic_NoLimit), (c ic_NoOrder), (c ic_NoText), (c ic_NoWarming)] [((c ic_NoField), [102, 105, 101, 108, 100], (c ic_NoShape)), ((c ic_NoShape), [115, 104, 97, 112, 101], (c ic_NoField))])
    (.seq (.set 7 (.k (.int 0)))
    (.seq (.tryX (.seq (.expr (.call (c if_l_asked) (.cons (.var 0) (.cons (.var 1) (.cons (.var 2) (.cons (.var 3) (.cons (.var 4) .nil)))))))
    .nil) [((c ic_NoShape), (c ic_NoField), false), ((c ic_NoShape), (c ic_NoShape), true), ((c ic_NoShape), (c ic_RowError), true), ((c ic_NoShape), (c ic_NoChange), false), ((c ic_NoShape), (c ic_NoKind), false), ((c ic_NoShape), (c ic_NoLimit), false), ((c ic_NoShape), (c ic_NoOrder), false), ((c ic_NoShape), (c ic_NoText), false), ((c ic_NoShape), (c ic_NoWarming), false), ((c ic_NoField), (c ic_NoField), true), ((c ic_NoField), (c ic_NoShape), false), ((c ic_NoField), (c ic_RowError), true), ((c ic_NoField), (c ic_NoChange), false), ((c ic_NoField), (c ic_NoKind), false), ((c ic_NoField), (c ic_NoLimit), false), ((c ic_NoField), (c ic_NoOrder), false), ((c ic_NoField), (c ic_NoText), false), ((c ic_NoField), (c ic_NoWarming), false)] (c ic_RowError) 6 [(7, (.intx .isv))])
    (.seq (.cond (.cmp .eq (.var 7) (.k (.int 1))) (.seq (.ret (.var 5))
    .nil) .nil)
    (.seq (.ret (.tup (.cons (.k (.str [116, 111, 108, 100])) .nil)))
    .nil))))))
def s_l_same (c : Nat → Nat) : MS := (.seq (.cond (.tv (.isi .tuple (.var 1))) (.seq (.cond (.or (.not (.tv (.isi .tuple (.var 0)))) (.cmp .ne (.bf .len (.cons (.var 0) .nil)) (.bf .len (.cons (.var 1) .nil)))) (.seq (.ret (.k (.bl false)))
    .nil) .nil)
    (.seq (.ret (.bf .all (.cons (.lc (.call (c if_l_same) (.cons (.idx (.var 0) (.var 2)) (.cons (.idx (.var 1) (.var 2)) .nil))) (.one 2) (.rng1 (.bf .len (.cons (.var 1) .nil))) .nil [2]) .nil)))
    .nil)) .nil)
    (.seq (.cond (.cmp .isN (.var 1) (.k .non)) (.seq (.ret (.cmp .isN (.var 0) (.k .non)))
    .nil) .nil)
    (.seq (.cond (.tv (.isi .str (.var 1))) (.seq (.ret (.and (.isi .str (.var 0)) (.cmp .eq (.var 0) (.var 1))))
    .nil) .nil)
    (.seq (.cond (.tv (.isi .bool (.var 1))) (.seq (.ret (.and (.isi .bool (.var 0)) (.cmp .eq (.var 0) (.var 1))))
    .nil) .nil)
    (.seq (.ret (.and (.isi .int (.var 0)) (.and (.not (.isi .bool (.var 0))) (.cmp .eq (.var 0) (.var 1)))))
    .nil)))))
def s_l_same_v2 (c : Nat → Nat) : MS := (.seq (.cond (.or (.tv (.isi .tuple (.var 0))) (.tv (.isi .tuple (.var 1)))) (.seq (.cond (.or (.not (.tv (.isi .tuple (.var 0)))) (.or (.not (.tv (.isi .tuple (.var 1)))) (.cmp .ne (.bf .len (.cons (.var 0) .nil)) (.bf .len (.cons (.var 1) .nil))))) (.seq (.ret (.k (.bl false)))
    .nil) .nil)
    (.seq (.ret (.bf .all (.cons (.lc (.call (c if_l_same) (.cons (.var 2) (.cons (.var 3) .nil))) (.many [2, 3]) (.zip (.var 0) (.var 1)) .nil [2, 3]) .nil)))
    .nil)) .nil)
    (.seq (.cond (.or (.tv (.isi .bool (.var 0))) (.tv (.isi .bool (.var 1)))) (.seq (.ret (.and (.isi .bool (.var 0)) (.and (.isi .bool (.var 1)) (.cmp .eq (.var 0) (.var 1)))))
    .nil) .nil)
    (.seq (.ret (.cmp .eq (.var 0) (.var 1)))
    .nil)))
def s_l_some (c : Nat → Nat) : MS := (.seq (.set 3 (.lst .nil))
    (.seq (.cond (.cmp .eq (.bf .len (.cons (.var 1) .nil)) (.k (.int 0))) (.seq (.ret (.tup .nil))
    .nil) .nil)
    (.seq (.for_ (.one 4) (.rng1 (.call (c if_l_take) (.cons (.var 0) (.cons (.bin .add (.var 2) (.k (.int 1))) .nil)))) (.seq (.set 5 (.idx (.var 1) (.call (c if_l_take) (.cons (.var 0) (.cons (.bf .len (.cons (.var 1) .nil)) .nil)))))
    (.seq (.cond (.cmp .notin (.var 5) (.var 3)) (.seq (.expr (.bm .append (.var 3) (.cons (.var 5) .nil)))
    .nil) .nil)
    .nil)))
    (.seq (.ret (.bf .tuple (.cons (.var 3) .nil)))
    .nil))))
def s_l_stranger_v1 (c : Nat → Nat) : MS := (.seq (.set 2 (.call (c if_l_take) (.cons (.var 0) (.cons (.k (.int 15)) .nil))))
    (.seq (.set 3 (.call (c if_l_take) (.cons (.var 0) (.cons (.bin .add (.var 1) (.k (.int 3))) .nil))))
    (.seq (.cond (.cmp .lt (.var 2) (.k (.int 3))) (.seq (.ret (.idx (.lst (.cons (.bin .sub (.bin .sub (.k (.int 0)) (.k (.int 1))) (.var 3)) (.cons (.bin .add (.var 1) (.var 3)) (.cons (.bin .sub (.bin .add (.var 1) (.bin .pow (.k (.int 10)) (.k (.int 30)))) (.call (c if_l_take) (.cons (.var 0) (.cons (.bin .pow (.k (.int 10)) (.k (.int 30))) .nil)))) .nil)))) (.var 2)))
    .nil) .nil)
    (.seq (.cond (.cmp .lt (.var 2) (.k (.int 7))) (.seq (.ret (.idx (.lst (.cons (.k (.bl true)) (.cons (.k (.bl false)) (.cons (.k .non) (.cons (.bf .str (.cons (.var 3) .nil)) .nil))))) (.bin .sub (.var 2) (.k (.int 3)))))
    .nil) .nil)
    (.seq (.ret (.idx (.lst (.cons (.tup .nil) (.cons (.tup (.cons (.var 3) .nil)) (.cons (.lst .nil) (.cons (.lst (.cons (.var 3) .nil)) (.cons .dnew (.cons (.ddisp (.k (.int 0)) (.var 3)) (.cons (.k (.str [97])) (.cons (.tup (.cons (.lst (.cons (.var 3) .nil)) .nil)) .nil))))))))) (.bin .sub (.var 2) (.k (.int 7)))))
    .nil)))))
def s_l_table (c : Nat → Nat) : MS := (.seq (.set 4 (.call (c if_l_take) (.cons (.var 0) (.cons (.k (.int 6)) .nil))))
    (.seq (.set 5 (.call (c if_l_names) (.cons (.var 0) (.cons (.var 1) (.cons (.lst .nil) .nil)))))
    (.seq (.setT [7, 8] (.tup (.cons (.lst .nil) (.cons .dnew .nil))))
    (.seq (.for_ (.many [9, 10]) (.enum (.var 5)) (.seq (.set 11 (.call (c if_l_elders) (.cons (.var 0) (.cons (.slc (.var 5) .nil (.cons (.var 9) .nil)) (.cons (.var 4) (.cons (.var 8) .nil))))))
    (.seq (.setI (.var 8) (.var 10) (.call (c if_l_merge) (.cons (.var 10) (.cons (.bin .add (.lc (.idx (.var 8) (.var 13)) (.one 13) (.itv (.var 11)) .nil [13]) (.lst (.cons (.var 11) .nil))) .nil))))
    (.seq (.set 12 (.call (c if_l_take) (.cons (.var 0) (.cons (.idx (.lst (.cons (.k (.int 1)) (.cons (.k (.int 4)) (.cons (.bin .pow (.k (.int 10)) (.k (.int 12))) .nil)))) (.call (c if_l_take) (.cons (.var 0) (.cons (.k (.int 3)) .nil)))) .nil))))
    (.seq (.expr (.bm .append (.var 7) (.cons (.tup (.cons (.var 10) (.cons (.var 11) (.cons (.idx (.var 8) (.var 10)) (.cons (.call (c if_l_some) (.cons (.var 0) (.cons (.var 3) (.cons (.k (.int 3)) .nil)))) (.cons (.call (c if_l_own) (.cons (.var 0) (.cons (.var 2) .nil))) (.cons (.var 12) .nil))))))) .nil)))
    .nil)))))
    (.seq (.set 6 (.bf .sorted (.cons (.lc (.tup (.cons (.call (c if_l_take) (.cons (.var 0) (.cons (.k (.int 997)) .nil))) (.cons (.var 9) .nil))) (.one 9) (.rng1 (.var 1)) .nil [9]) .nil)))
    (.seq (.ret (.bf .tuple (.cons (.lc (.idx (.var 7) (.var 9)) (.many [12, 9]) (.itv (.var 6)) .nil [12, 9]) .nil)))
    .nil))))))
def s_l_take (c : Nat → Nat) : MS := (.seq (.setI (.var 0) (.k (.int 2)) (.bin .add (.idx (.var 0) (.k (.int 2))) (.k (.int 1))))
    (.seq (.set 2 (.idx (.var 0) (.k (.int 0))))
    (.seq (.setI (.var 0) (.k (.int 0)) (.bin .mod (.bin .add (.bin .mul (.var 2) (.bin .add (.bin .mod (.var 2) (.k (.int 46337))) (.k (.int 30011)))) (.bin .mul (.k (.int 104729)) (.idx (.var 0) (.k (.int 2))))) (.k (.int 2147483587))))
    (.seq (.cond (.cmp .gt (.idx (.var 0) (.k (.int 1))) (.k (.int 0))) (.seq (.set 3 (.bin .mod (.idx (.var 0) (.k (.int 1))) (.var 1)))
    (.seq (.setI (.var 0) (.k (.int 1)) (.bin .fdiv (.idx (.var 0) (.k (.int 1))) (.var 1)))
    (.seq (.ret (.var 3))
    .nil))) .nil)
    (.seq (.ret (.bin .mod (.bin .fdiv (.idx (.var 0) (.k (.int 0))) (.k (.int 32))) (.var 1)))
    .nil)))))
def s_l_word (c : Nat → Nat) : MS := (.seq (.set 2 (.k (.str [])))
    (.seq (.for_ (.one 3) (.rng1 (.bin .add (.k (.int 1)) (.call (c if_l_take) (.cons (.var 0) (.cons (.k (.int 6)) .nil))))) (.seq (.set 2 (.bin .add (.var 2) (.idx (.k (.str [97, 98, 99, 100, 101, 102, 103, 104, 105, 106, 107, 108, 109, 110, 111, 112, 113, 114, 115, 116, 117, 118, 119, 120, 121, 122])) (.call (c if_l_take) (.cons (.var 0) (.cons (.k (.int 26)) .nil))))))
    .nil))
    (.seq (.cond (.cmp .notin (.var 2) (.var 1)) (.seq (.ret (.var 2))
    .nil) .nil)
    (.seq (.ret (.idx (.lc (.bin .add (.var 4) (.slc (.var 2) .nil (.cons (.k (.int 5)) .nil))) (.one 4) (.itv (.k (.str [97, 98, 99, 100, 101, 102, 103, 104, 105, 106, 107, 108, 109, 110, 111, 112, 113, 114, 115, 116, 117, 118, 119, 120, 121, 122]))) (.cmp .notin (.bin .add (.var 4) (.slc (.var 2) .nil (.cons (.k (.int 5)) .nil))) (.var 1)) [4]) (.k (.int 0))))
    .nil))))
def s_l_word_v1 (c : Nat → Nat) : MS := (.seq (.set 2 (.k (.str [])))
    (.seq (.for_ (.one 3) (.rng1 (.bin .add (.k (.int 1)) (.call (c if_l_take) (.cons (.var 0) (.cons (.k (.int 6)) .nil))))) (.seq (.set 2 (.bin .add (.var 2) (.idx (.k (.str [97, 98, 99, 100, 101, 102, 103, 104, 105, 106, 107, 108, 109, 110, 111, 112, 113, 114, 115, 116, 117, 118, 119, 120, 121, 122])) (.call (c if_l_take) (.cons (.var 0) (.cons (.k (.int 26)) .nil))))))
    .nil))
    (.seq (.cond (.cmp .notin (.var 2) (.var 1)) (.seq (.ret (.var 2))
    .nil) .nil)
    (.seq (.set 4 (.lc (.var 5) (.one 5) (.itv (.k (.str [97, 98, 99, 100, 101, 102, 103, 104, 105, 106, 107, 108, 109, 110, 111, 112, 113, 114, 115, 116, 117, 118, 119, 120, 121, 122]))) (.cmp .notin (.bin .add (.var 5) (.slc (.var 2) .nil (.cons (.k (.int 5)) .nil))) (.var 1)) [5]))
    (.seq (.ret (.bin .add (.idx (.var 4) (.k (.int 0))) (.slc (.var 2) .nil (.cons (.k (.int 5)) .nil))))
    .nil)))))
def s_l_word_v2 (c : Nat → Nat) : MS := (.seq (.set 2 (.lst (.cons (.k (.str [109, 97, 114, 107])) (.cons (.k (.str [103, 111])) (.cons (.k (.str [107, 101, 101, 112])) (.cons (.k (.str [116, 101, 108, 108])) (.cons (.k (.str [114, 111, 117, 110, 100])) (.cons (.k (.str [112, 117, 116])) (.cons (.k (.str [100, 114, 111, 112])) (.cons (.k (.str [110, 111, 110, 101])) (.cons (.k (.str [109, 101])) (.cons (.k (.str [97, 115, 107])) (.cons (.k (.str [116, 104, 105, 110, 103])) (.cons (.k (.str [101, 110, 100])) .nil))))))))))))))
    (.seq (.set 3 (.idx (.var 2) (.call (c if_l_take) (.cons (.var 0) (.cons (.k (.int 12)) .nil)))))
    (.seq (.cond (.cmp .gt (.call (c if_l_take) (.cons (.var 0) (.cons (.k (.int 5)) .nil))) (.k (.int 0))) (.seq (.set 3 (.k (.str [])))
    (.seq (.for_ (.one 5) (.rng1 (.bin .add (.k (.int 1)) (.call (c if_l_take) (.cons (.var 0) (.cons (.k (.int 6)) .nil))))) (.seq (.set 3 (.bin .add (.var 3) (.idx (.k (.str [97, 98, 99, 100, 101, 102, 103, 104, 105, 106, 107, 108, 109, 110, 111, 112, 113, 114, 115, 116, 117, 118, 119, 120, 121, 122])) (.call (c if_l_take) (.cons (.var 0) (.cons (.k (.int 26)) .nil))))))
    .nil))
    .nil)) .nil)
    (.seq (.cond (.cmp .notin (.var 3) (.var 1)) (.seq (.ret (.var 3))
    .nil) .nil)
    (.seq (.set 4 (.lc (.var 6) (.one 6) (.itv (.k (.str [97, 98, 99, 100, 101, 102, 103, 104, 105, 106, 107, 108, 109, 110, 111, 112, 113, 114, 115, 116, 117, 118, 119, 120, 121, 122]))) (.cmp .notin (.bin .add (.var 6) (.slc (.var 3) .nil (.cons (.k (.int 5)) .nil))) (.var 1)) [6]))
    (.seq (.ret (.bin .add (.idx (.var 4) (.k (.int 0))) (.slc (.var 3) .nil (.cons (.k (.int 5)) .nil))))
    .nil))))))
def s_l_words (c : Nat → Nat) : MS := (.seq (.set 3 (.lst .nil))
    (.seq (.for_ (.one 4) (.rng1 (.var 1)) (.seq (.expr (.bm .append (.var 3) (.cons (.call (c if_l_word) (.cons (.var 0) (.cons (.bin .add (.var 2) (.var 3)) .nil))) .nil)))
    .nil))
    (.seq (.ret (.var 3))
    .nil)))
def s_law_v49 (c : Nat → Nat) : MS := (.seq (.set 1 (.call (c if_l_purse) (.cons (.call (c if_l_cell) (.cons (.var 0) (.cons (.k (.int 1)) .nil))) .nil)))
    (.seq (.set 2 (.call (c if_l_purse) (.cons (.call (c if_l_cell) (.cons (.var 0) (.cons (.k (.int 0)) .nil))) .nil)))
    (.seq (.set 3 (.call (c if_l_words) (.cons (.var 2) (.cons (.bin .add (.k (.int 1)) (.call (c if_l_take) (.cons (.var 2) (.cons (.k (.int 4)) .nil)))) (.cons (.lst .nil) .nil)))))
    (.seq (.setU [9, 10] (.call (c if_l_model) (.cons (.var 2) (.cons (.var 3) .nil))))
    (.seq (.set 4 (.call (c if_l_stranger) (.cons (.var 1) (.cons (.bf .len (.cons (.var 9) .nil)) .nil))))
    (.seq (.for_ (.one 5) (.itv (.lst (.cons (.k (.str [112, 117, 116])) (.cons (.k (.str [100, 114, 111, 112])) .nil)))) (.seq (.for_ (.one 11) (.itv (.var 3)) (.seq (.cond (.cmp .ne (.call (c if_l_refused) (.cons (.k (.int 1)) (.cons (.var 9) (.cons (.var 4) (.cons (.var 5) (.cons (.var 11) .nil)))))) (.tup (.cons (.k (.str [115, 104, 97, 112, 101])) (.cons (.k (.bl false)) (.cons (.k (.bl false)) .nil))))) (.seq (.ret (.k (.bl false)))
    .nil) .nil)
    .nil))
    .nil))
    (.seq (.cond (.cmp .ne (.call (c if_l_refused) (.cons (.k (.int 0)) (.cons (.var 9) (.cons (.var 4) (.cons (.k (.str [112, 117, 116])) (.cons (.idx (.var 3) (.k (.int 0))) .nil)))))) (.tup (.cons (.k (.str [115, 104, 97, 112, 101])) (.cons (.k (.bl false)) (.cons (.k (.bl false)) .nil))))) (.seq (.ret (.k (.bl false)))
    .nil) .nil)
    (.seq (.for_ (.one 6) (.rng1 (.bf .len (.cons (.var 9) .nil))) (.seq (.cond (.not (.tv (.bf .all (.cons (.lc (.call (c if_l_good) (.cons (.var 9) (.cons (.var 6) (.cons (.cmp .isin (.var 11) (.idx (.var 10) (.var 6))) (.cons (.var 11) .nil))))) (.one 11) (.itv (.var 3)) .nil [11]) .nil)))) (.seq (.ret (.k (.bl false)))
    .nil) .nil)
    .nil))
    (.seq (.set 6 (.call (c if_l_take) (.cons (.var 1) (.cons (.bf .len (.cons (.var 9) .nil)) .nil))))
    (.seq (.cond (.cmp .ne (.call (c if_l_refused) (.cons (.k (.int 0)) (.cons (.var 9) (.cons (.bf .len (.cons (.var 9) .nil)) (.cons (.k (.str [112, 117, 116])) (.cons (.idx (.var 3) (.k (.int 0))) .nil)))))) (.tup (.cons (.k (.str [115, 104, 97, 112, 101])) (.cons (.k (.bl false)) (.cons (.k (.bl false)) .nil))))) (.seq (.ret (.k (.bl false)))
    .nil) .nil)
    (.seq (.set 7 (.call (c if_l_word) (.cons (.var 1) (.cons (.var 3) .nil))))
    (.seq (.set 8 (.call (c if_shape_by) (.cons (.var 9) (.cons (.var 6) (.cons (.k (.str [112, 117, 116])) (.cons (.var 7) .nil))))))
    (.seq (.cond (.not (.tv (.call (c if_l_same) (.cons (.var 8) (.cons (.tup (.cons (.bin .add (.var 9) (.tup (.cons (.tup (.cons (.var 6) (.cons (.k (.str [112, 117, 116])) (.cons (.var 7) .nil)))) .nil))) (.cons (.bf .len (.cons (.var 9) .nil)) .nil))) .nil))))) (.seq (.ret (.k (.bl false)))
    .nil) .nil)
    (.seq (.ret (.call (c if_l_same) (.cons (.call (c if_fields_at) (.cons (.idx (.var 8) (.k (.int 0))) (.cons (.bf .len (.cons (.var 9) .nil)) .nil))) (.cons (.bin .add (.idx (.var 10) (.var 6)) (.tup (.cons (.var 7) .nil))) .nil))))
    .nil))))))))))))))
def s_merged (c : Nat → Nat) : MS := (.seq (.set 1 (.lst .nil))
    (.seq (.set 2 (.bf .list (.cons (.var 0) .nil)))
    (.seq (.set 3 (.call (c if_next_kind) (.cons (.var 2) .nil)))
    (.seq (.while_ (.cmp .notN (.var 3) (.k .non)) (.seq (.expr (.bm .append (.var 1) (.cons (.var 3) .nil)))
    (.seq (.set 2 (.call (c if_struck) (.cons (.var 2) (.cons (.var 3) .nil))))
    (.seq (.set 3 (.call (c if_next_kind) (.cons (.var 2) .nil)))
    .nil))))
    (.seq (.ret (.tup (.cons (.bf .tuple (.cons (.var 1) .nil)) (.cons (.var 2) .nil))))
    .nil)))))
def s_new_fields (c : Nat → Nat) : MS := (.seq (.expr (.call (c if_check_kind) (.cons (.var 0) (.cons (.var 1) .nil))))
    (.seq (.set 2 (.lst .nil))
    (.seq (.for_ (.one 3) (.itv (.slst (.idx (.call (c if_row_of) (.cons (.var 0) (.cons (.var 1) .nil))) (.k (.int 2))) (.neg (.k (.int 1))))) (.seq (.for_ (.one 4) (.itv (.idx (.call (c if_row_of) (.cons (.var 0) (.cons (.var 3) .nil))) (.k (.int 3)))) (.seq (.cond (.cmp .notin (.var 4) (.var 2)) (.seq (.expr (.bm .append (.var 2) (.cons (.var 4) .nil)))
    .nil) .nil)
    .nil))
    .nil))
    (.seq (.ret (.bf .tuple (.cons (.var 2) .nil)))
    .nil))))
def s_next_kind (c : Nat → Nat) : MS := (.seq (.for_ (.one 1) (.itv (.var 0)) (.seq (.cond (.and (.cmp .ne (.var 1) (.tup .nil)) (.tv (.bf .all (.cons (.lc (.cmp .notin (.idx (.var 1) (.k (.int 0))) (.slc (.var 2) (.cons (.k (.int 1)) .nil) .nil)) (.one 2) (.itv (.var 0)) .nil [2]) .nil)))) (.seq (.ret (.idx (.var 1) (.k (.int 0))))
    .nil) .nil)
    .nil))
    (.seq (.ret (.k .non))
    .nil))
def s_order_by (c : Nat → Nat) : MS := (.seq (.set 3 (.call (c if_rows_by) (.cons (.var 0) (.cons (.var 2) .nil))))
    (.seq (.cond (.cmp .isN (.var 3) (.k .non)) (.seq (.ret (.k .non))
    .nil) .nil)
    (.seq (.setT [4, 5] (.call (c if_merged) (.cons (.var 3) .nil)))
    (.seq (.cond (.tv (.bf .any (.cons (.lc (.cmp .ne (.var 6) (.tup .nil)) (.one 6) (.itv (.var 5)) .nil [6]) .nil))) (.seq (.ret (.k .non))
    .nil) .nil)
    (.seq (.ret (.bin .add (.tup (.cons (.var 1) .nil)) (.var 4)))
    .nil)))))
def s_order_of (c : Nat → Nat) : MS := (.seq (.expr (.call (c if_check_kind) (.cons (.var 0) (.cons (.var 1) .nil))))
    (.seq (.set 2 (.call (c if_all_orders) (.cons (.var 0) .nil)))
    (.seq (.cond (.cmp .notN (.idx (.var 2) (.var 1)) (.k .non)) (.seq (.ret (.tup (.cons (.k (.str [111, 114, 100, 101, 114])) (.cons (.idx (.var 2) (.var 1)) .nil))))
    .nil) .nil)
    (.seq (.ret (.call (c if_quarrel_of) (.cons (.var 0) (.cons (.var 1) (.cons (.var 2) .nil)))))
    .nil))))
def s_quarrel_of (c : Nat → Nat) : MS := (.seq (.set 3 (.idx (.lc (.var 6) (.one 6) (.itv (.bin .add (.tup (.cons (.var 1) .nil)) (.call (c if_above) (.cons (.var 0) (.cons (.var 1) .nil))))) (.tv (.call (c if_quarrels) (.cons (.var 0) (.cons (.var 2) (.cons (.var 6) .nil))))) [6]) (.k (.int 0))))
    (.seq (.setT [4, 5] (.call (c if_merged) (.cons (.call (c if_rows_by) (.cons (.var 2) (.cons (.call (c if_elders_of) (.cons (.var 0) (.cons (.var 3) .nil))) .nil))) .nil)))
    (.seq (.ret (.tup (.cons (.k (.str [113, 117, 97, 114, 114, 101, 108])) (.cons (.var 3) (.cons (.call (c if_ring_in) (.cons (.var 5) .nil)) .nil)))))
    .nil)))
def s_quarrels (c : Nat → Nat) : MS := (.seq (.ret (.and (.cmp .isN (.idx (.var 1) (.var 2)) (.k .non)) (.cmp .notN (.call (c if_rows_by) (.cons (.var 1) (.cons (.call (c if_elders_of) (.cons (.var 0) (.cons (.var 2) .nil))) .nil))) (.k .non))))
    .nil)
def s_ring_in (c : Nat → Nat) : MS := (.seq (.set 1 (.idx (.lc (.idx (.var 4) (.k (.int 0))) (.one 4) (.itv (.var 0)) (.cmp .ne (.var 4) (.tup .nil)) [4]) (.k (.int 0))))
    (.seq (.set 2 (.lst .nil))
    (.seq (.while_ (.cmp .notin (.var 1) (.lc (.idx (.var 5) (.k (.int 1))) (.one 5) (.itv (.var 2)) .nil [5])) (.seq (.expr (.bm .append (.var 2) (.cons (.call (c if_step_ahead) (.cons (.var 0) (.cons (.var 1) .nil))) .nil)))
    (.seq (.set 1 (.idx (.idx (.var 2) (.neg (.k (.int 1)))) (.k (.int 0))))
    .nil)))
    (.seq (.set 3 (.bm .index (.lc (.idx (.var 5) (.k (.int 1))) (.one 5) (.itv (.var 2)) .nil [5]) (.cons (.var 1) .nil)))
    (.seq (.ret (.bf .tuple (.cons (.slst (.slc (.var 2) (.cons (.var 3) .nil) .nil) (.neg (.k (.int 1)))) .nil)))
    .nil)))))
def s_row_of (c : Nat → Nat) : MS := (.seq (.ret (.idx (.lc (.var 2) (.one 2) (.itv (.var 0)) (.cmp .eq (.idx (.var 2) (.k (.int 0))) (.var 1)) [2]) (.k (.int 0))))
    .nil)
def s_rows_by (c : Nat → Nat) : MS := (.seq (.set 2 (.lc (.idx (.var 0) (.var 3)) (.one 3) (.itv (.var 1)) .nil [3]))
    (.seq (.cond (.cmp .isin (.k .non) (.var 2)) (.seq (.ret (.k .non))
    .nil) .nil)
    (.seq (.ret (.bin .add (.var 2) (.lst (.cons (.var 1) .nil))))
    .nil)))
def s_rows_for (c : Nat → Nat) : MS := (.seq (.expr (.call (c if_check_kind) (.cons (.var 0) (.cons (.var 1) .nil))))
    (.seq (.set 2 (.call (c if_rows_by) (.cons (.call (c if_all_orders) (.cons (.var 0) .nil)) (.cons (.call (c if_elders_of) (.cons (.var 0) (.cons (.var 1) .nil))) .nil))))
    (.seq (.cond (.cmp .isN (.var 2) (.k .non)) (.seq (.raise_ (c ic_NoOrder) .nil)
    .nil) .nil)
    (.seq (.ret (.bf .tuple (.cons (.var 2) .nil)))
    .nil))))
def s_shape_by (c : Nat → Nat) : MS := (.seq (.set 4 (.cmp .isin (.var 3) (.call (c if_fields_at) (.cons (.var 0) (.cons (.var 1) .nil)))))
    (.seq (.cond (.cmp .ne (.var 4) (.cmp .eq (.var 2) (.k (.str [100, 114, 111, 112])))) (.seq (.raise_ (c ic_NoField) .nil)
    .nil) .nil)
    (.seq (.set 5 (.call (c if_child_of) (.cons (.var 0) (.cons (.var 1) (.cons (.var 2) (.cons (.var 3) .nil))))))
    (.seq (.cond (.cmp .notN (.var 5) (.k .non)) (.seq (.ret (.tup (.cons (.var 0) (.cons (.var 5) .nil))))
    .nil) .nil)
    (.seq (.ret (.tup (.cons (.bin .add (.var 0) (.tup (.cons (.tup (.cons (.var 1) (.cons (.var 2) (.cons (.var 3) .nil)))) .nil))) (.cons (.bf .len (.cons (.var 0) .nil)) .nil))))
    .nil)))))
def s_step_ahead (c : Nat → Nat) : MS := (.seq (.for_ (.many [2, 3]) (.enum (.var 0)) (.seq (.cond (.cmp .isin (.var 1) (.slc (.var 3) (.cons (.k (.int 1)) .nil) .nil)) (.seq (.ret (.tup (.cons (.idx (.var 3) (.k (.int 0))) (.cons (.var 1) (.cons (.var 2) .nil)))))
    .nil) .nil)
    .nil))
    (.seq (.ret (.k .non))
    .nil))
def s_struck (c : Nat → Nat) : MS := (.seq (.ret (.lc (.bf .tuple (.cons (.lc (.var 3) (.one 3) (.itv (.var 2)) (.cmp .ne (.var 3) (.var 1)) [3]) .nil)) (.one 2) (.itv (.var 0)) .nil [2]))
    .nil)
end Lw
namespace Lw
open PySem PySem.Spec PyProof.Rows L2 Rf
def ixs : List Nat := [if_is_shape, if_fields_at, if_child_of, if_shape_by, if_l_cell, if_l_purse, if_l_take, if_l_word, if_l_words, if_l_same, if_l_stranger, if_l_other, if_l_asked, if_l_refused, if_l_model, if_l_good, if_law]
def ixg : List Nat := []
def ixc : List Nat := [ic_NoShape, ic_NoField, ic_RowError, ic_NoChange, ic_NoKind, ic_NoLimit, ic_NoOrder, ic_NoText, ic_NoWarming]
def ix (n : Nat) : Nat := ixOf ixs ixg ixc n
def r_is_shape : Rw := ⟨"is_shape", ["shapes", "number"], ["shapes", "number"], ⟨2, 2, s_is_shape ix⟩⟩
def r_fields_at : Rw := ⟨"fields_at", ["shapes", "number"], ["shapes", "number", "story", "fields", "shape"], ⟨2, 5, s_fields_at ix⟩⟩
def r_child_of : Rw := ⟨"child_of", ["shapes", "number", "deed", "field"], ["shapes", "number", "deed", "field", "at", "shape"], ⟨4, 6, s_child_of ix⟩⟩
def r_shape_by : Rw := ⟨"shape_by", ["shapes", "number", "deed", "field"], ["shapes", "number", "deed", "field", "has_it", "child"], ⟨4, 6, s_shape_by ix⟩⟩
def r__law_cell : Rw := ⟨"_law_cell", ["_law_script", "_law_k"], ["_law_script", "_law_k", "_law_state", "_law_cell_here"], ⟨2, 4, s_l_cell ix⟩⟩
def r__law_purse : Rw := ⟨"_law_purse", ["_law_cell_here"], ["_law_cell_here", "_law_digits"], ⟨1, 2, s_l_purse ix⟩⟩
def r__law_take : Rw := ⟨"_law_take", ["_law_purse_here", "_law_many"], ["_law_purse_here", "_law_many", "_law_state", "_law_taken"], ⟨2, 4, s_l_take ix⟩⟩
def r__law_word : Rw := ⟨"_law_word", ["_law_purse_here", "_law_used"], ["_law_purse_here", "_law_used", "_law_menu", "_law_word_here", "_law_first", "_law_k", "_law_a"], ⟨2, 7, s_l_word_v2 ix⟩⟩
def r__law_words : Rw := ⟨"_law_words", ["_law_purse_here", "_law_many", "_law_used"], ["_law_purse_here", "_law_many", "_law_used", "_law_words_here", "_law_k"], ⟨3, 5, s_l_words ix⟩⟩
def r__law_same : Rw := ⟨"_law_same", ["_law_one", "_law_other_here"], ["_law_one", "_law_other_here", "_law_a", "_law_b"], ⟨2, 4, s_l_same_v2 ix⟩⟩
def r__law_stranger : Rw := ⟨"_law_stranger", ["_law_purse_here", "_law_many"], ["_law_purse_here", "_law_many", "_law_pick", "_law_k"], ⟨2, 4, s_l_stranger_v1 ix⟩⟩
def r__law_other : Rw := ⟨"_law_other", ["_law_e"], ["_law_e"], ⟨1, 1, s_l_other_v1 ix⟩⟩
def r__law_asked : Rw := ⟨"_law_asked", ["_law_door", "_law_shapes", "_law_number", "_law_deed", "_law_field"], ["_law_door", "_law_shapes", "_law_number", "_law_deed", "_law_field"], ⟨5, 5, s_l_asked ix⟩⟩
def r__law_refused : Rw := ⟨"_law_refused", ["_law_door", "_law_shapes", "_law_number", "_law_deed", "_law_field"], ["_law_door", "_law_shapes", "_law_number", "_law_deed", "_law_field", "_law_word_here", "_law_e", "_law_base"], ⟨5, 8, s_l_refused_v5 ix⟩⟩
def r__law_model : Rw := ⟨"_law_model", ["_law_purse_here", "_law_names"], ["_law_purse_here", "_law_names", "_law_k", "_law_model_here", "_law_fields", "_law_number", "_law_field", "_law_deed", "_law_one"], ⟨2, 9, s_l_model ix⟩⟩
def r__law_good : Rw := ⟨"_law_good", ["_law_shapes", "_law_at", "_law_has", "_law_field"], ["_law_shapes", "_law_at", "_law_has", "_law_field", "_law_deeds", "_law_dropped", "_law_told"], ⟨4, 7, s_l_good ix⟩⟩
def r_law : Rw := ⟨"law", ["_law_script"], ["_law_script", "_law_purse_here", "_law_head", "_law_names", "_law_stranger_here", "_law_deed", "_law_at", "_law_fresh", "_law_told", "_law_shapes", "_law_fields", "_law_field"], ⟨1, 12, s_law_v49 ix⟩⟩
def rs : List Rw := [r_is_shape, r_fields_at, r_child_of, r_shape_by, r__law_cell, r__law_purse, r__law_take, r__law_word, r__law_words, r__law_same, r__law_stranger, r__law_other, r__law_asked, r__law_refused, r__law_model, r__law_good, r_law]
abbrev prg : Prg := rs.map (·.d)
end Lw
set_option maxHeartbeats 0
namespace Lw
open PySem PySem.Spec PyProof.Rows L2 Rf
theorem ob_eq (s : PySem.W.SharedT) : ob s = hk.obs s.abs := obsRG_eq (HandSHeadRun.getT_eq s)
theorem c_is_shape : rwC G r_is_shape h_is_shape = true := by decide +kernel
theorem bi_is_shape : BindsR r_is_shape h_is_shape := fun _ _ _ _ _ _ us hl => match us, hl with | [_, _], _ => rfl
theorem c_fields_at : rwC G r_fields_at h_fields_at = true := by decide +kernel
theorem bi_fields_at : BindsR r_fields_at h_fields_at := fun _ _ _ _ _ _ us hl => match us, hl with | [_, _], _ => rfl
theorem c_child_of : rwC G r_child_of h_child_of = true := by decide +kernel
theorem bi_child_of : BindsR r_child_of h_child_of := fun _ _ _ _ _ _ us hl => match us, hl with | [_, _, _, _], _ => rfl
theorem c_shape_by : rwC G r_shape_by h_shape_by = true := by decide +kernel
theorem bi_shape_by : BindsR r_shape_by h_shape_by := fun _ _ _ _ _ _ us hl => match us, hl with | [_, _, _, _], _ => rfl
theorem c__law_cell : rwC G r__law_cell h__law_cell = true := by decide +kernel
theorem bi__law_cell : BindsR r__law_cell h__law_cell := fun _ _ _ _ _ _ us hl => match us, hl with | [_, _], _ => rfl
theorem c__law_purse : rwC G r__law_purse h__law_purse = true := by decide +kernel
theorem bi__law_purse : BindsR r__law_purse h__law_purse := fun _ _ _ _ _ _ us hl => match us, hl with | [_], _ => rfl
theorem c__law_take : rwC G r__law_take h__law_take = true := by decide +kernel
theorem bi__law_take : BindsR r__law_take h__law_take := fun _ _ _ _ _ _ us hl => match us, hl with | [_, _], _ => rfl
theorem c__law_word : rwC G r__law_word h__law_word = true := by decide +kernel
theorem bi__law_word : BindsR r__law_word h__law_word := fun _ _ _ _ _ _ us hl => match us, hl with | [_, _], _ => rfl
theorem c__law_words : rwC G r__law_words h__law_words = true := by decide +kernel
theorem bi__law_words : BindsR r__law_words h__law_words := fun _ _ _ _ _ _ us hl => match us, hl with | [_, _, _], _ => rfl
theorem c__law_same : rwC G r__law_same h__law_same = true := by decide +kernel
theorem bi__law_same : BindsR r__law_same h__law_same := fun _ _ _ _ _ _ us hl => match us, hl with | [_, _], _ => rfl
theorem c__law_stranger : rwC G r__law_stranger h__law_stranger = true := by decide +kernel
theorem bi__law_stranger : BindsR r__law_stranger h__law_stranger := fun _ _ _ _ _ _ us hl => match us, hl with | [_, _], _ => rfl
theorem c__law_other : rwC G r__law_other h__law_other = true := by decide +kernel
theorem bi__law_other : BindsR r__law_other h__law_other := fun _ _ _ _ _ _ us hl => match us, hl with | [_], _ => rfl
theorem c__law_asked : rwC G r__law_asked h__law_asked = true := by decide +kernel
theorem bi__law_asked : BindsR r__law_asked h__law_asked := fun _ _ _ _ _ _ us hl => match us, hl with | [_, _, _, _, _], _ => rfl
theorem c__law_refused : rwC G r__law_refused h__law_refused = true := by decide +kernel
theorem bi__law_refused : BindsR r__law_refused h__law_refused := fun _ _ _ _ _ _ us hl => match us, hl with | [_, _, _, _, _], _ => rfl
theorem c__law_model : rwC G r__law_model h__law_model = true := by decide +kernel
theorem bi__law_model : BindsR r__law_model h__law_model := fun _ _ _ _ _ _ us hl => match us, hl with | [_, _], _ => rfl
theorem c__law_good : rwC G r__law_good h__law_good = true := by decide +kernel
theorem bi__law_good : BindsR r__law_good h__law_good := fun _ _ _ _ _ _ us hl => match us, hl with | [_, _, _, _], _ => rfl
theorem c_law : rwC G r_law h_law = true := by decide +kernel
theorem bi_law : BindsR r_law h_law := fun _ _ _ _ _ _ us hl => match us, hl with | [_], _ => rfl
theorem rws : Rws G rs hs := .cons c_is_shape bi_is_shape (.cons c_fields_at bi_fields_at (.cons c_child_of bi_child_of (.cons c_shape_by bi_shape_by (.cons c__law_cell bi__law_cell (.cons c__law_purse bi__law_purse (.cons c__law_take bi__law_take (.cons c__law_word bi__law_word (.cons c__law_words bi__law_words (.cons c__law_same bi__law_same (.cons c__law_stranger bi__law_stranger (.cons c__law_other bi__law_other (.cons c__law_asked bi__law_asked (.cons c__law_refused bi__law_refused (.cons c__law_model bi__law_model (.cons c__law_good bi__law_good (.cons c_law bi_law (.nil)))))))))))))))))
theorem lows : ∀ t ∈ G.lx, LowS G hs t := by
  intro t ht
  cases ht
end Lw
set_option maxHeartbeats 16000000
namespace Rf
open PySem PySem.Spec PyProof.Rows L2
section
variable {β : Type}
theorem forW_mapG {f : β → D} {ck : AH → Prop} {tg : Tg} {body : Sa → AH → En → EK → Prop} {Z : En} {E : EK} {xs : List β} (I : List β → List β → Sa → AH → Prop)
    (hd : ∀ s h, I xs [] s h → ck h ∧ Z.nx s h)
    (step : ∀ l x r s h (K : Sa → AH → Prop), l ++ x :: r = xs → I l (x :: r) s h → (∀ s' h', I (l ++ [x]) r s' h' → K s' h') → ck h ∧ tgW tg (f x) s fun s1 => body s1 h { nx := K, rt := Z.rt, bk := Z.nx, ct := K } E) :
    ∀ (l r : List β) (s : Sa) (h : AH), l ++ r = xs → I l r s h → forW ck tg body (r.map f) s h Z E
  | l, [], s, h, e, i => by
    rw [List.append_nil] at e
    subst e
    exact hd s h i
  | l, x :: r, s, h, e, i => step l x r s h _ e i fun s' h' i' => forW_mapG I hd step (l ++ [x]) r s' h' (by simpa using e) i'
theorem forW_map {f : β → D} {ck : AH → Prop} {tg : Tg} {body : Sa → AH → En → EK → Prop} {Z : En} {E : EK} {xs : List β} {s : Sa} {h : AH} (I : List β → List β → Sa → AH → Prop) (i0 : I [] xs s h)
    (hd : ∀ s h, I xs [] s h → ck h ∧ Z.nx s h)
    (step : ∀ l x r s h (K : Sa → AH → Prop), l ++ x :: r = xs → I l (x :: r) s h → (∀ s' h', I (l ++ [x]) r s' h' → K s' h') → ck h ∧ tgW tg (f x) s fun s1 => body s1 h { nx := K, rt := Z.rt, bk := Z.nx, ct := K } E) :
    forW ck tg body (xs.map f) s h Z E := forW_mapG I hd step [] xs s h rfl i0
theorem range_split {l r : List Nat} {x n : Nat} (e : l ++ x :: r = List.range n) : x = l.length ∧ x < n := by
  have h1 : (List.range n)[l.length]? = some x := by rw [← e]; simp
  have h2 : l.length < n := by
    have := congrArg List.length e
    simp at this
    omega
  rw [List.getElem?_range h2] at h1
  cases h1
  exact ⟨rfl, h2⟩
theorem forW_range {f : Nat → D} {ck : AH → Prop} {tg : Tg} {body : Sa → AH → En → EK → Prop} {Z : En} {E : EK} {n : Nat} {s : Sa} {h : AH} (I : Nat → Sa → AH → Prop) (i0 : I 0 s h)
    (hd : ∀ s h, I n s h → ck h ∧ Z.nx s h)
    (step : ∀ i s h (K : Sa → AH → Prop), i < n → I i s h → (∀ s' h', I (i + 1) s' h' → K s' h') → ck h ∧ tgW tg (f i) s fun s1 => body s1 h { nx := K, rt := Z.rt, bk := Z.nx, ct := K } E) :
    forW ck tg body ((List.range n).map f) s h Z E := by
  refine forW_map (fun l r s h => I l.length s h) i0 (fun s h i => hd s h (by simpa using i)) (fun l x r s h K e i hK => ?_)
  obtain ⟨rfl, hx⟩ := range_split e
  exact step _ s h K hx i fun s' h' i' => hK s' h' (by simpa using i')
theorem enumL_map (f : β → D) (xs : List β) : enumL (xs.map f) = xs.zipIdx.map fun p => D.wtup [.int (p.2 : Int), f p.1] := by
  unfold enumL
  rw [List.zipIdx_map, List.map_map]
  rfl
theorem zipIdx_split {l r : List (β × Nat)} {x : β × Nat} {xs : List β} (e : l ++ x :: r = xs.zipIdx) : x.2 = l.length ∧ l.map (·.1) ++ x.1 :: r.map (·.1) = xs := by
  have h1 : xs.zipIdx[l.length]? = some x := by rw [← e]; simp
  rw [List.getElem?_zipIdx] at h1
  refine ⟨?_, ?_⟩
  · cases q : xs[l.length]? with
    | none => rw [q] at h1; cases h1
    | some y => rw [q] at h1; cases h1; simp
  · have := congrArg (List.map Prod.fst) e
    simpa using this
theorem forW_enum {f : β → D} {ck : AH → Prop} {tg : Tg} {body : Sa → AH → En → EK → Prop} {Z : En} {E : EK} {xs : List β} {s : Sa} {h : AH} (I : List β → List β → Sa → AH → Prop) (i0 : I [] xs s h)
    (hd : ∀ s h, I xs [] s h → ck h ∧ Z.nx s h)
    (step : ∀ l x r s h (K : Sa → AH → Prop), l ++ x :: r = xs → I l (x :: r) s h → (∀ s' h', I (l ++ [x]) r s' h' → K s' h') → ck h ∧ tgW tg (.wtup [.int (l.length : Int), f x]) s fun s1 => body s1 h { nx := K, rt := Z.rt, bk := Z.nx, ct := K } E) :
    forW ck tg body (enumL (xs.map f)) s h Z E := by
  rw [enumL_map]
  refine forW_map (fun l r s h => I (l.map (·.1)) (r.map (·.1)) s h) (by simpa using i0) (fun s h i => hd s h (by simpa using i)) (fun l x r s h K e i hK => ?_)
  obtain ⟨e1, e2⟩ := zipIdx_split e
  have := step (l.map (·.1)) x.1 (r.map (·.1)) s h K e2 (by simpa using i) fun s' h' i' => hK s' h' (by simpa using i')
  simpa [e1] using this
theorem map_mem_split {l r xs : List β} {x : β} (e : l ++ x :: r = xs) : x ∈ xs ∧ l.length < xs.length := by
  subst e
  simp
theorem lcW_pure {f : β → D} {ck : AH → Prop} {tg : Tg} {c : Sa → AH → (Bool → AH → Prop) → Prop} {e : Sa → AH → QD → Prop} {Q : QL} {xs : List β} {s : Sa} {h : AH} (G : AH → Prop) (p : β → Bool) (g : β → D) (hz : xs.length ≤ SZ) (h0 : G h)
    (hc : ∀ h, G h → ck h) (fin : ∀ h, G h → Q ((xs.filter p).map g) h)
    (step : ∀ x h (K : Option D → AH → Prop), x ∈ xs → G h → (∀ h', G h' → K (if p x = true then some (g x) else none) h') → tgW tg (f x) s fun s1 => c s1 h fun b h1 => if b = true then e s1 h1 fun d h2 => K (some d) h2 else K none h1) :
    lcW ck tg c e (xs.map f) [] s h Q := by
  have mono : ∀ (l : List β) (acc : List D) (h : AH) (r : List β), l ++ r = xs → acc = (l.filter p).map g → G h → lcW ck tg c e (r.map f) acc s h Q := by
    intro l acc h r
    induction r generalizing l acc h with
    | nil =>
      intro ee ea gh
      rw [List.append_nil] at ee
      subst ee ea
      exact ⟨hc h gh, fin h gh⟩
    | cons x r ih =>
      intro ee ea gh
      obtain ⟨hx, hl⟩ := map_mem_split ee
      have lz : acc.length < SZ := by
        rw [ea, List.length_map]
        exact Nat.lt_of_le_of_lt (List.length_filter_le _ _) (Nat.lt_of_lt_of_le hl hz)
      have ih1 := fun h' gh' => ih (l ++ [x]) (acc ++ (if p x = true then [g x] else [])) h' (by simpa using ee) (by rw [ea, List.filter_append, List.map_append]; by_cases hp : p x = true <;> simp [hp]) gh'
      refine ⟨hc h gh, step x h (fun o h' => match o with
        | some d => acc.length < SZ ∧ lcW ck tg c e (r.map f) (acc ++ [d]) s h' Q
        | none => lcW ck tg c e (r.map f) acc s h' Q) hx gh fun h' gh' => ?_⟩
      have := ih1 h' gh'
      by_cases hp : p x = true
      · simp only [hp, if_true] at this ⊢
        exact ⟨lz, this⟩
      · have hp' : p x = false := by simpa using hp
        simp only [hp', Bool.false_eq_true, if_false, List.append_nil] at this ⊢
        exact this
  exact mono [] [] h xs rfl rfl h0
theorem lcW_all {f : β → D} {ck : AH → Prop} {tg : Tg} {c : Sa → AH → (Bool → AH → Prop) → Prop} {e : Sa → AH → QD → Prop} {Q : QL} {xs : List β} {s : Sa} {h : AH} (G : AH → Prop) (g : β → D) (hz : xs.length ≤ SZ) (h0 : G h)
    (hc : ∀ h, G h → ck h) (fin : ∀ h, G h → Q (xs.map g) h)
    (step : ∀ x h (K : Option D → AH → Prop), x ∈ xs → G h → (∀ h', G h' → K (some (g x)) h') → tgW tg (f x) s fun s1 => c s1 h fun b h1 => if b = true then e s1 h1 fun d h2 => K (some d) h2 else K none h1) :
    lcW ck tg c e (xs.map f) [] s h Q :=
  lcW_pure G (fun _ => true) g hz h0 hc (fun h gh => by rw [List.filter_eq_self.mpr fun _ _ => rfl]; exact fin h gh) fun x h K hx gh hK => step x h K hx gh fun h' gh' => by simpa using hK h' gh'
end
@[simp] theorem sorted_ref (h : AH) (n : Nat) (Q : QD) : bfW h .sorted [.ref n] Q = oL (getL h n) (getK h n) (fun xs => xs.length ≤ SZ ∧ sortOk xs ∧ Q (.ref h.length) (h ++ [.lst (sortD xs)])) fun kvs => kvs.length < 64 ∧ ((∃ ks : List (List Nat), kvs.map (·.1) = ks.map Sum.inr ∧ ∀ ks' : List (List Nat), ks'.Perm ks → ks'.Pairwise (· ≤ ·) → Q (.ref h.length) (h ++ [.lst (ks'.map .str)])) ∨
      ∃ ks : List Int, kvs.map (·.1) = ks.map Sum.inl ∧ ∀ ks' : List Int, ks'.Perm ks → ks'.Pairwise (· ≤ ·) → Q (.ref h.length) (h ++ [.lst (ks'.map .int)])) := oL_eq rfl
@[simp] theorem sorted_tup (h : AH) (xs : List D) (Q : QD) : bfW h .sorted [.tup xs] Q = (xs.length ≤ SZ ∧ sortOk xs ∧ Q (.ref h.length) (h ++ [.lst (sortD xs)])) := propext ⟨fun ⟨_, e, q⟩ => by cases e; exact q, fun q => ⟨_, rfl, q⟩⟩
@[simp] theorem dict_ref (h : AH) (n : Nat) (Q : QD) : bfW h .dnew [.ref n] Q = oL (getL h n) (getK h n) (fun xs => optK (pairsOf xs) fun kvs => Q (.ref h.length) (h ++ [.dk (mergeD [] kvs)])) fun kvs => Q (.ref h.length) (h ++ [.dk kvs]) := by
  have e : bfW h .dnew [.ref n] Q = (match getK h n with
    | some kvs => Q (.ref h.length) (h ++ [.dk kvs])
    | none => ∃ xs kvs, itemsOf h (.ref n) = some xs ∧ pairsOf xs = some kvs ∧ Q (.ref h.length) (h ++ [.dk (mergeD [] kvs)])) := rfl
  rw [e]
  cases hk : getK h n with
  | some kvs => rw [getL_of_getK hk]; simp
  | none =>
    rw [show itemsOf h (.ref n) = getL h n from rfl]
    cases hl : getL h n with
    | none => simp
    | some xs =>
      simp only [oL_some]
      exact propext ⟨fun ⟨_, kvs, a, b, c⟩ => by cases a; exact ⟨kvs, b, c⟩, fun ⟨kvs, b, c⟩ => ⟨xs, kvs, rfl, b, c⟩⟩
@[simp] theorem dict_tup (h : AH) (xs : List D) (Q : QD) : bfW h .dnew [.tup xs] Q = optK (Rf.pairsOf xs) fun kvs => Q (.ref h.length) (h ++ [O.dk (mergeD [] kvs)]) := by
  show (∃ ys kvs, itemsOf h (.tup xs) = some ys ∧ Rf.pairsOf ys = some kvs ∧ Q (.ref h.length) (h ++ [O.dk (mergeD [] kvs)])) = _
  apply propext
  have e : itemsOf h (.tup xs) = some xs := rfl
  constructor
  · rintro ⟨ys, kvs, e', p, q⟩
    rw [e] at e'
    cases e'
    exact ⟨kvs, p, q⟩
  · rintro ⟨kvs, p, q⟩
    exact ⟨xs, kvs, e, p, q⟩
end Rf
namespace Lw
open PySem PySem.Spec PyProof.Rows L2 Rf
abbrev Nme := List Nat
structure Kn where
  k : Nme
  es : List Nme
  rest : List D
def tupS (es : List Nme) : D := .tup (es.map .str)
def Kn.d (r : Kn) : D := .tup (.str r.k :: tupS r.es :: r.rest)
def kinds (F : List Kn) : List Nme := F.map (·.k)
def elders (F : List Kn) (k : Nme) : List Nme := match F.find? fun r => decide (r.k = k) with
  | some r => r.es
  | none => []
def OkN (x : Nme) : Prop := strOkL x = true
structure FOk (F : List Kn) : Prop where
  k : ∀ r ∈ F, OkN r.k
  e : ∀ r ∈ F, ∀ x ∈ r.es, OkN x
  z : F.length ≤ 100
  ez : ∀ r ∈ F, r.es.length ≤ 100
structure HFa (P : Prg) (c : Nat → Nat) : Prop where
  kinds_of : P[c if_kinds_of]? = some ⟨1, 2, s_kinds_of c⟩
  elders_of : P[c if_elders_of]? = some ⟨2, 3, s_elders_of c⟩
  come_to : P[c if_come_to]? = some ⟨2, 5, s_come_to c⟩
  check_kind : P[c if_check_kind]? = some ⟨2, 2, s_check_kind c⟩
structure HFa0 (P : Prg) (c : Nat → Nat) : Prop where
  kinds_of : P[c if_kinds_of]? = some ⟨1, 2, s_kinds_of c⟩
  elders_of : P[c if_elders_of]? = some ⟨2, 3, s_elders_of c⟩
  come_to : P[c if_come_to]? = some ⟨2, 5, s_come_to c⟩
theorem HFa.to0 {P : Prg} {c : Nat → Nat} (H : HFa P c) : HFa0 P c := ⟨H.kinds_of, H.elders_of, H.come_to⟩
variable {P : Prg} {c : Nat → Nat} {n : Nat} {F : List Kn} {h : AH} {Q : QD} {E : EC}
theorem elders_okN (ok : FOk F) (k : Nme) : ∀ x ∈ elders F k, OkN x := by
  unfold elders
  split
  · rename_i r e
    exact ok.e r (List.mem_of_find?_eq_some e)
  · simp
inductive Up (F : List Kn) : Nme → Nme → Prop
  | one {x y : Nme} : y ∈ elders F x → Up F x y
  | step {x y z : Nme} : Up F x y → z ∈ elders F y → Up F x z
theorem Up.trans {x y z : Nme} (a : Up F x y) (b : Up F y z) : Up F x z := by
  induction b with
  | one e => exact .step a e
  | step _ e ih => exact .step ih e
end Lw
namespace Lw
open PySem PySem.Spec PyProof.Rows L2 Rf
variable {P : Prg} {c : Nat → Nat} {n : Nat} {F : List Kn} {h : AH} {Q : QD} {E : EC}
theorem oksN {k : Nat} {us : List Nme} (hu : ∀ u ∈ us, OkN u) : D.oks k (us.map .str) = true := oks_str hu
structure Met (F : List Kn) (k : Nme) (met : List Nme) : Prop where
  nd : met.Nodup
  up : ∀ x, x ∈ met ↔ Up F k x
structure ComeI (F : List Kn) (k : Nme) (met left : List Nme) : Prop where
  nd : met.Nodup
  m : ∀ x ∈ met, Up F k x
  l : ∀ x ∈ left, Up F k x
  cl : ∀ x ∈ met, ∀ e ∈ elders F x, e ∈ met ∨ e ∈ left
  st : ∀ e ∈ elders F k, e ∈ met ∨ e ∈ left
theorem ComeI.done {k : Nme} {met : List Nme} (i : ComeI F k met []) : Met F k met := by
  refine ⟨i.nd, fun x => ⟨i.m x, fun u => ?_⟩⟩
  induction u with
  | one e => simpa using i.st _ e
  | step _ e ih => simpa using i.cl _ ih _ e
theorem ComeI.skip {k x : Nme} {met left : List Nme} (i : ComeI F k met (left ++ [x])) (hx : x ∈ met) : ComeI F k met left := by
  refine ⟨i.nd, i.m, fun y hy => i.l y (by simp [hy]), fun y hy e he => ?_, fun e he => ?_⟩
  · rcases i.cl y hy e he with h | h
    · exact .inl h
    · rcases List.mem_append.mp h with h | h
      · exact .inr h
      · simp at h; subst h; exact .inl hx
  · rcases i.st e he with h | h
    · exact .inl h
    · rcases List.mem_append.mp h with h | h
      · exact .inr h
      · simp at h; subst h; exact .inl hx
theorem ComeI.go {k x : Nme} {met left : List Nme} (i : ComeI F k met (left ++ [x])) (hx : x ∉ met) : ComeI F k (met ++ [x]) (left ++ elders F x) := by
  have ux : Up F k x := i.l x (by simp)
  refine ⟨?_, fun y hy => ?_, fun y hy => ?_, fun y hy e he => ?_, fun e he => ?_⟩
  · rw [List.nodup_append]
    exact ⟨i.nd, by simp, fun a ha b hb e => by simp at hb; subst hb; subst e; exact hx ha⟩
  · rcases List.mem_append.mp hy with h | h
    · exact i.m y h
    · simp at h; subst h; exact ux
  · rcases List.mem_append.mp hy with h | h
    · exact i.l y (by simp [h])
    · exact .step ux h
  · rcases List.mem_append.mp hy with h | h
    · rcases i.cl y h e he with h | h
      · exact .inl (by simp [h])
      · rcases List.mem_append.mp h with h | h
        · exact .inr (by simp [h])
        · exact .inl (by simp at h; simp [h])
    · simp at h; subst h; exact .inr (by simp [he])
  · rcases i.st e he with h | h
    · exact .inl (by simp [h])
    · rcases List.mem_append.mp h with h | h
      · exact .inr (by simp [h])
      · exact .inl (by simp at h; simp [h])
theorem ComeI.okN (ok : FOk F) {k : Nme} {met left : List Nme} (i : ComeI F k met left) : (∀ x ∈ met, OkN x) ∧ ∀ x ∈ left, OkN x := by
  have up : ∀ x, Up F k x → OkN x := fun x u => by
    cases u with
    | one e => exact elders_okN ok _ _ e
    | step _ e => exact elders_okN ok _ _ e
  exact ⟨fun x hx => up x (i.m x hx), fun x hx => up x (i.l x hx)⟩
end Lw
namespace Lw
open PySem PySem.Spec PyProof.Rows L2 Rf
variable {P : Prg} {c : Nat → Nat} {n : Nat} {F : List Kn} {h : AH} {Q : QD} {E : EC}
open Classical in
noncomputable def upB (F : List Kn) (k x : Nme) : Bool := decide (Up F k x)
theorem upB_iff {k x : Nme} : upB F k x = true ↔ Up F k x := by unfold upB; simp
noncomputable def aboveL (F : List Kn) (k : Nme) : List Nme := (kinds F).filter fun x => upB F k x
theorem kinds_len : (kinds F).length = F.length := by simp [kinds]
structure HAb (P : Prg) (c : Nat → Nat) : Prop extends HFa P c where
  above : P[c if_above]? = some ⟨2, 4, s_above c⟩
structure HBe (P : Prg) (c : Nat → Nat) : Prop extends HFa P c where
  beneath : P[c if_beneath]? = some ⟨2, 3, s_beneath c⟩
end Lw
namespace Lw
open PySem PySem.Spec PyProof.Rows L2 Rf
variable {P : Prg} {c : Nat → Nat} {n : Nat} {h : AH} {Q : QD} {E : EC}
structure HTk (P : Prg) (c : Nat → Nat) : Prop where
  take : P[c if_l_take]? = some ⟨2, 4, s_l_take c⟩
theorem HTk.t (H : HTk P c) : P[c if_l_take]? = some ⟨2, 4, bTake⟩ := H.take
theorem take_k (H : HTk P c) {p : Nat} {m : Int} (hp : Purse h p) (hm : 0 < m) (hm2 : m < 2 ^ 199)
    (k : ∀ (t : Nat) h', (t : Int) < m → Purse h' p → Keep [p] h h' → h'.length = h.length → Q (.int t) h') : wC P (n + 1) (c if_l_take) [.ref p, .int m] h Q E :=
  take_ok H.t hp hm hm2 fun t h' t0 t1 hp' kp hl => by
    obtain ⟨t, rfl⟩ : ∃ k : Nat, t = (k : Int) := ⟨t.toNat, by omega⟩
    exact k t h' t1 hp' kp hl
structure HWd (P : Prg) (c : Nat → Nat) : Prop extends HTk P c where
  word : P[c if_l_word]? = some ⟨2, 5, s_l_word c⟩ ∨ P[c if_l_word]? = some ⟨2, 6, s_l_word_v1 c⟩
theorem at_abc {t : Nat} (h : t < 26) : ∃ x, L2.atI abc (t : Int) = some x ∧ 97 ≤ x ∧ x ≤ 122 := by
  have hl : t < abc.length := by simpa [abc] using h
  refine ⟨abc[t], by rw [Rf.atI_nat, List.getElem?_eq_getElem hl], ?_⟩
  exact abc_mem.mp (List.getElem_mem hl)
theorem Word.okN {w : Nme} (h : Word w) : OkN w := h.ok
end Lw
namespace Lw
open PySem PySem.Spec PyProof.Rows L2 Rf
variable {P : Prg} {c : Nat → Nat} {n : Nat} {h : AH} {Q : QD} {E : EC}
structure HNm (P : Prg) (c : Nat → Nat) : Prop extends HWd P c where
  names : P[c if_l_names]? = some ⟨3, 11, s_l_names c⟩
structure Ws (us ws : List Nme) : Prop where
  nd : ws.Nodup
  w : ∀ x ∈ ws, Word x
  no : ∀ x ∈ ws, x ∉ us
theorem Ws.snoc {us ws : List Nme} {x : Nme} (a : Ws us ws) (hx : Word x) (h : x ∉ us ++ ws) : Ws us (ws ++ [x]) := by
  simp only [List.mem_append, not_or] at h
  refine ⟨?_, fun y hy => ?_, fun y hy => ?_⟩
  · rw [List.nodup_append]
    exact ⟨a.nd, by simp, fun p hp q hq e => by simp at hq; subst hq; subst e; exact h.2 hp⟩
  · rcases List.mem_append.mp hy with hy | hy
    · exact a.w y hy
    · simp at hy; subst hy; exact hx
  · rcases List.mem_append.mp hy with hy | hy
    · exact a.no y hy
    · simp at hy; subst hy; exact h.1
end Lw
namespace Lw
open PySem PySem.Spec PyProof.Rows L2 Rf
variable {P : Prg} {c : Nat → Nat} {n : Nat} {h : AH} {Q : QD} {E : EC}
structure HSo (P : Prg) (c : Nat → Nat) : Prop extends HNm P c where
  some_ : P[c if_l_some]? = some ⟨3, 6, s_l_some c⟩
structure Some' (menu es : List Nme) : Prop where
  nd : es.Nodup
  sub : ∀ x ∈ es, x ∈ menu
structure HAl (P : Prg) (c : Nat → Nat) : Prop extends HSo P c where
  all_ : P[c if_l_all]? = some ⟨3, 6, s_l_all c⟩
end Lw
namespace Lw
open PySem PySem.Spec PyProof.Rows L2 Rf
variable {P : Prg} {c : Nat → Nat} {n : Nat} {h : AH} {Q : QD} {E : EC}
structure Fam (F : List Kn) : Prop where
  nd : (kinds F).Nodup
  w : ∀ x ∈ kinds F, Word x
  sub : ∀ r ∈ F, Some' (kinds F) r.es
  rest : ∀ r ∈ F, r.rest = []
  len : 1 ≤ F.length ∧ F.length ≤ 7
  rk : ∃ rk : Nme → Nat, ∀ r ∈ F, rk r.k < 7 ∧ ∀ e ∈ r.es, rk e < rk r.k
theorem Fam.ok {F : List Kn} (f : Fam F) : FOk F := by
  refine ⟨fun r hr => Rf.Word.ok (f.w _ (List.mem_map_of_mem hr)), fun r hr x hx => Rf.Word.ok (f.w x ((f.sub r hr).sub x hx)), by have := f.len; omega, fun r hr => ?_⟩
  have := List.Nodup.length_le_of_subset (f.sub r hr).nd (f.sub r hr).sub
  have h2 := f.len
  rw [kinds_len] at this
  omega
structure Rws' (ws : List Nme) (rows : List Kn) : Prop where
  k : rows.map (·.k) = ws.take rows.length
  e : ∀ i r, rows[i]? = some r → Some' (ws.take i) r.es
  rest : ∀ r ∈ rows, r.rest = []
theorem Rws'.snoc {ws : List Nme} {rows : List Kn} {x : Nme} {es : List Nme} (a : Rws' ws rows) (hx : ws[rows.length]? = some x) (s : Some' (ws.take rows.length) es) : Rws' ws (rows ++ [⟨x, es, []⟩]) := by
  refine ⟨?_, fun i r hr => ?_, fun r hr => ?_⟩
  · rw [List.map_append, a.k, List.length_append]
    show _ ++ [x] = _
    rw [show [(⟨x, es, []⟩ : Kn)].length = 1 from rfl, List.take_add_one, hx]
    rfl
  · by_cases hi : i < rows.length
    · rw [List.getElem?_append_left hi] at hr
      exact a.e i r hr
    · rw [List.getElem?_append_right (by omega)] at hr
      have hi2 : i = rows.length := by
        by_cases h0 : i - rows.length = 0
        · omega
        · obtain ⟨j, hj⟩ : ∃ j, i - rows.length = j + 1 := ⟨i - rows.length - 1, by omega⟩
          rw [hj] at hr
          simp at hr
      subst hi2
      simp at hr
      subst hr
      exact s
  · rcases List.mem_append.mp hr with hr | hr
    · exact a.rest r hr
    · simp at hr; subst hr; rfl
theorem Rws'.fam {us ws : List Nme} {rows F : List Kn} (a : Rws' ws rows) (W : Ws us ws) (hl : rows.length = ws.length) (h1 : 1 ≤ ws.length) (h7 : ws.length ≤ 7) (pm : F.Perm rows) : Fam F := by
  have ek : rows.map (·.k) = ws := by rw [a.k, hl, List.take_length]
  have pk : (kinds F).Perm ws := by rw [← ek]; exact pm.map _
  have at_ : ∀ r ∈ F, ∃ i, rows[i]? = some r := fun r hr => List.getElem?_of_mem (pm.mem_iff.mp hr)
  have kat : ∀ (i : Nat) (r : Kn), rows[i]? = some r → ws[i]? = some r.k := fun i r hr => by rw [← ek, List.getElem?_map, hr]; rfl
  refine ⟨pk.nodup_iff.mpr W.nd, fun x hx => W.w x (pk.mem_iff.mp hx), fun r hr => ?_, fun r hr => a.rest r (pm.mem_iff.mp hr), by rw [pm.length_eq, hl]; exact ⟨h1, h7⟩, fun x => ws.idxOf x, fun r hr => ?_⟩
  · obtain ⟨i, hi⟩ := at_ r hr
    have s := a.e i r hi
    exact ⟨s.nd, fun x hx => pk.mem_iff.mpr (List.mem_of_mem_take (s.sub x hx))⟩
  · obtain ⟨i, hi⟩ := at_ r hr
    have s := a.e i r hi
    have hk := kat i r hi
    have hil := (List.getElem?_eq_some_iff.mp hk).1
    have ei : ws.idxOf r.k = i := by
      have := List.getElem?_eq_some_iff.mp hk
      rw [← this.2]
      exact List.Nodup.idxOf_getElem W.nd i hil
    refine ⟨by show List.idxOf r.k ws < 7; rw [ei]; omega, fun x hx => ?_⟩
    show List.idxOf x ws < List.idxOf r.k ws
    rw [ei]
    have hxt := s.sub x hx
    obtain ⟨j, hj⟩ := List.getElem?_of_mem hxt
    have hjl := (List.getElem?_eq_some_iff.mp hj).1
    rw [List.length_take] at hjl
    have hj2 : ws[j]? = some x := by rw [List.getElem?_take] at hj; split at hj <;> first | exact hj | cases hj
    have hjl2 := (List.getElem?_eq_some_iff.mp hj2)
    have ej : ws.idxOf x = j := by
      rw [← hjl2.2]
      exact List.Nodup.idxOf_getElem W.nd j hjl2.1
    omega
instance : Inhabited Kn := ⟨⟨[], [], []⟩⟩
structure HFm (P : Prg) (c : Nat → Nat) : Prop extends HAl P c where
  family : P[c if_l_family]? = some ⟨2, 10, s_l_family c⟩
structure FamW (F : List Kn) : Prop where
  w : ∀ r ∈ F, Word r.k ∧ (∀ x ∈ r.es, Word x) ∧ r.es.length ≤ 7 ∧ r.rest = []
  len : 1 ≤ F.length ∧ F.length ≤ 8
  nd : (kinds F).Nodup
  fam : F.length ≤ 7 → Fam F
end Lw
namespace Lw
open PySem PySem.Spec PyProof.Rows L2 Rf
variable {P : Prg} {c : Nat → Nat} {n : Nat} {h : AH} {Q : QD} {E : EC}
theorem Fam.ws {F : List Kn} (f : Fam F) : Ws [] (kinds F) := ⟨f.nd, f.w, fun _ _ => by simp⟩
structure HAg (P : Prg) (c : Nat → Nat) : Prop extends HSo P c where
  again : P[c if_l_again]? = some ⟨2, 6, s_l_again c⟩
end Lw
namespace Lw
open PySem PySem.Spec PyProof.Rows L2 Rf
abbrev kvN (ks : List Nme) (f : Nme → D) : List (Kd × D) := ks.map fun x => (.inr x, f x)
theorem valD_N {f : Nme → D} {k : Nme} : ∀ {ks : List Nme}, k ∈ ks → valD (kvN ks f) (.inr k) = some (f k)
  | x :: ks, h => by
    unfold valD
    by_cases e : x = k
    · subst e; simp
    · have h' : k ∈ ks := by
        rcases List.mem_cons.mp h with z | z
        · exact absurd z.symm e
        · exact z
      have := valD_N (f := f) h'
      unfold valD at this
      simpa [List.find?_cons, e] using this
variable {F : List Kn}
def Path (F : List Kn) : Nat → Nme → Nme → Prop
  | 0, x, y => x = y
  | m + 1, x, z => ∃ y, y ∈ elders F x ∧ Path F m y z
theorem Path.up : ∀ {m : Nat} {x y : Nme}, Path F (m + 1) x y → Up F x y
  | 0, x, z, ⟨y, h1, h2⟩ => by cases h2; exact .one h1
  | m + 1, x, z, ⟨y, h1, h2⟩ => (Up.one h1).trans (Path.up h2)
theorem Path.snoc : ∀ {m : Nat} {x y z : Nme}, Path F m x y → z ∈ elders F y → Path F (m + 1) x z
  | 0, x, y, z, h, e => by cases h; exact ⟨z, e, rfl⟩
  | m + 1, x, y, z, ⟨w, h1, h2⟩, e => ⟨w, h1, Path.snoc h2 e⟩
theorem Path.cut : ∀ {a b : Nat} {x z : Nme}, Path F (a + b) x z → ∃ y, Path F a x y ∧ Path F b y z
  | 0, b, x, z, h => ⟨x, rfl, by simpa using h⟩
  | a + 1, b, x, z, h => by
    rw [show a + 1 + b = (a + b) + 1 by omega] at h
    obtain ⟨w, h1, h2⟩ := h
    obtain ⟨y, h3, h4⟩ := Path.cut h2
    exact ⟨y, ⟨w, h1, h3⟩, h4⟩
theorem Fam.elder {F : List Kn} (f : Fam F) {x y : Nme} (h : y ∈ elders F x) : y ∈ kinds F ∧ x ∈ kinds F := by
  unfold elders at h
  split at h
  · rename_i r e
    have hr := List.mem_of_find?_eq_some e
    have hk := List.find?_some e
    simp at hk
    exact ⟨(f.sub r hr).sub y h, by rw [← hk]; exact List.mem_map_of_mem hr⟩
  · cases h
theorem Fam.up_in {F : List Kn} (f : Fam F) {x y : Nme} (u : Up F x y) : y ∈ kinds F := by
  cases u with
  | one e => exact (f.elder e).1
  | step _ e => exact (f.elder e).1
structure Cov (F : List Kn) (k : Nat) (x : Nme) (s : List Nme) : Prop where
  up : ∀ y ∈ s, Up F x y
  all : ∀ m y, m + 1 ≤ k → Path F (m + 1) x y → y ∈ s
end Lw
namespace Lw
open PySem PySem.Spec PyProof.Rows L2 Rf
variable {P : Prg} {c : Nat → Nat} {n : Nat} {F : List Kn} {h : AH} {Q : QD} {E : EC}
structure HCl (P : Prg) (c : Nat → Nat) : Prop where
  closed : P[c if_l_closed]? = some ⟨1, 9, s_l_closed c⟩
structure Tb (ks : List Nme) (d : Nat) (loc : Nme → Nat) (S : Nme → List Nme) (h : AH) : Prop where
  d_ : getW h d = some (kvN ks fun x => .ref (loc x))
  at_ : ∀ x ∈ ks, getL h (loc x) = some ((S x).map .str)
theorem Tb.keep {ks : List Nme} {d : Nat} {loc : Nme → Nat} {S : Nme → List Nme} {h h' : AH} (t : Tb ks d loc S h) (k : Keep [] h h') : Tb ks d loc S h' := ⟨k.getW t.d_ (by simp), fun x hx => k.get (t.at_ x hx) (by simp)⟩
theorem Tb.K {ks : List Nme} {d : Nat} {loc : Nme → Nat} {S : Nme → List Nme} {h : AH} (t : Tb ks d loc S h) : getK h d = some (kvN ks fun x => .ref (loc x)) := getK_of_getW t.d_
theorem Tb.L {ks : List Nme} {d : Nat} {loc : Nme → Nat} {S : Nme → List Nme} {h : AH} (t : Tb ks d loc S h) : getL h d = none := getL_of_getK t.K
theorem Tb.ne {ks : List Nme} {d : Nat} {loc : Nme → Nat} {S : Nme → List Nme} {h : AH} (t : Tb ks d loc S h) {x : Nme} (hx : x ∈ ks) : d ≠ loc x := fun e => by
  have h1 := t.at_ x hx
  rw [← e, t.L] at h1
  cases h1
theorem Tb.val {ks : List Nme} {d : Nat} {loc : Nme → Nat} {S : Nme → List Nme} {h : AH} (t : Tb ks d loc S h) {x : Nme} (hx : x ∈ ks) : valD (kvN ks fun x => D.ref (loc x)) (.inr x) = some (.ref (loc x)) := valD_N (f := fun x => D.ref (loc x)) hx
end Lw
namespace Lw
open PySem PySem.Spec PyProof.Rows L2 Rf
abbrev Rows := List (List Nme)
def freeH (rows : Rows) (x : Nme) : Bool := rows.all fun r => decide (x ∉ r.tail)
def hdF (R : Rows) : List Nme → Option Nme
  | [] => none
  | x :: _ => if freeH R x = true then some x else none
def nxt (rows : Rows) : Option Nme := rows.findSome? (hdF rows)
def strike (x : Nme) (rows : Rows) : Rows := rows.map fun r => r.filter fun y => decide (y ≠ x)
def tot (rows : Rows) : Nat := (rows.map List.length).sum
theorem nxt_some {rows : Rows} {x : Nme} (h : nxt rows = some x) : (∃ t, (x :: t) ∈ rows) ∧ freeH rows x = true := by
  unfold nxt at h
  obtain ⟨r, hr, e⟩ := List.exists_of_findSome?_eq_some h
  cases r with
  | nil => cases e
  | cons y t =>
    simp only [hdF] at e
    split at e
    · rename_i hf
      cases e
      exact ⟨⟨t, hr⟩, hf⟩
    · cases e
theorem tot_strike {rows : Rows} {x : Nme} : tot (strike x rows) ≤ tot rows := by
  unfold tot strike
  induction rows with
  | nil => simp
  | cons r rows ih =>
    simp only [List.map_cons, List.sum_cons]
    have := List.length_filter_le (fun y => decide (y ≠ x)) r
    omega
theorem tot_lt {x : Nme} {t : List Nme} : ∀ {rows : Rows}, (x :: t) ∈ rows → tot (strike x rows) < tot rows
  | r :: rows, h => by
    have e : tot (strike x (r :: rows)) = (r.filter fun y => decide (y ≠ x)).length + tot (strike x rows) := rfl
    have e2 : tot (r :: rows) = r.length + tot rows := rfl
    rw [e, e2]
    rcases List.mem_cons.mp h with rfl | h
    · have h1 : ((x :: t).filter fun y => decide (y ≠ x)).length ≤ t.length := by
        simp only [List.filter_cons, ne_eq, not_true_eq_false, decide_false, Bool.false_eq_true, if_false]
        exact List.length_filter_le _ _
      have := tot_strike (rows := rows) (x := x)
      simp only [List.length_cons]
      omega
    · have := tot_lt h
      have := List.length_filter_le (fun y => decide (y ≠ x)) r
      omega
inductive Mg : Rows → List Nme → Rows → Prop
  | stop {rows : Rows} : nxt rows = none → Mg rows [] rows
  | go {rows : Rows} {x : Nme} {t : List Nme} {l : Rows} : nxt rows = some x → Mg (strike x rows) t l → Mg rows (x :: t) l
theorem Mg.det {rows : Rows} {t t' : List Nme} {l l' : Rows} (a : Mg rows t l) (b : Mg rows t' l') : t = t' ∧ l = l' := by
  induction a generalizing t' l' with
  | stop h =>
    cases b with
    | stop _ => exact ⟨rfl, rfl⟩
    | go h' _ => rw [h] at h'; cases h'
  | go h _ ih =>
    cases b with
    | stop h' => rw [h] at h'; cases h'
    | go h' q =>
      rw [h] at h'
      cases h'
      obtain ⟨e1, e2⟩ := ih q
      exact ⟨by rw [e1], e2⟩
theorem Mg.ex : ∀ (m : Nat) (rows : Rows), tot rows ≤ m → ∃ t l, Mg rows t l
  | m, rows, hm => by
    cases h : nxt rows with
    | none => exact ⟨[], rows, .stop h⟩
    | some x =>
      obtain ⟨⟨t, ht⟩, _⟩ := nxt_some h
      have := tot_lt ht
      match m, hm with
      | 0, hm => omega
      | m + 1, hm =>
        obtain ⟨t', l, q⟩ := Mg.ex m (strike x rows) (by omega)
        exact ⟨x :: t', l, .go h q⟩
def ended (rows : Rows) : Bool := rows.all fun r => r.isEmpty
open Classical in
noncomputable def mergeO (rows : Rows) : Option (List Nme) := if h : ∃ t l, Mg rows t l ∧ ended l = true then some h.choose else none
theorem mergeO_some {rows : Rows} {t : List Nme} {l : Rows} (m : Mg rows t l) (e : ended l = true) : mergeO rows = some t := by
  have h : ∃ t l, Mg rows t l ∧ ended l = true := ⟨t, l, m, e⟩
  unfold mergeO
  rw [dif_pos h]
  obtain ⟨l', m', _⟩ := h.choose_spec
  rw [(m.det m').1]
end Lw
namespace Lw
open PySem PySem.Spec PyProof.Rows L2 Rf
variable {P : Prg} {c : Nat → Nat} {n : Nat} {h : AH} {Q : QD} {E : EC}
structure ROk (rows : Rows) : Prop where
  n : ∀ r ∈ rows, ∀ x ∈ r, OkN x
  z : rows.length ≤ 200
  rz : ∀ r ∈ rows, r.length ≤ 200
structure HMg (P : Prg) (c : Nat → Nat) : Prop where
  next_kind : P[c if_next_kind]? = some ⟨1, 3, s_next_kind c⟩
  struck : P[c if_struck]? = some ⟨2, 4, s_struck c⟩
  merged : P[c if_merged]? = some ⟨1, 4, s_merged c⟩
end Lw
namespace Lw
open PySem PySem.Spec PyProof.Rows L2 Rf
variable {P : Prg} {c : Nat → Nat} {n : Nat} {h : AH} {Q : QD} {E : EC}
theorem ROk.strike {rows : Rows} (ok : ROk rows) (x : Nme) : ROk (strike x rows) := by
  refine ⟨fun r hr y hy => ?_, by simp [Lw.strike]; exact ok.z, fun r hr => ?_⟩
  · obtain ⟨r', hr', rfl⟩ := List.mem_map.mp hr
    exact ok.n r' hr' y (List.mem_filter.mp hy).1
  · obtain ⟨r', hr', rfl⟩ := List.mem_map.mp hr
    exact Nat.le_trans (List.length_filter_le _ _) (ok.rz r' hr')
end Lw
namespace Lw
open PySem PySem.Spec PyProof.Rows L2 Rf
def allS : List (Option (List Nme)) → Option Rows
  | [] => some []
  | none :: _ => none
  | some x :: l => (allS l).map (x :: ·)
noncomputable def stepO (k : Nme) (es : List Nme) (os : List (Option (List Nme))) : Option (List Nme) := (allS os).bind fun rows => (mergeO (rows ++ [es])).map (k :: ·)
noncomputable def orF (F : List Kn) : Nat → Nme → Option (List Nme)
  | 0, _ => none
  | m + 1, k => stepO k (elders F k) ((elders F k).map (orF F m))
noncomputable def Or (F : List Kn) : Nme → Option (List Nme) := orF F 8
variable {F : List Kn}
theorem Mg.in_ {rows l : Rows} {t : List Nme} (m : Mg rows t l) : ∀ x ∈ t, ∃ r ∈ rows, x ∈ r := by
  induction m with
  | stop _ => intro x hx; cases hx
  | go h _ ih =>
    intro y hy
    rcases List.mem_cons.mp hy with rfl | hy
    · obtain ⟨⟨t, ht⟩, _⟩ := nxt_some h
      exact ⟨_, ht, List.mem_cons_self⟩
    · obtain ⟨r, hr, hyr⟩ := ih y hy
      obtain ⟨r', hr', rfl⟩ := List.mem_map.mp hr
      exact ⟨r', hr', (List.mem_filter.mp hyr).1⟩
theorem Mg.nodup {rows l : Rows} {t : List Nme} (m : Mg rows t l) : t.Nodup := by
  induction m with
  | stop _ => exact List.nodup_nil
  | go h q ih =>
    refine List.nodup_cons.mpr ⟨fun hx => ?_, ih⟩
    obtain ⟨r, hr, hyr⟩ := q.in_ _ hx
    obtain ⟨r', hr', rfl⟩ := List.mem_map.mp hr
    have := (List.mem_filter.mp hyr).2
    simp at this
theorem mergeO_in {rows : Rows} {t : List Nme} (h : mergeO rows = some t) : ∃ l, Mg rows t l ∧ ended l = true := by
  unfold mergeO at h
  split at h
  · rename_i hh
    cases h
    exact hh.choose_spec
  · cases h
def GO (g : Nme → Option (List Nme)) (ks : List Nme) : Prop := ∀ x ∈ ks, ∀ r, g x = some r → (∀ y ∈ r, OkN y) ∧ r.length ≤ 100
variable {P : Prg} {c : Nat → Nat} {n : Nat} {h : AH} {Q : QD} {E : EC}
structure HOb (P : Prg) (c : Nat → Nat) : Prop extends HMg P c where
  rows_by : P[c if_rows_by]? = some ⟨2, 4, s_rows_by c⟩
  order_by : P[c if_order_by]? = some ⟨3, 7, s_order_by c⟩
end Lw
namespace Lw
open PySem PySem.Spec PyProof.Rows L2 Rf
variable {P : Prg} {c : Nat → Nat} {n : Nat} {F : List Kn} {h : AH} {Q : QD} {E : EC}
theorem Mg.len {rows l : Rows} {t : List Nme} (m : Mg rows t l) : t.length ≤ tot rows := by
  induction m with
  | stop _ => simp
  | go h _ ih =>
    obtain ⟨⟨t, ht⟩, _⟩ := nxt_some h
    have := tot_lt ht
    simp only [List.length_cons]
    omega
structure HAo (P : Prg) (c : Nat → Nat) : Prop extends HOb P c where
  fa : HFa P c
  all_orders : P[c if_all_orders]? = some ⟨1, 6, s_all_orders c⟩
structure HAo0 (P : Prg) (c : Nat → Nat) : Prop extends HOb P c where
  fa : HFa0 P c
  all_orders : P[c if_all_orders]? = some ⟨1, 6, s_all_orders c⟩
theorem HAo.to0 (H : HAo P c) : HAo0 P c := ⟨H.toHOb, H.fa.to0, H.all_orders⟩
end Lw
namespace Lw
open PySem PySem.Spec PyProof.Rows L2 Rf
variable {P : Prg} {c : Nat → Nat} {n : Nat} {F : List Kn} {h : AH} {Q : QD} {E : EC}
structure Rl (h : AH) (q : Nat) (ps : List (Nat × List Nme)) : Prop where
  at_ : getL h q = some (ps.map fun p => .ref p.1)
  in_ : ∀ p ∈ ps, getL h p.1 = some (p.2.map .str)
theorem Rl.keep {h h' : AH} {q : Nat} {ps : List (Nat × List Nme)} (r : Rl h q ps) (k : Keep [] h h') : Rl h' q ps := ⟨k.get r.at_ (by simp), fun p hp => k.get (r.in_ p hp) (by simp)⟩
def hd (r : List Nme) : Nme := r.headD []
structure HLm (P : Prg) (c : Nat → Nat) : Prop where
  merge : P[c if_l_merge]? = some ⟨2, 7, s_l_merge c⟩
end Lw
namespace Lw
open PySem PySem.Spec PyProof.Rows L2 Rf
variable {P : Prg} {c : Nat → Nat} {n : Nat} {F : List Kn} {h : AH} {Q : QD} {E : EC}
def Lk (h : AH) (d : Nat) (kvs : List (Kd × D)) : Prop := h[d]? = some (.lk kvs)
theorem Lk.K {h : AH} {d : Nat} {kvs : List (Kd × D)} (e : Lk h d kvs) : getK h d = some kvs := by unfold getK; rw [show h[d]? = _ from e]
theorem Lk.L {h : AH} {d : Nat} {kvs : List (Kd × D)} (e : Lk h d kvs) : getL h d = none := getL_of_getK e.K
theorem Lk.W {h : AH} {d : Nat} {kvs : List (Kd × D)} (e : Lk h d kvs) : getW h d = none := by unfold getW; rw [show h[d]? = _ from e]
theorem Lk.lt {h : AH} {d : Nat} {kvs : List (Kd × D)} (e : Lk h d kvs) : d < h.length := (List.getElem?_eq_some_iff.mp e).1
theorem Lk.keep {h h' : AH} {d : Nat} {kvs : List (Kd × D)} (e : Lk h d kvs) (k : Keep [] h h') : Lk h' d kvs := (k.at_ d e.lt (by simp)).trans e
theorem Lk.new {h : AH} {d : Nat} {kvs : List (Kd × D)} (hl : d < h.length) : Lk (h.set d (.lk kvs)) d kvs := by unfold Lk; rw [List.getElem?_set_self hl]
structure HLo (P : Prg) (c : Nat → Nat) : Prop extends HLm P c where
  orders : P[c if_l_orders]? = some ⟨1, 7, s_l_orders c⟩
end Lw
namespace Lw
open PySem PySem.Spec PyProof.Rows L2 Rf
variable {P : Prg} {c : Nat → Nat} {n : Nat} {F : List Kn} {h : AH} {Q : QD} {E : EC}
structure HQu (P : Prg) (c : Nat → Nat) : Prop extends HAo P c where
  ab : HAb P c
  step_ahead : P[c if_step_ahead]? = some ⟨2, 4, s_step_ahead c⟩
  ring_in : P[c if_ring_in]? = some ⟨1, 6, s_ring_in c⟩
  quarrels : P[c if_quarrels]? = some ⟨3, 3, s_quarrels c⟩
  quarrel_of : P[c if_quarrel_of]? = some ⟨3, 7, s_quarrel_of c⟩
  order_of : P[c if_order_of]? = some ⟨2, 3, s_order_of c⟩
structure HRf (P : Prg) (c : Nat → Nat) : Prop extends HQu P c where
  rows_for : P[c if_rows_for]? = some ⟨2, 3, s_rows_for c⟩
end Lw
namespace Lw
open PySem PySem.Spec PyProof.Rows L2 Rf
variable {P : Prg} {c : Nat → Nat} {n : Nat} {F : List Kn} {h : AH} {Q : QD} {E : EC}
structure HPl (P : Prg) (c : Nat → Nat) : Prop extends HFm P c where
  planted : P[c if_l_planted]? = some ⟨2, 9, s_l_planted c⟩
structure Pt (T : List (List Nat)) : Prop where
  len : T.length = 7
  ok : ∀ (i : Nat) (es : List Nat), T[i]? = some es → es.Nodup ∧ ∀ e ∈ es, e < i
end Lw
namespace Lw
open PySem PySem.Spec PyProof.Rows L2 Rf
variable {F : List Kn}
theorem ended_mem {rows : Rows} (h : ended rows = true) : ∀ r ∈ rows, r = [] := fun r hr => by
  have := List.all_eq_true.mp h r hr
  cases r with
  | nil => rfl
  | cons _ _ => cases this
theorem strike_row {rows : Rows} {x : Nme} (hf : freeH rows x = true) {r : List Nme} (hr : r ∈ rows) : (r.filter fun y => decide (y ≠ x)) = r ∨ ∃ t, r = x :: t ∧ (r.filter fun y => decide (y ≠ x)) = t := by
  have h := List.all_eq_true.mp hf r hr
  simp at h
  cases r with
  | nil => exact .inl rfl
  | cons y t =>
    simp only [List.tail_cons] at h
    have ht : t.filter (fun y => decide (y ≠ x)) = t := List.filter_eq_self.mpr fun z hz => by
      simp
      intro e
      rw [e] at hz
      exact h hz
    by_cases e : y = x
    · subst e
      refine .inr ⟨t, rfl, ?_⟩
      rw [List.filter_cons, if_neg (by simp), ht]
    · refine .inl ?_
      rw [List.filter_cons, if_pos (by simpa using e), ht]
theorem Mg.sub {rows l : Rows} {t : List Nme} (m : Mg rows t l) (he : ended l = true) : ∀ r ∈ rows, r.Sublist t := by
  induction m with
  | stop h => intro r hr; rw [ended_mem he r hr]; exact List.nil_sublist _
  | @go rows x t l h q ih =>
    intro r hr
    have hf := (nxt_some h).2
    have h1 := ih he _ (List.mem_map_of_mem hr)
    rcases strike_row hf hr with e | ⟨t', rfl, e⟩
    · rw [e] at h1
      exact h1.trans (List.sublist_cons_self _ _)
    · rw [e] at h1
      exact h1.cons_cons x
structure IsOr (F : List Kn) (x : Nme) (t : List Nme) (rows : Rows) : Prop where
  all : allS ((elders F x).map (Or F)) = some rows
  nd : t.Nodup
  mem : ∀ y, y ∈ t ↔ Up F x y
  sub : ∀ r ∈ rows ++ [elders F x], r.Sublist t
end Lw
namespace Lw
open PySem PySem.Spec PyProof.Rows L2 Rf
variable {P : Prg} {c : Nat → Nat} {n : Nat} {F : List Kn} {h : AH} {Q : QD} {E : EC}
structure HKe (P : Prg) (c : Nat → Nat) : Prop where
  keeps : P[c if_l_keeps]? = some ⟨2, 5, s_l_keeps c⟩
structure HLr (P : Prg) (c : Nat → Nat) : Prop where
  order : P[c if_l_order]? = some ⟨1, 2, s_l_order c⟩
end Lw
namespace Lw
open PySem PySem.Spec PyProof.Rows L2 Rf
variable {P : Prg} {c : Nat → Nat} {n : Nat} {F : List Kn} {h : AH} {Q : QD} {E : EC}
theorem IsOr.perm (f : Fam F) {x : Nme} {t : List Nme} {rows : Rows} (i : IsOr F x t rows) : t.Perm (aboveL F x) := by
  refine (List.perm_ext_iff_of_nodup i.nd (f.nd.sublist List.filter_sublist)).mpr fun y => ?_
  rw [i.mem]
  show _ ↔ y ∈ (kinds F).filter fun x_1 => upB F x x_1
  rw [List.mem_filter, upB_iff]
  exact ⟨fun u => ⟨f.up_in u, u⟩, fun z => z.2⟩
structure HKp (P : Prg) (c : Nat → Nat) : Prop extends HRf P c where
  ke : HKe P c
  kept : P[c if_l_kept]? = some ⟨4, 9, s_l_kept c⟩
end Lw
namespace Lw
open PySem PySem.Spec PyProof.Rows L2 Rf
variable {F : List Kn}
section
variable {σ : Nme → Nme} {S : Nme → Prop}
def InjS (σ : Nme → Nme) (S : Nme → Prop) : Prop := ∀ x y, S x → S y → σ x = σ y → x = y
abbrev rnR (σ : Nme → Nme) (rows : Rows) : Rows := rows.map fun r => r.map σ
theorem mem_rn (inj : InjS σ S) {x : Nme} {r : List Nme} (hx : S x) (hr : ∀ y ∈ r, S y) : σ x ∈ r.map σ ↔ x ∈ r := by
  constructor
  · intro h
    obtain ⟨y, hy, e⟩ := List.mem_map.mp h
    rw [← inj y x (hr y hy) hx e]; exact hy
  · exact fun h => List.mem_map_of_mem h
theorem freeH_rn (inj : InjS σ S) {rows : Rows} (hr : ∀ r ∈ rows, ∀ y ∈ r, S y) {x : Nme} (hx : S x) : freeH (rnR σ rows) (σ x) = freeH rows x := by
  unfold freeH rnR
  rw [Bool.eq_iff_iff, List.all_eq_true, List.all_eq_true]
  have key : ∀ r ∈ rows, (decide (σ x ∉ (r.map σ).tail) = true ↔ decide (x ∉ r.tail) = true) := fun r h => by
    rw [← List.map_tail, decide_eq_true_iff, decide_eq_true_iff, mem_rn inj hx fun y hy => hr r h y (List.mem_of_mem_tail hy)]
  constructor
  · intro h r h2
    exact (key r h2).mp (h _ (List.mem_map_of_mem h2))
  · intro h r' h2
    obtain ⟨r, h3, rfl⟩ := List.mem_map.mp h2
    exact (key r h3).mpr (h r h3)
theorem nxt_rn (inj : InjS σ S) {rows : Rows} (hr : ∀ r ∈ rows, ∀ y ∈ r, S y) : nxt (rnR σ rows) = (nxt rows).map σ := by
  have key : ∀ l : Rows, (∀ r ∈ l, r ∈ rows) → (rnR σ l).findSome? (hdF (rnR σ rows)) = (l.findSome? (hdF rows)).map σ := by
    intro l
    induction l with
    | nil => intro _; rfl
    | cons r l ih =>
      intro hl
      have ih' := ih fun x hx => hl x (List.mem_cons_of_mem _ hx)
      show ((r.map σ) :: rnR σ l).findSome? _ = _
      rw [List.findSome?_cons, List.findSome?_cons, ih']
      cases r with
      | nil => rfl
      | cons x t =>
        have hx : S x := hr _ (hl _ List.mem_cons_self) x List.mem_cons_self
        simp only [List.map_cons, hdF]
        rw [freeH_rn inj hr hx]
        by_cases h : freeH rows x = true
        · simp [h]
        · simp [h]
  exact key rows fun _ h => h
theorem strike_rn (inj : InjS σ S) {rows : Rows} (hr : ∀ r ∈ rows, ∀ y ∈ r, S y) {x : Nme} (hx : S x) : strike (σ x) (rnR σ rows) = rnR σ (strike x rows) := by
  unfold strike rnR
  rw [List.map_map, List.map_map]
  apply List.map_congr_left
  intro r h
  simp only [Function.comp]
  rw [List.filter_map]
  congr 1
  apply List.filter_congr
  intro y hy
  simp only [Function.comp]
  have : σ y = σ x ↔ y = x := ⟨fun e => inj y x (hr r h y hy) hx e, fun e => by rw [e]⟩
  simp [this]
theorem strike_in {rows : Rows} (hr : ∀ r ∈ rows, ∀ y ∈ r, S y) (x : Nme) : ∀ r ∈ strike x rows, ∀ y ∈ r, S y := fun r h y hy => by
  obtain ⟨r0, h0, rfl⟩ := List.mem_map.mp h
  exact hr r0 h0 y (List.mem_filter.mp hy).1
theorem Mg.rn (inj : InjS σ S) {rows l : Rows} {t : List Nme} (m : Mg rows t l) (hr : ∀ r ∈ rows, ∀ y ∈ r, S y) : Mg (rnR σ rows) (t.map σ) (rnR σ l) := by
  induction m with
  | stop h => exact .stop (by rw [nxt_rn inj hr, h]; rfl)
  | @go rows x t l h q ih =>
    obtain ⟨⟨s, hs⟩, _⟩ := nxt_some h
    have hx : S x := hr _ hs x List.mem_cons_self
    refine .go (by rw [nxt_rn inj hr, h]; rfl) ?_
    rw [strike_rn inj hr hx]
    exact ih (strike_in hr x)
end
end Lw
namespace Lw
open PySem PySem.Spec PyProof.Rows L2 Rf
variable {F : List Kn}
theorem merge_row0 : ∀ t : List Nme, t.Nodup → Mg [t, []] t [[], []]
  | [], _ => .stop rfl
  | x :: t, nd => by
    have hx := (List.nodup_cons.mp nd).1
    have hf : freeH [x :: t, []] x = true := by simp [freeH, hx]
    have hn : nxt [x :: t, []] = some x := by
      unfold nxt
      rw [List.findSome?_cons]
      simp [hdF, hf]
    refine .go hn ?_
    have e : strike x [x :: t, []] = [t, []] := by
      have : t.filter (fun y => decide (y ≠ x)) = t := List.filter_eq_self.mpr fun z hz => by
        simp
        intro e
        rw [e] at hz
        exact hx hz
      simp only [strike, List.map_cons, List.map_nil, List.filter_nil, List.filter_cons]
      rw [if_neg (by simp), this]
    rw [e]
    exact merge_row0 t (List.nodup_cons.mp nd).2
theorem merge_row1 {e : Nme} {t : List Nme} (nd : (e :: t).Nodup) : mergeO [e :: t, [e]] = some (e :: t) := by
  have hx := (List.nodup_cons.mp nd).1
  have hf : freeH [e :: t, [e]] e = true := by simp [freeH, hx]
  have hn : nxt [e :: t, [e]] = some e := by
    unfold nxt
    rw [List.findSome?_cons]
    simp [hdF, hf]
  have es : strike e [e :: t, [e]] = [t, []] := by
    have : t.filter (fun y => decide (y ≠ e)) = t := List.filter_eq_self.mpr fun z hz => by
      simp
      intro e
      rw [e] at hz
      exact hx hz
    simp only [strike, List.map_cons, List.map_nil, List.filter_nil, List.filter_cons]
    rw [if_neg (by simp), this, if_neg (by simp)]
  have m : Mg [e :: t, [e]] (e :: t) [[], []] := .go hn (by rw [es]; exact merge_row0 t (List.nodup_cons.mp nd).2)
  exact mergeO_some m rfl
theorem merge_nil : mergeO [[]] = some [] := mergeO_some (.stop rfl) rfl
end Lw
namespace Lw
open PySem PySem.Spec PyProof.Rows L2 Rf
variable {P : Prg} {c : Nat → Nat} {n : Nat} {F : List Kn} {h : AH} {Q : QD} {E : EC}
structure HO1 (P : Prg) (c : Nat → Nat) : Prop extends HQu P c where
  orders : P[c if_l_orders]? = some ⟨1, 5, s_l_orders_v1 c⟩
end Lw
namespace Lw
open PySem PySem.Spec PyProof.Rows L2 Rf
variable {P : Prg} {c : Nat → Nat} {n : Nat} {F : List Kn} {h : AH} {Q : QD} {E : EC}
structure HMv (P : Prg) (c : Nat → Nat) : Prop extends HO1 P c where
  tk : HTk P c
  moved : P[c if_l_moved]? = some ⟨3, 8, s_l_moved c⟩
end Lw
namespace Lw
open PySem PySem.Spec PyProof.Rows L2 Rf
variable {P : Prg} {c : Nat → Nat} {n : Nat} {F : List Kn} {h : AH} {Q : QD} {E : EC}
structure HAln (P : Prg) (c : Nat → Nat) : Prop extends HO1 P c where
  alone : P[c if_l_alone]? = some ⟨1, 7, s_l_alone c⟩
end Lw
namespace Lw
open PySem PySem.Spec PyProof.Rows L2 Rf
variable {P : Prg} {c : Nat → Nat} {n : Nat} {F : List Kn} {h : AH} {Q : QD} {E : EC}
structure HWs (P : Prg) (c : Nat → Nat) : Prop extends HWd P c where
  words : P[c if_l_words]? = some ⟨3, 5, s_l_words c⟩
end Lw
namespace Lw
open PySem PySem.Spec PyProof.Rows L2 Rf
variable {P : Prg} {c : Nat → Nat} {n : Nat} {F : List Kn} {h : AH} {Q : QD} {E : EC}
structure HNw (P : Prg) (c : Nat → Nat) : Prop extends HWs P c where
  newly : P[c if_l_newly]? = some ⟨2, 7, s_l_newly c⟩
end Lw
namespace Lw
open PySem PySem.Spec PyProof.Rows L2 Rf
variable {F : List Kn}
end Lw
namespace Lw
open PySem PySem.Spec PyProof.Rows L2 Rf
variable {P : Prg} {c : Nat → Nat} {n : Nat} {h : AH} {Q : QD} {E : EC}
@[simp] theorem sz_0 : (0 ≤ SZ) = True := eq_true (by decide)
@[simp] theorem szl_0 : (0 < SZ) = True := eq_true (by decide)
@[simp] theorem sz_1 : (1 ≤ SZ) = True := eq_true (by decide)
@[simp] theorem szl_1 : (1 < SZ) = True := eq_true (by decide)
@[simp] theorem sz_2 : (2 ≤ SZ) = True := eq_true (by decide)
@[simp] theorem szl_2 : (2 < SZ) = True := eq_true (by decide)
@[simp] theorem sz_3 : (3 ≤ SZ) = True := eq_true (by decide)
@[simp] theorem szl_3 : (3 < SZ) = True := eq_true (by decide)
@[simp] theorem sz_4 : (4 ≤ SZ) = True := eq_true (by decide)
@[simp] theorem szl_4 : (4 < SZ) = True := eq_true (by decide)
@[simp] theorem sz_5 : (5 ≤ SZ) = True := eq_true (by decide)
@[simp] theorem szl_5 : (5 < SZ) = True := eq_true (by decide)
@[simp] theorem sz_6 : (6 ≤ SZ) = True := eq_true (by decide)
@[simp] theorem szl_6 : (6 < SZ) = True := eq_true (by decide)
@[simp] theorem sz_7 : (7 ≤ SZ) = True := eq_true (by decide)
@[simp] theorem szl_7 : (7 < SZ) = True := eq_true (by decide)
@[simp] theorem sz_8 : (8 ≤ SZ) = True := eq_true (by decide)
@[simp] theorem szl_8 : (8 < SZ) = True := eq_true (by decide)
@[simp] theorem sz_9 : (9 ≤ SZ) = True := eq_true (by decide)
@[simp] theorem szl_9 : (9 < SZ) = True := eq_true (by decide)
@[simp] theorem sz_10 : (10 ≤ SZ) = True := eq_true (by decide)
@[simp] theorem szl_10 : (10 < SZ) = True := eq_true (by decide)
@[simp] theorem sz_11 : (11 ≤ SZ) = True := eq_true (by decide)
@[simp] theorem szl_11 : (11 < SZ) = True := eq_true (by decide)
@[simp] theorem sz_12 : (12 ≤ SZ) = True := eq_true (by decide)
@[simp] theorem szl_12 : (12 < SZ) = True := eq_true (by decide)
@[simp] theorem sz_13 : (13 ≤ SZ) = True := eq_true (by decide)
@[simp] theorem szl_13 : (13 < SZ) = True := eq_true (by decide)
@[simp] theorem sz_14 : (14 ≤ SZ) = True := eq_true (by decide)
@[simp] theorem szl_14 : (14 < SZ) = True := eq_true (by decide)
@[simp] theorem sz_15 : (15 ≤ SZ) = True := eq_true (by decide)
@[simp] theorem szl_15 : (15 < SZ) = True := eq_true (by decide)
@[simp] theorem sz_16 : (16 ≤ SZ) = True := eq_true (by decide)
@[simp] theorem szl_16 : (16 < SZ) = True := eq_true (by decide)
@[simp] theorem sz_17 : (17 ≤ SZ) = True := eq_true (by decide)
@[simp] theorem szl_17 : (17 < SZ) = True := eq_true (by decide)
@[simp] theorem sz_18 : (18 ≤ SZ) = True := eq_true (by decide)
@[simp] theorem szl_18 : (18 < SZ) = True := eq_true (by decide)
@[simp] theorem sz_19 : (19 ≤ SZ) = True := eq_true (by decide)
@[simp] theorem szl_19 : (19 < SZ) = True := eq_true (by decide)
@[simp] theorem sz_20 : (20 ≤ SZ) = True := eq_true (by decide)
@[simp] theorem szl_20 : (20 < SZ) = True := eq_true (by decide)
@[simp] theorem sz_21 : (21 ≤ SZ) = True := eq_true (by decide)
@[simp] theorem szl_21 : (21 < SZ) = True := eq_true (by decide)
@[simp] theorem sz_22 : (22 ≤ SZ) = True := eq_true (by decide)
@[simp] theorem szl_22 : (22 < SZ) = True := eq_true (by decide)
@[simp] theorem sz_23 : (23 ≤ SZ) = True := eq_true (by decide)
@[simp] theorem szl_23 : (23 < SZ) = True := eq_true (by decide)
@[simp] theorem sz_24 : (24 ≤ SZ) = True := eq_true (by decide)
@[simp] theorem szl_24 : (24 < SZ) = True := eq_true (by decide)
@[simp] theorem sz_25 : (25 ≤ SZ) = True := eq_true (by decide)
@[simp] theorem szl_25 : (25 < SZ) = True := eq_true (by decide)
@[simp] theorem sz_26 : (26 ≤ SZ) = True := eq_true (by decide)
@[simp] theorem szl_26 : (26 < SZ) = True := eq_true (by decide)
@[simp] theorem sz_27 : (27 ≤ SZ) = True := eq_true (by decide)
@[simp] theorem szl_27 : (27 < SZ) = True := eq_true (by decide)
@[simp] theorem sz_28 : (28 ≤ SZ) = True := eq_true (by decide)
@[simp] theorem szl_28 : (28 < SZ) = True := eq_true (by decide)
@[simp] theorem sz_29 : (29 ≤ SZ) = True := eq_true (by decide)
@[simp] theorem szl_29 : (29 < SZ) = True := eq_true (by decide)
@[simp] theorem sz_30 : (30 ≤ SZ) = True := eq_true (by decide)
@[simp] theorem szl_30 : (30 < SZ) = True := eq_true (by decide)
structure Gd (ks : List Nme) (g : Nme → List Nme) : Prop where
  hd : ∀ x ∈ ks, ∃ t, g x = x :: t
  nd : ∀ x ∈ ks, (g x).Nodup
  sub : ∀ x ∈ ks, ∀ y ∈ g x, y ∈ ks
theorem Gd.len {ks : List Nme} {g : Nme → List Nme} (gd : Gd ks g) {x : Nme} (hx : x ∈ ks) : (g x).length ≤ ks.length := List.Nodup.length_le_of_subset (gd.nd x hx) fun y hy => gd.sub x hx y hy
theorem Gd.go {ks : List Nme} {g : Nme → List Nme} (gd : Gd ks g) (ok : ∀ x ∈ ks, OkN x) (hl : ks.length ≤ 100) : GO (fun x => some (g x)) ks := fun x hx r hr => by
  cases hr
  exact ⟨fun y hy => ok y (gd.sub x hx y hy), Nat.le_trans (gd.len hx) hl⟩
theorem Gd.one {ks es : List Nme} {g : Nme → List Nme} (gd : Gd ks g) (S : Some' ks es) : ∃ t, mergeO ((es.take 1).map g ++ [es.take 1]) = some t := by
  cases es with
  | nil => exact ⟨[], merge_nil⟩
  | cons e es =>
    have he := S.sub e List.mem_cons_self
    obtain ⟨t, ht⟩ := gd.hd e he
    have nd := gd.nd e he
    rw [ht] at nd
    refine ⟨e :: t, ?_⟩
    have := merge_row1 nd
    simpa [ht] using this
theorem Some'.len {ks es : List Nme} (S : Some' ks es) : es.length ≤ ks.length := List.Nodup.length_le_of_subset S.nd fun x hx => S.sub x hx
structure HEl (P : Prg) (c : Nat → Nat) : Prop extends HSo P c where
  lm : HLm P c
  elders_ : P[c if_l_elders]? = some ⟨4, 6, s_l_elders c⟩
end Lw
namespace Lw
open PySem PySem.Spec PyProof.Rows L2 Rf
variable {P : Prg} {c : Nat → Nat} {n : Nat} {h : AH} {Q : QD} {E : EC}
def deedD (p : Nme × Nat) : D := .tup [.str p.1, .int (p.2 : Int)]
abbrev deedsD (ds : List (Nme × Nat)) : D := .tup (ds.map deedD)
structure DP (M : List Nme) (ds : List (Nme × Nat)) : Prop where
  s : Some' M (ds.map (·.1))
  b : ∀ p ∈ ds, 1 ≤ p.2 ∧ p.2 ≤ 99
def Ups (ds : List (Nme × Nat)) : Prop := ds.Pairwise fun a b => a.1 < b.1
structure DOk (M : List Nme) (ds : List (Nme × Nat)) : Prop extends DP M ds where
  up : Ups ds
theorem lt_irr (a : Nme) : ¬ a < a := List.lt_irrefl a
theorem lt_tr {a b c : Nme} (h1 : a < b) (h2 : b < c) : a < c := List.lt_trans h1 h2
theorem Ups.eq {a b : List (Nme × Nat)} (ha : Ups a) (hb : Ups b) (p : a.Perm b) : a = b :=
  List.Perm.eq_of_pairwise (le := fun (a b : Nme × Nat) => a.1 < b.1) (fun (a b : Nme × Nat) _ _ h1 h2 => absurd (lt_tr h1 h2) (lt_irr _)) ha hb p
structure HOw (P : Prg) (c : Nat → Nat) : Prop extends HEl P c where
  own_ : P[c if_l_own]? = some ⟨2, 4, s_l_own c⟩
structure Tr where
  k : Nme
  es : List Nme
  o : List Nme
  fs : List Nme
  ds : List (Nme × Nat)
  n : Nat
instance : Inhabited Tr := ⟨⟨[], [], [], [], [], 0⟩⟩
def Tr.d (r : Tr) : D := .tup [.str r.k, tupS r.es, tupS r.o, tupS r.fs, deedsD r.ds, .int (r.n : Int)]
def Tr.fn (r : Tr) : Kn := ⟨r.k, r.es, []⟩
abbrev famO (T : List Tr) : List Kn := T.map Tr.fn
structure Drw (M N ws : List Nme) (rows : List Tr) (g : Nme → List Nme) : Prop where
  rw_ : Rws' ws (famO rows)
  gd : Gd (ws.take rows.length) g
  o : ∀ r ∈ rows, r.o = g r.k ∧ (mergeO (r.es.map g ++ [r.es])).map (r.k :: ·) = some r.o
  f : ∀ r ∈ rows, Some' N r.fs ∧ r.fs.length ≤ 3
  d : ∀ r ∈ rows, DOk M r.ds
structure Tab (M N : List Nme) (T : List Tr) : Prop where
  fam : Fam (famO T)
  o : ∀ r ∈ T, Or (famO T) r.k = some r.o
  f : ∀ r ∈ T, Some' N r.fs ∧ r.fs.length ≤ 3
  d : ∀ r ∈ T, DOk M r.ds
theorem take_snoc {ws : List Nme} {x : Nme} {i : Nat} (hx : ws[i]? = some x) : ws.take (i + 1) = ws.take i ++ [x] := by
  rw [List.take_succ, hx]; rfl
theorem not_take {ws : List Nme} {x : Nme} {i : Nat} (nd : ws.Nodup) (hx : ws[i]? = some x) : x ∉ ws.take i := by
  intro hm
  obtain ⟨j, hj, e⟩ := List.getElem_of_mem hm
  obtain ⟨hi, e2⟩ := List.getElem?_eq_some_iff.mp hx
  have hj' : j < i := by rw [List.length_take] at hj; omega
  rw [List.getElem_take] at e
  have a1 := List.Nodup.idxOf_getElem nd j (by omega)
  have a2 := List.Nodup.idxOf_getElem nd i hi
  rw [e] at a1
  rw [e2] at a2
  omega
theorem Drw.snoc {M N ws : List Nme} {rows : List Tr} {g : Nme → List Nme} (a : Drw M N ws rows g) (nd : ws.Nodup) {x : Nme} (hx : ws[rows.length]? = some x) {es t fs : List Nme} {ds : List (Nme × Nat)} {num : Nat}
    (S : Some' (ws.take rows.length) es) (hm : mergeO (es.map g ++ [es]) = some t) (sf : Some' N fs ∧ fs.length ≤ 3) (sd : DOk M ds) : Drw M N ws (rows ++ [⟨x, es, x :: t, fs, ds, num⟩]) (fun y => if y = x then x :: t else g y) := by
  have nx := not_take nd hx
  have ne : ∀ y ∈ ws.take rows.length, ¬ y = x := fun y hy e => nx (e ▸ hy)
  have gs : ∀ es' : List Nme, (∀ y ∈ es', y ∈ ws.take rows.length) → es'.map (fun y => if y = x then x :: t else g y) = es'.map g := fun es' h => List.map_congr_left fun y hy => if_neg (ne y (h y hy))
  obtain ⟨l, mg, _⟩ := mergeO_in hm
  have tin : ∀ y ∈ t, y ∈ ws.take rows.length := fun y hy => by
    obtain ⟨r, hr, hyr⟩ := mg.in_ y hy
    rcases List.mem_append.mp hr with hr | hr
    · obtain ⟨e, he, rfl⟩ := List.mem_map.mp hr
      exact a.gd.sub e (S.sub e he) y hyr
    · rw [List.mem_singleton] at hr; subst hr; exact S.sub y hyr
  have kk : (famO rows).map (·.k) = ws.take rows.length := by have := a.rw_.k; simpa using this
  have mk : ∀ r ∈ rows, r.k ∈ ws.take rows.length := fun r hr => by
    rw [← kk]; exact List.mem_map.mpr ⟨r.fn, List.mem_map_of_mem hr, rfl⟩
  have me : ∀ r ∈ rows, ∀ e ∈ r.es, e ∈ ws.take rows.length := fun r hr e he => by
    obtain ⟨i, hi⟩ := List.getElem?_of_mem hr
    have := a.rw_.e i r.fn (by simp [hi])
    have hil := (List.getElem?_eq_some_iff.mp hi).1
    have h2 := this.sub e he
    exact (List.take_subset_take_left ws (by omega)) h2
  refine ⟨?_, ?_, ?_, ?_, ?_⟩
  · have := a.rw_.snoc (x := x) (es := es) (by simpa using hx) (by simpa using S)
    simpa [famO, Tr.fn] using this
  · rw [List.length_append, List.length_singleton, take_snoc hx]
    refine ⟨?_, ?_, ?_⟩
    · intro y hy
      rcases List.mem_append.mp hy with hy | hy
      · rw [if_neg (ne y hy)]; exact a.gd.hd y hy
      · rw [List.mem_singleton] at hy; subst hy; exact ⟨t, if_pos rfl⟩
    · intro y hy
      rcases List.mem_append.mp hy with hy | hy
      · rw [if_neg (ne y hy)]; exact a.gd.nd y hy
      · rw [List.mem_singleton] at hy; subst hy
        rw [if_pos rfl, List.nodup_cons]
        exact ⟨fun h => nx (tin _ h), mg.nodup⟩
    · intro y hy z hz
      rcases List.mem_append.mp hy with hy | hy
      · rw [if_neg (ne y hy)] at hz; exact List.mem_append_left _ (a.gd.sub y hy z hz)
      · rw [List.mem_singleton] at hy; subst hy
        rw [if_pos rfl] at hz
        rcases List.mem_cons.mp hz with rfl | hz
        · simp
        · exact List.mem_append_left _ (tin z hz)
  · intro r hr
    rcases List.mem_append.mp hr with hr | hr
    · obtain ⟨e1, e2⟩ := a.o r hr
      rw [if_neg (ne _ (mk r hr)), gs _ (me r hr)]
      exact ⟨e1, e2⟩
    · rw [List.mem_singleton] at hr; subst hr
      refine ⟨(if_pos rfl).symm, ?_⟩
      show (mergeO (es.map (fun y => if y = x then x :: t else g y) ++ [es])).map (x :: ·) = some (x :: t)
      rw [gs es S.sub, hm]; rfl
  · intro r hr
    rcases List.mem_append.mp hr with hr | hr
    · exact a.f r hr
    · rw [List.mem_singleton] at hr; subst hr; exact sf
  · intro r hr
    rcases List.mem_append.mp hr with hr | hr
    · exact a.d r hr
    · rw [List.mem_singleton] at hr; subst hr; exact sd
end Lw
namespace Lw
open PySem PySem.Spec PyProof.Rows L2 Rf
variable {P : Prg} {c : Nat → Nat} {n : Nat} {h : AH} {Q : QD} {E : EC}
structure HTb (P : Prg) (c : Nat → Nat) : Prop extends HOw P c where
  table : P[c if_l_table]? = some ⟨4, 14, s_l_table c⟩
end Lw
namespace Lw
open PySem PySem.Spec PyProof.Rows L2 Rf
variable {P : Prg} {c : Nat → Nat} {n : Nat} {h : AH} {Q : QD} {E : EC} {M N : List Nme} {T : List Tr}
theorem kinds_famO (T : List Tr) : kinds (famO T) = T.map (·.k) := by simp [kinds, famO, Tr.fn, Function.comp_def]
theorem Tab.nd (t : Tab M N T) : (T.map (·.k)).Nodup := by have := t.fam.nd; rwa [kinds_famO] at this
theorem Tab.w (t : Tab M N T) : ∀ r ∈ T, Word r.k := fun r hr => t.fam.w _ (by rw [kinds_famO]; exact List.mem_map_of_mem hr)
theorem Tab.len (t : Tab M N T) : 1 ≤ T.length ∧ T.length ≤ 7 := by have := t.fam.len; simpa using this
structure HCk (P : Prg) (c : Nat → Nat) : Prop where
  kinds_of : P[c if_kinds_of]? = some ⟨1, 2, s_kinds_of c⟩
  check_kind : P[c if_check_kind]? = some ⟨2, 2, s_check_kind c⟩
structure HRo (P : Prg) (c : Nat → Nat) : Prop where
  row_of : P[c if_row_of]? = some ⟨2, 3, s_row_of c⟩
structure HNf (P : Prg) (c : Nat → Nat) : Prop extends HCk P c, HRo P c where
  new_fields : P[c if_new_fields]? = some ⟨2, 5, s_new_fields c⟩
end Lw
namespace Lw
open PySem PySem.Spec PyProof.Rows L2 Rf
variable {P : Prg} {c : Nat → Nat} {h : AH} {Q : QD} {E : EC} {M N : List Nme} {T : List Tr}
structure HSm (P : Prg) (c : Nat → Nat) : Prop where
  same : P[c if_l_same]? = some ⟨2, 3, s_l_same c⟩
structure HDu (P : Prg) (c : Nat → Nat) : Prop where
  due : P[c if_l_due]? = some ⟨2, 5, s_l_due c⟩
variable {n : Nat}
structure HCa (P : Prg) (c : Nat → Nat) : Prop where
  called : P[c if_l_called]? = some ⟨2, 9, s_l_called c⟩
end Lw
namespace Lw
open PySem PySem.Spec PyProof.Rows L2 Rf
variable {P : Prg} {c : Nat → Nat} {n : Nat} {h : AH} {Q : QD} {E : EC}
theorem word_k2 (H : HTk P c) (hf : P[c if_l_word]? = some ⟨2, 7, s_l_word_v2 c⟩) {p u : Nat} {us : List Nme} (hp : Purse h p) (hu : getL h u = some (us.map .str)) (hok : ∀ x ∈ us, OkN x) (hl : us.length < 26) (hup : u ≠ p)
    (k : ∀ w h', Word w → w ∉ us → Purse h' p → Keep [p] h h' → Q (.str w) h') : wC P (n + 2) (c if_l_word) [.ref p, .ref u] h Q E := by
  refine call_ok hf rfl ?_
  have hpl := hp.lt
  have hul := getL_lt hu
  simp only [startA, s_l_word_v2]
  refine seq_step fun K1 hK1 => ?_
  simp
  rw [hK1]
  clear hK1 K1
  refine seq_step fun K2 hK2 => ?_
  simp
  refine take_k (m := 12) H (hp.keep (ps := []) .app (by simp)) (by decide) (by decide) fun t h1 ht hp1 k1 l1 => ?_
  have gm := k1.get (getL_new (h := h)) (by simp; omega)
  have k01 : Keep [p] h h1 := Keep.app.trans k1
  have ex : ∃ w : Nme, Word w ∧ L2.atI [D.str [109, 97, 114, 107], D.str [103, 111], D.str [107, 101, 101, 112], D.str [116, 101, 108, 108], D.str [114, 111, 117, 110, 100], D.str [112, 117, 116], D.str [100, 114, 111, 112], D.str [110, 111, 110, 101], D.str [109, 101], D.str [97, 115, 107], D.str [116, 104, 105, 110, 103], D.str [101, 110, 100]] (t : Int) = some (.str w) := by
    rw [Rf.atI_nat]
    have : t = 0 ∨ t = 1 ∨ t = 2 ∨ t = 3 ∨ t = 4 ∨ t = 5 ∨ t = 6 ∨ t = 7 ∨ t = 8 ∨ t = 9 ∨ t = 10 ∨ t = 11 := by omega
    rcases this with rfl | rfl | rfl | rfl | rfl | rfl | rfl | rfl | rfl | rfl | rfl | rfl <;> exact ⟨_, ⟨by decide, by decide, by decide⟩, rfl⟩
  obtain ⟨w0, hw0, ew0⟩ := ex
  simp [gm, ew0]
  rw [hK2]
  clear hK2 K2
  refine seq_step fun K3 hK3 => ?_
  have fin : ∀ (w : Nme) (d5 : Option D) h2, Word w → Purse h2 p → Keep [p] h h2 → K3 [some (.ref p), some (.ref u), some (.ref h.length), some (.str w), none, d5, none] h2 := by
    intro w d5 h2 hW hp2 k2
    rw [hK3]
    have hc := hW.2.2
    have hu2 : getL h2 u = some (us.map .str) := k2.get hu (by simpa using hup)
    have o2 := oksN (k := 59) hok
    simp [inW_ref, hu2, o2, mem_str, D.ok, hW.ok]
    by_cases hm : w ∈ us
    · simp [hm]
      have hc5 : cut w none (some 5) = w.take 5 := cut_take w 5
      have hlen : w.length ≤ 6 := hW.2.1
      refine lcW_pure (xs := abc) (f := fun x : Nat => D.str [x]) (fun h' => h' = h2) (fun x => decide (x :: w.take 5 ∉ us)) (fun x => .str [x]) (by decide) rfl (fun _ _ => trivial) (fun h' e => ?_) fun x h' K hx e hK => ?_
      · subst e
        have fr := free_letter hl (w.take 5)
        cases q : abc.filter fun c => decide (c :: w.take 5 ∉ us) with
        | nil => exact absurd q fr
        | cons x xs =>
          have hx : x ∈ abc.filter fun c => decide (c :: w.take 5 ∉ us) := by rw [q]; exact List.mem_cons_self
          rw [List.mem_filter] at hx
          have hw' : Word (x :: w.take 5) := by
            refine ⟨by simp, by simp; omega, fun b hb => ?_⟩
            rcases List.mem_cons.mp hb with rfl | hb
            · exact abc_mem.mp hx.1
            · exact hc b (List.mem_of_mem_take hb)
          simp [hc5, SZ]
          refine ⟨by omega, by omega, ?_⟩
          exact k _ _ hw' (by simpa using hx.2) (hp2.keep (ps := []) .app (by simp)) (k2.trans .app)
      · subst e
        have hxa : x ∈ abc := hx
        have hw' : Word (x :: w.take 5) := by
          refine ⟨by simp, by simp; omega, fun b hb => ?_⟩
          rcases List.mem_cons.mp hb with rfl | hb
          · exact abc_mem.mp hxa
          · exact hc b (List.mem_of_mem_take hb)
        have := hK _ rfl
        simp [hc5, inW_ref, hu2, o2, mem_str, D.ok, hw'.ok, SZ]
        refine ⟨by omega, by omega, ?_⟩
        by_cases hxm : x :: w.take 5 ∈ us
        · simpa [hxm] using this
        · simp [hxm] at this ⊢
          exact this
    · simp [hm]
      exact k _ _ hW hm hp2 k2
  simp
  refine take_k (m := 5) H hp1 (by decide) (by decide) fun t3 h3 ht3 hp3 k3 l3 => ?_
  by_cases t0 : t3 = 0
  · subst t0
    simp
    exact fin _ _ _ hw0 hp3 (k01.trans k3)
  · have tp : 0 < t3 := by omega
    simp [tp]
    refine take_k (m := 6) H hp3 (by decide) (by decide) fun t4 h4 ht4 hp4 k4 l4 => ?_
    simp
    refine ⟨by omega, ?_⟩
    have e0 : (1 + (t4 : Int)).toNat = 1 + t4 := by omega
    rw [e0]
    refine forW_range (fun i s h2 => ∃ (w : Nme) (d5 : Option D), w.length = i ∧ (∀ x ∈ w, 97 ≤ x ∧ x ≤ 122) ∧ s = [some (.ref p), some (.ref u), some (.ref h.length), some (.str w), none, d5, none] ∧ Purse h2 p ∧ Keep [p] h h2) ⟨[], none, rfl, by simp, rfl, hp4, (k01.trans k3).trans k4⟩ ?_ ?_
    · rintro s h2 ⟨w, d5, hw, hc, rfl, hp2, k2⟩
      refine ⟨trivial, ?_⟩
      exact fin w d5 h2 ⟨by omega, by omega, hc⟩ hp2 k2
    · rintro i s h2 K hi ⟨w, d5, hw, hc, rfl, hp2, k2⟩ hK
      simp
      refine take_k H hp2 (by decide) (by decide) fun t2 h5 u1 hp5 k5 l5 => ?_
      obtain ⟨x, hx, hx2⟩ := at_abc (t := t2) (by omega)
      have hx' : L2.atI [97, 98, 99, 100, 101, 102, 103, 104, 105, 106, 107, 108, 109, 110, 111, 112, 113, 114, 115, 116, 117, 118, 119, 120, 121, 122] (t2 : Int) = some x := hx
      simp [hx', SZ]
      refine ⟨by omega, hK _ _ ⟨w ++ [x], _, by simp [hw], ?_, rfl, hp5, k2.trans k5⟩⟩
      intro b hb
      rcases List.mem_append.mp hb with hb | hb
      · exact hc b hb
      · rw [List.mem_singleton] at hb; subst hb; exact hx2
structure HWs2 (P : Prg) (c : Nat → Nat) : Prop extends HTk P c where
  word : P[c if_l_word]? = some ⟨2, 7, s_l_word_v2 c⟩
  words : P[c if_l_words]? = some ⟨3, 5, s_l_words c⟩
theorem words2_k (H : HWs2 P c) {p u : Nat} {us : List Nme} {m : Nat} (hp : Purse h p) (hu : getL h u = some (us.map .str)) (hok : ∀ x ∈ us, OkN x) (hl : us.length + m ≤ 25) (hup : u ≠ p)
    (k : ∀ ws q h', ws.length = m → Ws us ws → Purse h' p → Keep [p] h h' → getL h' q = some (ws.map .str) → h.length ≤ q → Q (.ref q) h') : wC P (n + 3) (c if_l_words) [.ref p, .int m, .ref u] h Q E := by
  refine call_ok H.words rfl ?_
  have hpl := hp.lt
  have hul := getL_lt hu
  simp [startA, s_l_words, SZ]
  refine ⟨by omega, ?_⟩
  refine forW_range (fun i s h1 => ∃ (ws : List Nme) (d4 : Option D), ws.length = i ∧ s = [some (.ref p), some (.int (m : Int)), some (.ref u), some (.ref h.length), d4] ∧ Ws us ws ∧ Purse h1 p ∧ Keep [p] h h1 ∧ getL h1 h.length = some (ws.map .str) ∧ getL h1 u = some (us.map .str))
    ⟨[], _, rfl, rfl, ⟨List.nodup_nil, by simp, by simp⟩, hp.keep (ps := []) .app (by simp), .app, getL_new, (getL_app hul).trans hu⟩ ?_ ?_
  · rintro s h1 ⟨ws, d4, hw, rfl, W, hp1, k1, g1, gu⟩
    refine ⟨trivial, ?_⟩
    simp
    exact k ws _ h1 hw W hp1 k1 g1 (Nat.le_refl _)
  · rintro i s h1 K hi ⟨ws, d4, hw, rfl, W, hp1, k1, g1, gu⟩ hK
    refine ⟨trivial, ?_⟩
    have hl1 := getL_lt g1
    have hul1 := getL_lt gu
    simp [g1, gu]
    refine ⟨by unfold SZ; omega, ?_⟩
    have eU : us.map D.str ++ ws.map D.str = (us ++ ws).map D.str := by simp
    rw [eU]
    refine word_k2 H.toHTk H.word (us := us ++ ws) (hp1.keep (ps := []) .app (by simp)) getL_new (fun x hx => ?_) (by simp; omega) (by have := hp1.lt; omega) fun w h2 hw2 hn hp2 k2 => ?_
    · rcases List.mem_append.mp hx with hx | hx
      · exact hok x hx
      · exact Rf.Word.ok (W.w x hx)
    · have k12 : Keep [p] h1 h2 := Keep.app.trans k2
      have g2 := k12.get g1 (by simp; omega)
      have gu2 := k12.get gu (by simpa using hup)
      have hl2 := getL_lt g2
      simp [g2]
      refine ⟨by unfold SZ; omega, hK _ _ ⟨ws ++ [w], _, by simp [hw], rfl, W.snoc hw2 hn, hp2.keep (ps := [h.length]) (.set (by simp)) (by simp; omega), ?_, ?_, ?_⟩⟩
      · exact (((k1.trans k12).weak (qs := [p, h.length]) (by simp)).trans (.set (by simp))).new (by simp)
      · rw [getL_set_self hl2]; simp
      · rw [getL_set_ne (by omega)]; exact gu2
structure HSo2 (P : Prg) (c : Nat → Nat) : Prop extends HWs2 P c where
  some_ : P[c if_l_some]? = some ⟨3, 6, s_l_some c⟩
end Lw
namespace Lw
open PySem PySem.Spec PyProof.Rows L2 Rf
variable {P : Prg} {c : Nat → Nat} {n : Nat} {h : AH} {Q : QD} {E : EC}
abbrev Srow := Nat × Bool × Nme
def deedN (b : Bool) : Nme := if b then [112, 117, 116] else [100, 114, 111, 112]
def srD (r : Srow) : D := .tup [.int (r.1 : Int), .str (deedN r.2.1), .str r.2.2]
def shpL (R : List Srow) : List D := .tup [] :: R.map srD
abbrev shpD (R : List Srow) : D := .tup (shpL R)
def stepF (fs : List Nme) (b : Bool) (f : Nme) : List Nme := if b then fs ++ [f] else fs.filter fun z => !decide (z = f)
inductive Bt : List Srow → List (List Nme) → Prop
  | nil : Bt [] [[]]
  | add {R : List Srow} {F : List (List Nme)} {n : Nat} {fs : List Nme} {f : Nme} : Bt R F → F[n]? = some fs → Word f → Bt (R ++ [(n, !decide (f ∈ fs), f)]) (F ++ [stepF fs (!decide (f ∈ fs)) f])
theorem Bt.len {R : List Srow} {F : List (List Nme)} (t : Bt R F) : F.length = R.length + 1 := by
  induction t with
  | nil => rfl
  | add _ _ _ ih => simp [ih]
theorem step_ok {fs : List Nme} {f : Nme} (nd : fs.Nodup) (w : ∀ x ∈ fs, Word x) (wf : Word f) : (stepF fs (!decide (f ∈ fs)) f).Nodup ∧ (∀ x ∈ stepF fs (!decide (f ∈ fs)) f, Word x) ∧ (stepF fs (!decide (f ∈ fs)) f).length ≤ fs.length + 1 := by
  unfold stepF
  by_cases h : f ∈ fs
  · simp only [h, decide_true, Bool.not_true, Bool.false_eq_true, if_false]
    exact ⟨nd.filter _, fun x hx => w x (List.mem_filter.mp hx).1, Nat.le_succ_of_le (List.length_filter_le _ _)⟩
  · simp only [h, decide_false, Bool.not_false, if_true]
    refine ⟨?_, fun x hx => ?_, by simp⟩
    · rw [List.nodup_append]
      refine ⟨nd, by simp, fun a ha b hb e => ?_⟩
      rw [List.mem_singleton] at hb
      subst hb
      subst e
      exact h ha
    · rcases List.mem_append.mp hx with hx | hx
      · exact w x hx
      · rw [List.mem_singleton.mp hx]; exact wf
theorem Bt.fs {R : List Srow} {F : List (List Nme)} (t : Bt R F) : ∀ fs ∈ F, fs.Nodup ∧ (∀ x ∈ fs, Word x) ∧ fs.length ≤ R.length := by
  induction t with
  | nil => intro fs hf; rw [List.mem_singleton.mp hf]; exact ⟨List.nodup_nil, by simp, by simp⟩
  | @add R F n fs f t hn wf ih =>
    intro gs hg
    rcases List.mem_append.mp hg with hg | hg
    · obtain ⟨a, b, c⟩ := ih gs hg
      exact ⟨a, b, by simp; omega⟩
    · rw [List.mem_singleton.mp hg]
      obtain ⟨a, b, c⟩ := ih fs (List.mem_of_getElem? hn)
      obtain ⟨a', b', c'⟩ := step_ok a b wf
      exact ⟨a', b', by simp; omega⟩
theorem Bt.row {R : List Srow} {F : List (List Nme)} (t : Bt R F) : ∀ (i n : Nat) (b : Bool) (f : Nme), R[i]? = some (n, b, f) → n ≤ i ∧ Word f ∧ ∃ fs, F[n]? = some fs ∧ b = !decide (f ∈ fs) ∧ F[i + 1]? = some (stepF fs b f) := by
  induction t with
  | nil => intro i n b f e; simp at e
  | @add R F m fs g t hm wg ih =>
    intro i n b f e
    have len := t.len
    by_cases hi : i < R.length
    · rw [List.getElem?_append_left hi] at e
      obtain ⟨h1, h2, gs, h3, h4, h5⟩ := ih i n b f e
      refine ⟨h1, h2, gs, ?_, h4, ?_⟩
      · rw [List.getElem?_append_left (by omega)]; exact h3
      · rw [List.getElem?_append_left (by omega)]; exact h5
    · have hi' : i = R.length := by
        have := (List.getElem?_eq_some_iff.mp e).1
        simp at this
        omega
      subst hi'
      rw [List.getElem?_append_right (by omega)] at e
      simp only [Nat.sub_self, List.getElem?_cons_zero, Option.some.injEq, Prod.mk.injEq] at e
      obtain ⟨rfl, rfl, rfl⟩ := e
      have hml := (List.getElem?_eq_some_iff.mp hm).1
      refine ⟨by omega, wg, fs, ?_, rfl, ?_⟩
      · rw [List.getElem?_append_left hml]; exact hm
      · rw [← len, List.getElem?_append_right (by omega)]; simp
theorem Bt.zero {R : List Srow} {F : List (List Nme)} (t : Bt R F) : F[0]? = some [] := by
  induction t with
  | nil => rfl
  | add t _ _ ih => rw [List.getElem?_append_left (by have := t.len; omega)]; exact ih
inductive Chn : List Nme → List Srow → List Nme → Prop
  | nil (fs : List Nme) : Chn fs [] fs
  | cons {fs fk : List Nme} {n : Nat} {b : Bool} {f : Nme} {r : List Srow} : b = !decide (f ∈ fs) → Word f → Chn (stepF fs b f) r fk → Chn fs ((n, b, f) :: r) fk
theorem erase_f : ∀ {gs : List Nme} {f : Nme}, f ∈ gs → gs.Nodup → ∃ j, gs.findIdx? (fun z => decide (z = f)) = some j ∧ gs.eraseIdx j = gs.filter fun z => !decide (z = f)
  | [], _, h, _ => by simp at h
  | g :: gs, f, h, nd => by
    rw [List.nodup_cons] at nd
    by_cases e : g = f
    · subst e
      refine ⟨0, by simp [List.findIdx?_cons], ?_⟩
      simp
      rw [List.filter_eq_self.mpr]
      intro a ha
      simp
      rintro rfl
      exact nd.1 ha
    · obtain ⟨j, h1, h2⟩ := erase_f (gs := gs) (f := f) (by rcases List.mem_cons.mp h with h | h; exact absurd h.symm e; exact h) nd.2
      refine ⟨j + 1, by simp [List.findIdx?_cons, e, h1], ?_⟩
      simp [e, h2]
structure HSp (P : Prg) (c : Nat → Nat) : Prop where
  is_ : P[c if_is_shape]? = some ⟨2, 2, s_is_shape c⟩
  fields : P[c if_fields_at]? = some ⟨2, 5, s_fields_at c⟩
  child : P[c if_child_of]? = some ⟨4, 6, s_child_of c⟩
  by_ : P[c if_shape_by]? = some ⟨4, 6, s_shape_by c⟩
theorem is_shape_k (H : HSp P c) {R : List Srow} {i : Int} (k : Q (.bl (decide (0 ≤ i ∧ i < (R.length : Int) + 1))) h) : wC P (n + 1) (c if_is_shape) [shpD R, .int i] h Q E := by
  refine call_ok H.is_ rfl ?_
  simp [startA, s_is_shape, D.isTy]
  have lz : ((shpL R).length : Int) = (R.length : Int) + 1 := by simp [shpL]
  rw [lz]
  by_cases h0 : 0 ≤ i
  · simpa [h0] using k
  · simpa [h0] using k
def Stn (p m : Nat) (h : AH) (d : D) : Prop := (∃ i : Int, d = .int i ∧ (i < 0 ∨ (m : Int) < i + 1)) ∨ (∃ b, d = .bl b) ∨ d = .non ∨ (∃ w, d = .str w) ∨ (∃ xs, d = .tup xs) ∨ ∃ a, d = .ref a ∧ a ≠ p ∧ ((∃ xs, h[a]? = some (.lst xs)) ∨ ∃ kvs, h[a]? = some (.dk kvs))
theorem is_shape_no (H : HSp P c) {R : List Srow} {p : Nat} {d : D} (s : Stn p (R.length + 1) h d) (k : Q (.bl false) h) : wC P (n + 1) (c if_is_shape) [shpD R, d] h Q E := by
  rcases s with ⟨i, rfl, hi⟩ | ⟨b, rfl⟩ | rfl | ⟨w, rfl⟩ | ⟨xs, rfl⟩ | ⟨a, rfl, _, hh⟩
  · refine is_shape_k H ?_
    have : ¬ (0 ≤ i ∧ i < (R.length : Int) + 1) := by omega
    simpa [this] using k
  · refine call_ok H.is_ rfl ?_
    simp [startA, s_is_shape, D.isTy]
    exact k
  · refine call_ok H.is_ rfl ?_
    simp [startA, s_is_shape, D.isTy]
    exact k
  · refine call_ok H.is_ rfl ?_
    simp [startA, s_is_shape, D.isTy]
    exact k
  · refine call_ok H.is_ rfl ?_
    simp [startA, s_is_shape, D.isTy]
    exact k
  · refine call_ok H.is_ rfl ?_
    have : isTyW h .int (.ref a) = some false := by
      rcases hh with ⟨xs, e⟩ | ⟨kvs, e⟩ <;> simp [isTyW, e]
    simp [startA, s_is_shape, this]
    exact k
end Lw
namespace Lw
open PySem PySem.Spec PyProof.Rows L2 Rf
variable {P : Prg} {c : Nat → Nat} {n : Nat} {h : AH} {Q : QD} {E : EC}
theorem fields_at_no (H : HSp P c) {R : List Srow} {p : Nat} {d : D} (s : Stn p (R.length + 1) h d) (k : E ⟨c ic_NoShape, []⟩ h) : wC P (n + 2) (c if_fields_at) [shpD R, d] h Q E := by
  refine call_ok H.fields rfl ?_
  simp only [startA, s_fields_at]
  refine seq_step fun K1 hK1 => ?_
  simp
  refine is_shape_no (n := n) H s ?_
  simp
  exact k
theorem fields_at_k (H : HSp P c) {R : List Srow} {F : List (List Nme)} (t : Bt R F) (lR : R.length ≤ 100) {i : Nat} {fs : List Nme} (hi : F[i]? = some fs) (k : ∀ h', Keep [] h h' → Q (tupS fs) h') : wC P (n + 2) (c if_fields_at) [shpD R, .int (i : Int)] h Q E := by
  refine call_ok H.fields rfl ?_
  have len := t.len
  have il := (List.getElem?_eq_some_iff.mp hi).1
  simp only [startA, s_fields_at]
  refine seq_step fun K1 hK1 => ?_
  simp
  refine is_shape_k (n := n) H ?_
  have : (0 : Int) ≤ (i : Int) ∧ (i : Int) < (R.length : Int) + 1 := by omega
  simp [this]
  rw [hK1]
  clear hK1 K1
  refine seq_step fun K2 hK2 => ?_
  simp
  rw [hK2]
  clear hK2 K2
  refine seq_step fun K3 hK3 => ?_
  have g0 : getL (h ++ [O.lst []]) h.length = some [] := getL_new
  have k0 : Keep [] h (h ++ [O.lst []]) := .app
  obtain ⟨q, hq⟩ : ∃ q, q = h.length := ⟨_, rfl⟩
  rw [← hq] at g0 ⊢
  generalize h ++ [O.lst []] = h0 at g0 k0 ⊢
  refine while_ok (fun m s h' => ∃ (S : List Srow) (fm : List Nme) (d3 d4 : Option D), s = [some (shpD R), some (.int (m : Int)), some (.ref q), d3, d4] ∧ m < F.length ∧ F[m]? = some fm ∧ Chn fm S.reverse fs ∧ S.length + m ≤ i ∧ getL h' q = some (S.map srD) ∧ Keep [q] h0 h') ?_ (n := i) ⟨[], fs, _, _, rfl, il, hi, .nil _, by simp, g0, .refl⟩
  · rintro m s h' K ⟨S, fm, d3, d4, rfl, hm, hfm, ch, ls, g, k'⟩ hK
    simp
    by_cases h0m : m = 0
    · subst h0m
      simp
      rw [t.zero] at hfm
      cases hfm
      rw [hK3]
      clear hK3 hK K K3
      have kq : Keep [] h h' := ((k0.weak (by simp)).trans k').new (by simp [hq])
      refine seq_step fun K4 hK4 => ?_
      simp
      have g4 : getL (h' ++ [O.lst []]) q = some (S.map srD) := (Keep.app : Keep [] h' _).get g (by simp)
      have gr : getL (h' ++ [O.lst []]) h'.length = some [] := getL_new
      have k4 : Keep [] h (h' ++ [O.lst []]) := kq.trans .app
      have hqr : q < h'.length := getL_lt g
      obtain ⟨r, hr⟩ : ∃ r, r = h'.length := ⟨_, rfl⟩
      rw [← hr] at gr hqr ⊢
      have hrl : h.length ≤ r := by have := kq.len; omega
      generalize h' ++ [O.lst []] = h1 at g4 gr k4 ⊢
      rw [hK4]
      clear hK4 K4
      refine seq_step fun K5 hK5 => ?_
      simp [g4]
      have es : stepL (S.map srD) (-1) = S.reverse.map srD := by simp [stepL, List.map_reverse]
      rw [es]
      have gv : getL (h1 ++ [O.lst (S.reverse.map srD)]) h1.length = some (S.reverse.map srD) := getL_new
      have gr5 : getL (h1 ++ [O.lst (S.reverse.map srD)]) r = some [] := (Keep.app : Keep [] h1 _).get gr (by simp)
      have k5 : Keep [] h (h1 ++ [O.lst (S.reverse.map srD)]) := k4.trans .app
      have hrv : r < h1.length := getL_lt gr
      generalize h1 ++ [O.lst (S.reverse.map srD)] = h5 at gv gr5 k5 ⊢
      generalize h1.length = v at gv hrv ⊢
      have g5v := gv
      refine forW_map (f := srD) (fun l rest s h' => ∃ (gs : List Nme) (d4 : Option D), s = [some (shpD R), some (.int 0), some (.ref q), some (.ref r), d4] ∧ Chn gs rest fs ∧ gs.Nodup ∧ gs.length ≤ l.length ∧ getL h' r = some (gs.map .str) ∧ Keep [r] h5 h') ⟨[], _, rfl, ch, List.nodup_nil, by simp, gr5, .refl⟩ ?_ ?_
      · rintro s h6 ⟨gs, d4, rfl, ch, nd, lg, g6, k6⟩
        refine ⟨k6.get gv (by simp; omega), ?_⟩
        cases ch
        simp only
        rw [hK5]
        simp [g6]
        exact k h6 (((k5.weak (by simp)).trans k6).new (by simp; omega))
      · rintro l x rest s h6 K e ⟨gs, d4, rfl, ch, nd, lg, g6, k6⟩ hK
        refine ⟨k6.get gv (by simp; omega), ?_⟩
        obtain ⟨xn, xb, xf⟩ := x
        cases ch with
        | cons hb wf ch =>
        have ll : l.length ≤ 100 := by
          have := congrArg List.length e
          simp at this
          omega
        simp [srD]
        cases xb with
        | true =>
          have hf : xf ∉ gs := by simpa using hb
          have od : strOkL (deedN true) = true := rfl
          simp [od, deedN, g6, show strOkL [112, 117, 116] = true from rfl]
          refine ⟨by unfold SZ; omega, hK _ _ ⟨gs ++ [xf], _, rfl, by simpa [stepF] using ch, ?_, by simp; omega, ?_, k6.trans (.set (by simp))⟩⟩
          · rw [List.nodup_append]
            refine ⟨nd, by simp, fun a ha b hb e => ?_⟩
            rw [List.mem_singleton] at hb
            rw [e, hb] at ha
            exact hf ha
          · rw [getL_set_self (getL_lt g6)]; simp
        | false =>
          have hf : xf ∈ gs := by simpa using hb
          obtain ⟨j, e1, e2⟩ := erase_f hf nd
          have od : strOkL (deedN false) = true := rfl
          simp [od, deedN, g6, show strOkL [112, 117, 116] = true from rfl, show strOkL [100, 114, 111, 112] = true from rfl]
          rw [bmw_remove]
          refine ⟨gs, j, g6, e1, ?_⟩
          refine hK _ _ ⟨gs.filter fun z => !decide (z = xf), _, rfl, by simpa [stepF] using ch, nd.filter _, Nat.le_trans (List.length_filter_le _ _) (by simp; omega), ?_, k6.trans (.set (by simp))⟩
          rw [getL_set_self (getL_lt g6), e2]
    · have hm' : 0 < m := by omega
      obtain ⟨⟨rn, rb, rf⟩, hr⟩ : ∃ x, R[m - 1]? = some x := ⟨R[m - 1]'(by omega), List.getElem?_eq_getElem _⟩
      obtain ⟨hn, wf, fs0, e1, e2, e3⟩ := t.row _ _ _ _ hr
      rw [show m - 1 + 1 = m by omega] at e3
      cases hfm.symm.trans e3
      have ea : atI (shpL R) (m : Int) = some (srD (rn, rb, rf)) := by
        rw [Rf.atI_nat, shpL, show m = m - 1 + 1 by omega, List.getElem?_cons_succ, List.getElem?_map, hr]
        rfl
      have lS : S.length ≤ 100 := by omega
      simp [hm', g, ea]
      refine ⟨by unfold SZ; omega, ?_⟩
      simp [srD]
      refine hK rn _ _ (by omega) ⟨S ++ [(rn, rb, rf)], fs0, _, _, rfl, by omega, e1, ?_, by simp; omega, ?_, k'.trans (.set (by simp))⟩
      · rw [List.reverse_append]
        exact .cons e2 wf ch
      · rw [getL_set_self (getL_lt g)]
        simp [srD]
theorem eqv_sr (x y : Srow) : D.eqv (srD x) (srD y) = decide (x = y) := by
  obtain ⟨a, b, f⟩ := x
  obtain ⟨a', b', f'⟩ := y
  have hd : deedN b = deedN b' ↔ b = b' := by cases b <;> cases b' <;> decide
  simp only [srD, D.eqv, D.eqvs, Prod.mk.injEq]
  have hi : ((a : Int) = (a' : Int)) ↔ a = a' := by omega
  by_cases h1 : a = a' <;> by_cases h2 : b = b' <;> by_cases h3 : f = f' <;> simp [h1, h2, h3, hd, hi]
theorem pl_sr {r : Srow} (w : Word r.2.2) : D.pl 2 (srD r) = true := by
  have : strOkL (deedN r.2.1) = true := by cases r.2.1 <;> rfl
  have w' : strOkL r.2.2 = true := w.ok
  simp [srD, D.pl, D.pls, this, w']
def RowsW (R : List Srow) : Prop := ∀ r ∈ R, Word r.2.2
theorem Bt.rw_ {R : List Srow} {F : List (List Nme)} (t : Bt R F) : RowsW R := fun r hr => by
  obtain ⟨i, hi⟩ := List.getElem?_of_mem hr
  exact (t.row i r.1 r.2.1 r.2.2 hi).2.1
def srO : Option Srow → D
  | none => .tup []
  | some r => srD r
def childR (R : List Srow) (x : Srow) : Option Nat := R.findIdx? fun r => decide (r = x)
theorem child_of_k (H : HSp P c) {R : List Srow} (w : RowsW R) (lR : R.length ≤ 100) {x : Srow} (wx : Word x.2.2) (k : Q (match childR R x with | some j => .int ((j + 1 : Nat) : Int) | none => .non) h) : wC P (n + 1) (c if_child_of) [shpD R, .int (x.1 : Int), .str (deedN x.2.1), .str x.2.2] h Q E := by
  refine call_ok H.child rfl ?_
  simp only [startA, s_child_of]
  refine seq_step fun K1 hK1 => ?_
  simp
  have eS : shpL R = (none :: R.map some).map srO := by simp [shpL, srO, Function.comp_def]
  have px : D.pl 2 (srD x) = true := pl_sr wx
  have nof : ∀ {l : List (Option Srow)} {r : List (Option Srow)} {o : Option Srow}, l ++ o :: r = none :: R.map some → (∀ y ∈ l, y ≠ some x) → o = some x → childR R x = some (l.length - 1) ∧ 0 < l.length := by
    intro l r o e hl ho
    subst ho
    cases l with
    | nil => simp at e
    | cons a l =>
      rw [List.cons_append, List.cons.injEq] at e
      obtain ⟨rfl, e⟩ := e
      obtain ⟨l', r', rfl, rfl, e3⟩ := List.map_eq_append_iff.mp e.symm
      obtain ⟨y, r'', rfl, e4, rfl⟩ := List.map_eq_cons_iff.mp e3
      cases e4
      refine ⟨?_, by simp⟩
      unfold childR
      rw [List.findIdx?_append]
      have : l'.findIdx? (fun r => decide (r = x)) = none := by
        rw [List.findIdx?_eq_none_iff]
        intro z hz
        have := hl (some z) (by simp; exact hz)
        simpa using this
      rw [this]
      simp [List.findIdx?_cons]
  rw [eS]
  refine forW_enum (f := srO) (fun l rest s h' => ∃ d4 d5 : Option D, s = [some (shpD R), some (.int (x.1 : Int)), some (.str (deedN x.2.1)), some (.str x.2.2), d4, d5] ∧ h' = h ∧ ∀ y ∈ l, y ≠ some x) ⟨_, _, rfl, rfl, by simp⟩ ?_ ?_
  · rintro s h' ⟨d4, d5, rfl, rfl, hn⟩
    refine ⟨trivial, ?_⟩
    simp only
    rw [hK1]
    simp
    have : childR R x = none := by
      unfold childR
      rw [List.findIdx?_eq_none_iff]
      intro z hz
      have := hn (some z) (by simp; exact hz)
      simpa using this
    rw [this] at k
    exact k
  · rintro l o rest s h' K e ⟨d4, d5, rfl, rfl, hn⟩ hK
    refine ⟨trivial, ?_⟩
    simp
    show eqW h' (srO o) (srD x) _
    have po : D.pl 2 (srO o) = true := by
      cases o with
      | none => rfl
      | some r =>
        have : r ∈ R := by
          have : some r ∈ none :: R.map some := by rw [← e]; simp
          simpa using this
        exact pl_sr (w r this)
    rw [eqW_pl (n := 2) (m := 2) _ _ (by decide) (by decide) po px]
    have eo : D.eqv (srO o) (srD x) = decide (o = some x) := by
      cases o with
      | none => simp [srO, srD, D.eqv, D.eqvs]
      | some r => simp [srO, eqv_sr]
    rw [eo]
    by_cases ho : o = some x
    · simp [ho]
      obtain ⟨c1, c2⟩ := nof e hn ho
      rw [c1] at k
      simp only at k
      rw [show l.length - 1 + 1 = l.length by omega] at k
      exact k
    · simp [ho]
      refine hK _ _ ⟨_, _, rfl, rfl, fun y hy => ?_⟩
      rcases List.mem_append.mp hy with hy | hy
      · exact hn y hy
      · rw [List.mem_singleton.mp hy]; exact ho
end Lw
namespace Lw
open PySem PySem.Spec PyProof.Rows L2 Rf
variable {P : Prg} {c : Nat → Nat} {n : Nat} {h : AH} {Q : QD} {E : EC}
theorem ok_deed (b : Bool) : strOkL (deedN b) = true := by cases b <;> rfl
theorem shape_by_stn (H : HSp P c) {R : List Srow} {p : Nat} {d : D} (s : Stn p (R.length + 1) h d) {b : Bool} {f : Nme} (k : E ⟨c ic_NoShape, []⟩ h) : wC P (n + 3) (c if_shape_by) [shpD R, d, .str (deedN b), .str f] h Q E := by
  refine call_ok H.by_ rfl ?_
  simp only [startA, s_shape_by]
  refine seq_step fun K1 hK1 => ?_
  simp
  exact fields_at_no (n := n) H s k
theorem eq_drop (b : Bool) : decide (deedN b = [100, 114, 111, 112]) = !b := by cases b <;> rfl
theorem shape_by_no (H : HSp P c) {R : List Srow} {F : List (List Nme)} (t : Bt R F) (lR : R.length ≤ 100) {i : Nat} {fs : List Nme} (hi : F[i]? = some fs) {b : Bool} {f : Nme} (wf : Word f) (hb : b = decide (f ∈ fs)) (k : ∀ h', Keep [] h h' → E ⟨c ic_NoField, []⟩ h') : wC P (n + 3) (c if_shape_by) [shpD R, .int (i : Int), .str (deedN b), .str f] h Q E := by
  refine call_ok H.by_ rfl ?_
  have fw := t.fs fs (List.mem_of_getElem? hi)
  simp only [startA, s_shape_by]
  refine seq_step fun K1 hK1 => ?_
  simp
  refine fields_at_k (n := n) H t lR hi fun h1 k1 => ?_
  simp [inW_tup, tupS, oksN (fun u hu => (fw.2.1 u hu).ok), D.ok, show strOkL f = true from wf.ok, mem_str]
  rw [hK1]
  clear hK1 K1
  refine seq_step fun K2 hK2 => ?_
  simp [ok_deed, show strOkL [100, 114, 111, 112] = true from rfl, eq_drop, ← hb]
  exact k h1 k1
theorem shape_by_k (H : HSp P c) {R : List Srow} {F : List (List Nme)} (t : Bt R F) (lR : R.length ≤ 100) {i : Nat} {fs : List Nme} (hi : F[i]? = some fs) {b : Bool} {f : Nme} (wf : Word f) (hb : b = !decide (f ∈ fs))
    (k : ∀ R' F' j h', Bt R' F' → R'.length ≤ R.length + 1 → R'[j]? = some (i, b, f) → F'[j + 1]? = some (stepF fs b f) → ((∀ r ∈ R, r.2.2 ≠ f) → R' = R ++ [(i, b, f)] ∧ j = R.length) → Keep [] h h' → Q (.tup [shpD R', .int ((j + 1 : Nat) : Int)]) h') : wC P (n + 3) (c if_shape_by) [shpD R, .int (i : Int), .str (deedN b), .str f] h Q E := by
  refine call_ok H.by_ rfl ?_
  have fw := t.fs fs (List.mem_of_getElem? hi)
  have len := t.len
  simp only [startA, s_shape_by]
  refine seq_step fun K1 hK1 => ?_
  simp
  refine fields_at_k (n := n) H t lR hi fun h1 k1 => ?_
  simp [inW_tup, tupS, oksN (fun u hu => (fw.2.1 u hu).ok), D.ok, show strOkL f = true from wf.ok, mem_str]
  rw [hK1]
  clear hK1 K1
  refine seq_step fun K2 hK2 => ?_
  have hb' : decide (f ∈ fs) = !b := by rw [hb]; simp
  simp [ok_deed, show strOkL [100, 114, 111, 112] = true from rfl, eq_drop, hb']
  rw [hK2]
  clear hK2 K2
  refine seq_step fun K3 hK3 => ?_
  simp
  refine child_of_k (n := n + 1) H t.rw_ lR (x := (i, b, f)) wf ?_
  rw [hK3]
  clear hK3 K3
  refine seq_step fun K4 hK4 => ?_
  cases hc : childR R (i, b, f) with
  | some j =>
    simp
    have hj : R[j]? = some (i, b, f) := by
      unfold childR at hc
      rw [List.findIdx?_eq_some_iff_getElem] at hc
      obtain ⟨hl, h2, _⟩ := hc
      rw [List.getElem?_eq_getElem hl]
      simpa using h2
    obtain ⟨_, _, gs, e1, _, e3⟩ := t.row _ _ _ _ hj
    cases e1.symm.trans hi
    refine k R F j h1 t (by omega) hj e3 (fun no => absurd rfl (no _ (List.mem_of_getElem? hj))) k1
  | none =>
    simp
    rw [hK4]
    clear hK4 K4
    simp
    have lz : (shpL R).length = R.length + 1 := by simp [shpL]
    refine ⟨by rw [lz]; unfold SZ; omega, ?_⟩
    have e1 : shpL R ++ [D.tup [D.int (i : Int), D.str (deedN b), D.str f]] = shpL (R ++ [(i, b, f)]) := by simp [shpL, srD]
    rw [e1, lz]
    subst hb
    have t' := t.add hi wf
    refine k _ _ R.length h1 t' (by simp) (by simp) ?_ (fun _ => ⟨rfl, rfl⟩) k1
    rw [← len, List.getElem?_append_right (by omega)]
    simp
end Lw
namespace Lw
open PySem PySem.Spec PyProof.Rows L2 Rf
variable {P : Prg} {c : Nat → Nat} {n : Nat} {h : AH} {Q : QD} {E : EC}
theorem Stn.keep {p m : Nat} {h h' : AH} {d : D} (k : Keep [p] h h') (s : Stn p m h d) : Stn p m h' d := by
  rcases s with s | s | s | s | s | ⟨a, rfl, ha, hh⟩
  · exact .inl s
  · exact .inr (.inl s)
  · exact .inr (.inr (.inl s))
  · exact .inr (.inr (.inr (.inl s)))
  · exact .inr (.inr (.inr (.inr (.inl s))))
  · have at_ : ∀ {o : O}, h[a]? = some o → h'[a]? = some o := fun e => (k.at_ a (List.getElem?_eq_some_iff.mp e).1 (by simpa using ha)).trans e
    exact .inr (.inr (.inr (.inr (.inr ⟨a, rfl, ha, hh.imp (fun ⟨xs, e⟩ => ⟨xs, at_ e⟩) fun ⟨kvs, e⟩ => ⟨kvs, at_ e⟩⟩))))
structure HSt20 (P : Prg) (c : Nat → Nat) : Prop extends HWs2 P c where
  stn : P[c if_l_stranger]? = some ⟨2, 4, s_l_stranger_v1 c⟩
  model : P[c if_l_model]? = some ⟨2, 9, s_l_model c⟩
theorem stranger_k (H : HSt20 P c) {p m : Nat} (hp : Purse h p) (hm : m ≤ 100) (k : ∀ d h', Stn p m h' d → Purse h' p → Keep [p] h h' → Q d h') : wC P (n + 2) (c if_l_stranger) [.ref p, .int (m : Int)] h Q E := by
  refine call_ok H.stn rfl ?_
  simp only [startA, s_l_stranger_v1]
  refine seq_step fun K1 hK1 => ?_
  simp
  refine take_k (m := 15) H.toHTk hp (by decide) (by decide) fun sp h1 hsp hp1 k1 l1 => ?_
  rw [hK1]
  clear hK1 K1
  refine seq_step fun K2 hK2 => ?_
  simp
  refine take_k (m := (m : Int) + 3) H.toHTk hp1 (by omega) (by omega) fun j h2 hj hp2 k2 l2 => ?_
  rw [hK2]
  clear hK2 K2
  have k02 := k1.trans k2
  refine seq_step fun K3 hK3 => ?_
  by_cases c3 : sp < 3
  · have c3' : (sp : Int) < 3 := by omega
    simp [c3, c3']
    refine take_k (m := 1000000000000000000000000000000) H.toHTk hp2 (by decide) (by decide) fun t h3 ht hp3 k3 l3 => ?_
    simp
    have ex : ∃ i : Int, [D.int (-1 - (j : Int)), D.int ((m : Int) + (j : Int)), D.int ((m : Int) + 1000000000000000000000000000000 - (t : Int))][sp]? = some (.int i) ∧ (i < 0 ∨ (m : Int) < i + 1) := by
      have : sp = 0 ∨ sp = 1 ∨ sp = 2 := by omega
      rcases this with rfl | rfl | rfl
      · exact ⟨-1 - (j : Int), rfl, by omega⟩
      · exact ⟨(m : Int) + (j : Int), rfl, by omega⟩
      · exact ⟨(m : Int) + 1000000000000000000000000000000 - (t : Int), rfl, by omega⟩
    obtain ⟨i, ei, hi⟩ := ex
    rw [Rf.atI_nat, ei]
    simp only [optK_some]
    exact k _ _ (.inl ⟨i, rfl, hi⟩) (hp3.keep (ps := []) .app (by simp)) ((k02.trans k3).trans .app)
  have c3' : ¬ (sp : Int) < 3 := by omega
  simp [c3, c3']
  rw [hK3]
  clear hK3 K3
  refine seq_step fun K4 hK4 => ?_
  by_cases c7 : sp < 7
  · have c7' : (sp : Int) < 7 := by omega
    simp [c7, c7']
    refine ⟨?_, ?_⟩
    · show ((j : Int)).natAbs.log2 < 1920
      rw [Int.natAbs_natCast]
      by_cases hj0 : j = 0
      · rw [hj0]; decide
      · rw [Nat.log2_lt hj0]
        exact Nat.lt_of_lt_of_le (show j < 2 ^ 7 by omega) (Nat.pow_le_pow_right (by decide) (by decide))
    have ex : ∃ d, [D.bl true, D.bl false, D.non, .str (decL (j : Int))][sp - 3]? = some d ∧ ∀ h' : AH, Stn p m h' d := by
      have : sp = 3 ∨ sp = 4 ∨ sp = 5 ∨ sp = 6 := by omega
      rcases this with rfl | rfl | rfl | rfl
      · exact ⟨_, rfl, fun _ => .inr (.inl ⟨_, rfl⟩)⟩
      · exact ⟨_, rfl, fun _ => .inr (.inl ⟨_, rfl⟩)⟩
      · exact ⟨_, rfl, fun _ => .inr (.inr (.inl rfl))⟩
      · exact ⟨_, rfl, fun _ => .inr (.inr (.inr (.inl ⟨_, rfl⟩)))⟩
    obtain ⟨d, ed, sd⟩ := ex
    show optK (atI [D.bl true, D.bl false, D.non, .str (decL (j : Int))] ((sp : Int) - 3)) _
    rw [show (sp : Int) - 3 = ((sp - 3 : Nat) : Int) by omega, Rf.atI_nat, ed]
    simp only [optK_some]
    exact k _ _ (sd _) (hp2.keep (ps := []) .app (by simp)) (k02.trans .app)
  have c7' : ¬ (sp : Int) < 7 := by omega
  simp [c7, c7']
  rw [hK4]
  clear hK4 K4
  simp
  refine ⟨.inl 0, rfl, ?_⟩
  have hpl := hp2.lt
  generalize hL : [O.lst [], O.lst [D.int (j : Int)], O.dk [], O.dk [(Sum.inl 0, D.int (j : Int))], O.lst [D.int (j : Int)], O.lst [D.tup [], D.tup [D.int (j : Int)], D.ref (List.length h2), D.ref (List.length h2 + 1), D.ref (List.length h2 + 1 + 1), D.ref (List.length h2 + 1 + 1 + 1), D.str [97], D.tup [D.ref (List.length h2 + 1 + 1 + 1 + 1)]]] = L
  have kL : Keep [p] h (h2 ++ L) := k02.trans .app
  have pL : Purse (h2 ++ L) p := hp2.keep (ps := []) .app (by simp)
  have at_ : ∀ i : Nat, (h2 ++ L)[h2.length + i]? = L[i]? := fun i => by rw [List.getElem?_append_right (by omega)]; simp
  have ex : ∃ d, [D.tup [], D.tup [D.int (j : Int)], D.ref (List.length h2), D.ref (List.length h2 + 1), D.ref (List.length h2 + 1 + 1), D.ref (List.length h2 + 1 + 1 + 1), D.str [97], D.tup [D.ref (List.length h2 + 1 + 1 + 1 + 1)]][sp - 7]? = some d ∧ Stn p m (h2 ++ L) d := by
    have : sp = 7 ∨ sp = 8 ∨ sp = 9 ∨ sp = 10 ∨ sp = 11 ∨ sp = 12 ∨ sp = 13 ∨ sp = 14 := by omega
    rcases this with rfl | rfl | rfl | rfl | rfl | rfl | rfl | rfl
    · exact ⟨_, rfl, .inr (.inr (.inr (.inr (.inl ⟨_, rfl⟩))))⟩
    · exact ⟨_, rfl, .inr (.inr (.inr (.inr (.inl ⟨_, rfl⟩))))⟩
    · exact ⟨_, rfl, .inr (.inr (.inr (.inr (.inr ⟨_, rfl, by omega, .inl ⟨_, (at_ 0).trans (by rw [← hL]; rfl)⟩⟩))))⟩
    · exact ⟨_, rfl, .inr (.inr (.inr (.inr (.inr ⟨_, rfl, by omega, .inl ⟨_, (at_ 1).trans (by rw [← hL]; rfl)⟩⟩))))⟩
    · exact ⟨_, rfl, .inr (.inr (.inr (.inr (.inr ⟨_, rfl, by omega, .inr ⟨_, (at_ 2).trans (by rw [← hL]; rfl)⟩⟩))))⟩
    · exact ⟨_, rfl, .inr (.inr (.inr (.inr (.inr ⟨_, rfl, by omega, .inr ⟨_, (at_ 3).trans (by rw [← hL]; rfl)⟩⟩))))⟩
    · exact ⟨_, rfl, .inr (.inr (.inr (.inl ⟨_, rfl⟩)))⟩
    · exact ⟨_, rfl, .inr (.inr (.inr (.inr (.inl ⟨_, rfl⟩))))⟩
  obtain ⟨d, ed, sd⟩ := ex
  rw [show (sp : Int) - 7 = ((sp - 7 : Nat) : Int) by omega, Rf.atI_nat, ed]
  simp only [optK_some]
  exact k d _ sd pL kL
theorem model_k (H : HSt20 P c) {p qn : Nat} {N : List Nme} (hp : Purse h p) (gN : getL h qn = some (N.map .str)) (hqp : qn ≠ p) (wN : ∀ x ∈ N, Word x) (lN : 1 ≤ N.length ∧ N.length ≤ 100)
    (k : ∀ R F a q h', Bt R F → R.length ≤ 12 → (∀ r ∈ R, r.2.2 ∈ N) → getL h' a = some [.tup (shpL R), .ref q] → getL h' q = some (F.map tupS) → h.length ≤ q → Purse h' p → Keep [p] h h' → Q (.ref a) h') : wC P (n + 2) (c if_l_model) [.ref p, .ref qn] h Q E := by
  refine call_ok H.model rfl ?_
  simp only [startA, s_l_model]
  refine seq_step fun K1 hK1 => ?_
  simp
  rw [hK1]
  clear hK1 K1
  have hpl := hp.lt
  have g3 : getL (h ++ [O.lst [D.tup []], O.lst [D.tup []]]) h.length = some [D.tup []] := getL_iff.mpr (by rw [List.getElem?_append_right (Nat.le_refl _), Nat.sub_self]; rfl)
  have g4 : getL (h ++ [O.lst [D.tup []], O.lst [D.tup []]]) (h.length + 1) = some [D.tup []] := getL_new2 _ _ _
  have hp1 : Purse (h ++ [O.lst [D.tup []], O.lst [D.tup []]]) p := hp.keep (ps := []) .app (by simp)
  have k1 : Keep [p] h (h ++ [O.lst [D.tup []], O.lst [D.tup []]]) := .app
  have gN1 : getL (h ++ [O.lst [D.tup []], O.lst [D.tup []]]) qn = some (N.map .str) := (getL_app (getL_lt gN)).trans gN
  have hqn := getL_lt gN
  obtain ⟨q3, hq3⟩ : ∃ q, q = h.length := ⟨_, rfl⟩
  generalize h ++ [O.lst [D.tup []], O.lst [D.tup []]] = h1 at g3 g4 hp1 k1 gN1 ⊢
  rw [← hq3] at g3 g4 hpl hqn ⊢
  refine seq_step fun K2 hK2 => ?_
  simp
  refine take_k (m := 13) H.toHTk hp1 (by decide) (by decide) fun t h2 ht hp2 k2 l2 => ?_
  have g32 := k2.get g3 (by simp; omega)
  have g42 := k2.get g4 (by simp; omega)
  have gN2 := k2.get gN1 (by simpa using hqp)
  have k02 := k1.trans k2
  simp
  refine ⟨by omega, ?_⟩
  have nq : q3 ≠ p := by omega
  have nq1 : q3 + 1 ≠ p := by omega
  have nqn : qn ≠ q3 := by omega
  have nqn1 : qn ≠ q3 + 1 := by omega
  refine forW_range (f := fun i : Nat => D.int (i : Int)) (fun i s h' => ∃ (R : List Srow) (F : List (List Nme)) (d2 d5 d6 d7 d8 : Option D), s = [some (.ref p), some (.ref qn), d2, some (.ref q3), some (.ref (q3 + 1)), d5, d6, d7, d8] ∧ Bt R F ∧ R.length ≤ i ∧ (∀ r ∈ R, r.2.2 ∈ N) ∧ getL h' q3 = some (shpL R) ∧ getL h' (q3 + 1) = some (F.map tupS) ∧ getL h' qn = some (N.map .str) ∧ Purse h' p ∧ Keep [p] h h') ⟨[], [[]], _, _, _, _, _, rfl, .nil, by simp, by simp, g32, g42, gN2, hp2, k02⟩ ?_ ?_
  · rintro s h' ⟨R, F, d2, d5, d6, d7, d8, rfl, tB, lR, nR, gq, gf, gn, hp', k'⟩
    refine ⟨trivial, ?_⟩
    simp only
    rw [hK2]
    simp [gq]
    refine k R F h'.length (q3 + 1) _ tB (by omega) nR getL_new ((getL_app (getL_lt gf)).trans gf) (by omega) (hp'.keep (ps := []) .app (by simp)) (k'.trans .app)
  · rintro i s h' K hi ⟨R, F, d2, d5, d6, d7, d8, rfl, tB, lR, nR, gq, gf, gn, hp', k'⟩ hK
    refine ⟨trivial, ?_⟩
    clear hK2
    have lF := tB.len
    have lsh : (shpL R).length = R.length + 1 := by simp [shpL]
    simp only [tg_one, List.set_cons_succ, List.set_cons_zero]
    refine seq_step fun K1 hK1 => ?_
    simp [gq, lsh]
    refine take_k (m := (R.length : Int) + 1) H.toHTk hp' (by omega) (by omega) fun a h3 ha hp3 k3 l3 => ?_
    rw [hK1]
    clear hK1 K1
    have gq3 := k3.get gq (by simpa using nq)
    have gf3 := k3.get gf (by simpa using nq1)
    have gn3 := k3.get gn (by simpa using hqp)
    have k03 := k'.trans k3
    refine seq_step fun Kb hKb => ?_
    simp [gn3]
    refine take_k (m := (N.length : Int)) H.toHTk hp3 (by omega) (by omega) fun b h4 hb hp4 k4 l4 => ?_
    have hb' : b < N.length := by omega
    have eb : atI (N.map D.str) (b : Int) = some (.str N[b]) := by rw [Rf.atI_nat]; simp [hb']
    have gq4 := k4.get gq3 (by simpa using nq)
    have gf4 := k4.get gf3 (by simpa using nq1)
    have gn4 := k4.get gn3 (by simpa using hqp)
    have k04 := k03.trans k4
    simp [gn4, eb]
    rw [hKb]
    clear hKb Kb
    have fN : N[b] ∈ N := List.getElem_mem hb'
    generalize N[b] = f at fN ⊢
    have wf := wN f fN
    have okf : strOkL f = true := wf.ok
    have ha' : a < F.length := by omega
    obtain ⟨fs, hfs⟩ : ∃ fs, F[a]? = some fs := ⟨F[a], List.getElem?_eq_getElem ha'⟩
    have fw := tB.fs fs (List.mem_of_getElem? hfs)
    have ea : atI (F.map tupS) (a : Int) = some (tupS fs) := by rw [Rf.atI_nat, List.getElem?_map, hfs]; rfl
    refine seq_step fun K3 hK3 => ?_
    have gf5 : getL (h4 ++ [O.lst [D.str [112, 117, 116], D.str [100, 114, 111, 112]]]) (q3 + 1) = some (F.map tupS) := (getL_app (getL_lt gf4)).trans gf4
    simp [gf4, gf5, ea, tupS, inW_tup, oksN (fun u hu => (fw.2.1 u hu).ok), D.ok, okf, mem_str]
    have ed : atI [D.str [112, 117, 116], D.str [100, 114, 111, 112]] (if f ∈ fs then 1 else 0) = some (.str (deedN (!decide (f ∈ fs)))) := by
      by_cases hf : f ∈ fs
      · simp [hf, deedN, atI, ixN]
      · simp [hf, deedN, atI, ixN]
    rw [ed]
    simp only [optK_some]
    have gq5 : getL (h4 ++ [O.lst [D.str [112, 117, 116], D.str [100, 114, 111, 112]]]) q3 = some (shpL R) := (getL_app (getL_lt gq4)).trans gq4
    have gn5 : getL (h4 ++ [O.lst [D.str [112, 117, 116], D.str [100, 114, 111, 112]]]) qn = some (N.map .str) := (getL_app (getL_lt gn4)).trans gn4
    have hp5 : Purse (h4 ++ [O.lst [D.str [112, 117, 116], D.str [100, 114, 111, 112]]]) p := hp4.keep (ps := []) .app (by simp)
    have k05 : Keep [p] h (h4 ++ [O.lst [D.str [112, 117, 116], D.str [100, 114, 111, 112]]]) := k04.trans .app
    generalize h4 ++ [O.lst [D.str [112, 117, 116], D.str [100, 114, 111, 112]]] = h5 at gf5 gq5 gn5 hp5 k05 ⊢
    rw [hK3]
    clear hK3 K3
    refine seq_step fun Kd hKd => ?_
    have pS : D.oks 59 (shpL R) = true := by
      rw [oks_mem]
      intro x hx
      rcases List.mem_cons.mp hx with rfl | hx
      · rfl
      · obtain ⟨r, hr, rfl⟩ := List.mem_map.mp hx
        exact pl_ok (n := 2) (by decide) (pl_sr (wN _ (nR r hr)))
    have hdd : strOkL (deedN (!decide (f ∈ fs))) = true := ok_deed _
    have tB' := tB.add hfs wf
    generalize hb0 : (!decide (f ∈ fs)) = bb at tB' hdd ⊢
    have okx : D.ok 60 (.tup [D.int (a : Int), D.str (deedN bb), D.str f]) = true := pl_ok (n := 2) (by decide) (pl_sr (r := (a, bb, f)) wf)
    simp
    rw [inW_ref, gq5]
    simp only [oL_some]
    refine ⟨okx, pS, ?_⟩
    cases hm : D.mem (.tup [D.int (a : Int), D.str (deedN bb), D.str f]) (shpL R) with
    | true =>
      simp
      rw [hKd]
      simp
      exact hK _ _ ⟨R, F, _, _, _, _, _, rfl, tB, by omega, nR, gq5, gf5, gn5, hp5, k05⟩
    | false =>
      have eR : shpL R ++ [D.tup [D.int (a : Int), D.str (deedN bb), D.str f]] = shpL (R ++ [(a, bb, f)]) := by simp [shpL, srD]
      have l3 := getL_lt gq5
      have l4 := getL_lt gf5
      simp only [Bool.false_eq_true, if_false, Option.isSome_some, true_and, optK_some, eR]
      refine ⟨by rw [lsh]; unfold SZ; omega, hdd, rfl, ?_⟩
      have gq6 : getL (h5.set q3 (O.lst (shpL (R ++ [(a, bb, f)])))) q3 = some (shpL (R ++ [(a, bb, f)])) := getL_set_self l3
      have ks : Keep [q3] h5 (h5.set q3 (O.lst (shpL (R ++ [(a, bb, f)])))) := .set (by simp)
      have gf6 := ks.get gf5 (by simp)
      have gn6 := ks.get gn5 (by simpa using nqn)
      have hp6 := hp5.keep ks (by simpa using fun e => nq e.symm)
      have k06 : Keep [p] h (h5.set q3 (O.lst (shpL (R ++ [(a, bb, f)])))) := by
        refine ⟨Nat.le_trans k05.len ks.len, fun j hj hjp => ?_⟩
        rw [ks.at_ j (Nat.lt_of_lt_of_le hj k05.len) (by simp; omega)]
        exact k05.at_ j hj hjp
      generalize h5.set q3 (O.lst (shpL (R ++ [(a, bb, f)]))) = h6 at gq6 gf6 gn6 hp6 k06 ⊢
      have lF4 : (F.map tupS).length < SZ := by rw [List.length_map]; unfold SZ; omega
      have wFs := fw.2.1
      have lfs := fw.2.2
      have fin : ∀ h7, Keep [] h6 h7 → Kd [some (.ref p), some (.ref qn), some (.int (i : Int)), some (.ref q3), some (.ref (q3 + 1)), some (.int (a : Int)), some (.str f), some (.str (deedN bb)), d8] (h7.set (q3 + 1) (O.lst ((F ++ [stepF fs bb f]).map tupS))) := fun h7 k7 => by
        rw [hKd]
        simp only [wS_nil]
        have gf7 := k7.get gf6 (by simp)
        have gq7 := k7.get gq6 (by simp)
        have gn7 := k7.get gn6 (by simp)
        have kz : Keep [q3 + 1] h7 (h7.set (q3 + 1) (O.lst ((F ++ [stepF fs bb f]).map tupS))) := .set (by simp)
        refine hK _ _ ⟨R ++ [(a, bb, f)], F ++ [stepF fs bb f], _, _, _, _, _, rfl, by rw [← hb0] at tB' ⊢; exact tB', by simp; omega, fun r hr => ?_, kz.get gq7 (by simp), getL_set_self (getL_lt gf7), kz.get gn7 (by simpa using nqn1), (hp6.keep k7 (by simp)).keep kz (by simpa using fun e => nq1 e.symm), ?_⟩
        · rcases List.mem_append.mp hr with hr | hr
          · exact nR r hr
          · rw [List.mem_singleton.mp hr]; exact fN
        · have k07 := k06.trans (k7.weak (by simp) : Keep [p] h6 h7)
          refine ⟨Nat.le_trans k07.len kz.len, fun j hj hjp => ?_⟩
          rw [kz.at_ j (Nat.lt_of_lt_of_le hj k07.len) (by simp; omega)]
          exact k07.at_ j hj hjp
      clear hKd
      rw [gf6]
      simp only [Option.isSome_some, true_and, oL_some, ea, optK_some]
      cases bb with
      | true =>
        simp [deedN, tupS, gf6]
        have := fin h6 .refl
        simp [stepF, deedN, tupS] at this
        exact ⟨by unfold SZ; omega, by unfold SZ; omega, by simpa [tupS] using this⟩
      | false =>
        simp [deedN, tupS]
        refine lcW_pure (f := D.str) (fun h' => h' = h6) (fun z => !decide (z = f)) (fun z => .str z) (by unfold SZ; omega) rfl (fun _ _ => trivial) (fun h' e => ?_) fun z h' K' hz e hK' => ?_
        · subst e
          have := fin (h' ++ [O.lst ((fs.filter fun z => !decide (z = f)).map D.str)]) .app
          simp [stepF, deedN, tupS] at this
          have g7 : getL (h' ++ [O.lst ((fs.filter fun z => !decide (z = f)).map D.str)]) (q3 + 1) = some (F.map tupS) := (Keep.app : Keep [] h' _).get gf6 (by simp)
          rw [g7]
          simp only [optK_some]
          exact ⟨lF4, by simpa [tupS] using this⟩
        · subst e
          have okz : strOkL z = true := (wFs z hz).ok
          have := hK' h' rfl
          simp [okz, okf]
          by_cases hzf : z = f
          · simpa [hzf] using this
          · simpa [hzf] using this
end Lw
namespace Lw
open PySem PySem.Spec PyProof.Rows L2 Rf
variable {n : Nat} {h : AH} {Q : QD} {E : EC}
theorem hSp : HSp prg ix := ⟨rfl, rfl, rfl, rfl⟩
theorem hSt : HSt20 prg ix := ⟨⟨⟨rfl⟩, rfl, rfl⟩, rfl, rfl⟩
theorem asked_stn {R : List Srow} {p : Nat} {d : D} (s : Stn p (R.length + 1) h d) {door : Nat} {b : Bool} {f : Nme} (k : E ⟨ix ic_NoShape, []⟩ h) : wC prg (n + 4) (ix if_l_asked) [.int (door : Int), shpD R, d, .str (deedN b), .str f] h Q E := by
  refine call_ok (d := ⟨5, 5, s_l_asked ix⟩) rfl rfl ?_
  simp only [startA, s_l_asked]
  refine seq_step fun K1 hK1 => ?_
  by_cases h0 : door = 0
  · simp [h0]
    exact fields_at_no (P := prg) (n := n + 1) hSp s k
  · have h0' : ¬ (door : Int) = 0 := by omega
    simp [h0, h0']
    rw [hK1]
    simp
    exact shape_by_stn (P := prg) (n := n) hSp s k
theorem asked_no {R : List Srow} {F : List (List Nme)} (t : Bt R F) (lR : R.length ≤ 100) {i : Nat} {fs : List Nme} (hi : F[i]? = some fs) {b : Bool} {f : Nme} (wf : Word f) (hb : b = decide (f ∈ fs)) (k : ∀ h', Keep [] h h' → E ⟨ix ic_NoField, []⟩ h') : wC prg (n + 4) (ix if_l_asked) [.int 1, shpD R, .int (i : Int), .str (deedN b), .str f] h Q E := by
  refine call_ok (d := ⟨5, 5, s_l_asked ix⟩) rfl rfl ?_
  simp only [startA, s_l_asked]
  refine seq_step fun K1 hK1 => ?_
  simp
  rw [hK1]
  simp
  exact shape_by_no (P := prg) (n := n) hSp t lR hi wf hb k
theorem refused_stn {R : List Srow} {p : Nat} {d : D} (s : Stn p (R.length + 1) h d) {door : Nat} {b : Bool} {f : Nme} (k : Q (.tup [.str [115, 104, 97, 112, 101], .bl false, .bl false]) h) : wC prg (n + 5) (ix if_l_refused) [.int (door : Int), shpD R, d, .str (deedN b), .str f] h Q E := by
  refine call_ok (d := ⟨5, 8, s_l_refused_v5 ix⟩) rfl rfl ?_
  simp only [startA, s_l_refused_v5]
  refine seq_step fun K1 hK1 => ?_
  simp
  rw [hK1]
  clear hK1 K1
  refine seq_step fun K2 hK2 => ?_
  rw [wS_try2]
  simp
  refine asked_stn (n := n) s ?_
  show 6 < List.length _ ∧ ∃ b1 b2, _ = some b1 ∧ _ = some b2 ∧ K2 _ _
  refine ⟨by simp, false, false, rfl, rfl, ?_⟩
  rw [hK2]
  clear hK2 K2
  refine seq_step fun K3 hK3 => ?_
  simp
  rw [hK3]
  clear hK3 K3
  refine seq_step fun K4 hK4 => ?_
  rw [wS_tryX]
  simp
  refine asked_stn (n := n) s ?_
  unfold tryE
  show 6 < List.length _ ∧ ∃ s2, hsW _ _ _ _ = some s2 ∧ _
  refine ⟨by simp, _, rfl, ?_⟩
  show K4 _ _
  rw [hK4]
  clear hK4 K4
  refine seq_step fun K5 hK5 => ?_
  simp
  exact k
theorem refused_no {R : List Srow} {F : List (List Nme)} (t : Bt R F) (lR : R.length ≤ 100) {i : Nat} {fs : List Nme} (hi : F[i]? = some fs) {b : Bool} {f : Nme} (wf : Word f) (hb : b = decide (f ∈ fs)) (k : ∀ h', Keep [] h h' → Q (.tup [.str [102, 105, 101, 108, 100], .bl false, .bl false]) h') : wC prg (n + 5) (ix if_l_refused) [.int 1, shpD R, .int (i : Int), .str (deedN b), .str f] h Q E := by
  refine call_ok (d := ⟨5, 8, s_l_refused_v5 ix⟩) rfl rfl ?_
  simp only [startA, s_l_refused_v5]
  refine seq_step fun K1 hK1 => ?_
  simp
  rw [hK1]
  clear hK1 K1
  refine seq_step fun K2 hK2 => ?_
  rw [wS_try2]
  simp
  refine asked_no (n := n) t lR hi wf hb fun h1 k1 => ?_
  show 6 < List.length _ ∧ ∃ b1 b2, _ = some b1 ∧ _ = some b2 ∧ K2 _ _
  refine ⟨by simp, false, false, rfl, rfl, ?_⟩
  rw [hK2]
  clear hK2 K2
  refine seq_step fun K3 hK3 => ?_
  simp
  rw [hK3]
  clear hK3 K3
  refine seq_step fun K4 hK4 => ?_
  rw [wS_tryX]
  simp
  refine asked_no (n := n) t lR hi wf hb fun h2 k2 => ?_
  unfold tryE
  show 6 < List.length _ ∧ ∃ s2, hsW _ _ _ _ = some s2 ∧ _
  refine ⟨by simp, _, rfl, ?_⟩
  show K4 _ _
  rw [hK4]
  clear hK4 K4
  refine seq_step fun K5 hK5 => ?_
  simp
  exact k h2 (k1.trans k2)
theorem eqW_told {w : Nme} (ok : strOkL w = true) (K : Bool → Prop) : eqW h (.tup [.str w, .bl false, .bl false]) (.tup [.str w, .bl false, .bl false]) K = K true := by
  have p : D.pl 2 (.tup [.str w, .bl false, .bl false]) = true := by simp [D.pl, D.pls, ok]
  rw [eqW_pl (n := 2) (m := 2) _ _ (by decide) (by decide) p p]
  simp [D.eqv, D.eqvs]
theorem good_k {R : List Srow} {F : List (List Nme)} (t : Bt R F) (lR : R.length ≤ 50) {i : Nat} {fs : List Nme} (hi : F[i]? = some fs) {f : Nme} (wf : Word f) {b : Bool} (hb : b = decide (f ∈ fs)) (k : ∀ h', Keep [] h h' → Q (.bl true) h') : wC prg (n + 6) (ix if_l_good) [shpD R, .int (i : Int), .bl b, .str f] h Q E := by
  refine call_ok (d := ⟨4, 7, s_l_good ix⟩) rfl rfl ?_
  simp only [startA, s_l_good]
  refine seq_step fun K1 hK1 => ?_
  simp
  rw [hK1]
  clear hK1 K1
  refine seq_step fun K2 hK2 => ?_
  have g1 : getL (h ++ [O.lst [D.str [112, 117, 116], D.str [100, 114, 111, 112]]]) h.length = some [D.str [112, 117, 116], D.str [100, 114, 111, 112]] := getL_new
  have k1 : Keep [] h (h ++ [O.lst [D.str [112, 117, 116], D.str [100, 114, 111, 112]]]) := .app
  generalize h ++ [O.lst [D.str [112, 117, 116], D.str [100, 114, 111, 112]]] = h1 at g1 k1 ⊢
  generalize h.length = q1 at g1 ⊢
  have ed : atI [D.str [112, 117, 116], D.str [100, 114, 111, 112]] (1 - (if b = true then 1 else 0)) = some (.str (deedN b)) := by
    cases b <;> rfl
  simp [g1, ed]
  refine refused_no (n := n) t (by omega) hi wf hb fun h2 k2 => ?_
  rw [eqW_told rfl]
  simp
  rw [hK2]
  clear hK2 K2
  refine seq_step fun K3 hK3 => ?_
  cases b with
  | false =>
    simp
    exact k h2 (k1.trans k2)
  | true =>
    have hf : f ∈ fs := by simpa using hb
    simp
    rw [hK3]
    clear hK3 K3
    refine seq_step fun K4 hK4 => ?_
    simp
    refine shape_by_k (P := prg) (n := n + 2) hSp t (by omega) hi (b := false) (f := f) wf (by simp [hf]) fun R1 F1 j1 h3 t1 l1 r1 f1 _ k3 => ?_
    rw [hK4]
    clear hK4 K4
    refine seq_step fun K5 hK5 => ?_
    simp
    have n1 : f ∉ stepF fs false f := by simp [stepF]
    refine shape_by_k (P := prg) (n := n + 2) hSp t1 (by omega) f1 (b := true) (f := f) wf (by simp [n1]) fun R2 F2 j2 h4 t2 l2 r2 f2 _ k4 => ?_
    rw [hK5]
    clear hK5 K5
    simp
    have ea : atI (shpL R2) ((j2 : Int) + 1) = some (srD (j1 + 1, true, f)) := by
      rw [show (j2 : Int) + 1 = ((j2 + 1 : Nat) : Int) by omega, Rf.atI_nat, shpL, List.getElem?_cons_succ, List.getElem?_map, r2]
      rfl
    rw [ea]
    simp only [optK_some]
    have es : D.tup [D.int ((j1 : Int) + 1), D.str [112, 117, 116], D.str f] = srD (j1 + 1, true, f) := by simp [srD, deedN]
    rw [es]
    exact same_ok (P := prg) (sm := ix if_l_same) rfl (n + 4) (pl_mono (n := 2) (by omega) (pl_sr (r := (j1 + 1, true, f)) wf)) fun h5 k5 => k h5 (((k1.trans k2).trans (k3.trans k4)).trans k5)
end Lw
namespace Lw
open PySem PySem.Spec PyProof.Rows L2 Rf
variable {n : Nat} {h : AH} {Q : QD} {E : EC}
theorem Bt.from {R : List Srow} {F : List (List Nme)} (t : Bt R F) : ∀ fs ∈ F, ∀ x ∈ fs, ∃ r ∈ R, r.2.2 = x := by
  induction t with
  | nil => intro fs hf x hx; rw [List.mem_singleton.mp hf] at hx; simp at hx
  | @add R F n fs f t hn wf ih =>
    intro gs hg x hx
    have up : ∀ gs ∈ F, ∀ x ∈ gs, ∃ r ∈ R ++ [(n, !decide (f ∈ fs), f)], r.2.2 = x := fun gs hg x hx => by
      obtain ⟨r, hr, e⟩ := ih gs hg x hx
      exact ⟨r, List.mem_append_left _ hr, e⟩
    rcases List.mem_append.mp hg with hg | hg
    · exact up gs hg x hx
    · rw [List.mem_singleton.mp hg] at hx
      unfold stepF at hx
      split at hx
      · rcases List.mem_append.mp hx with hx | hx
        · exact up fs (List.mem_of_getElem? hn) x hx
        · rw [List.mem_singleton.mp hx]
          exact ⟨_, List.mem_append_right _ (List.mem_singleton.mpr rfl), rfl⟩
      · exact up fs (List.mem_of_getElem? hn) x (List.mem_filter.mp hx).1
theorem law_true : ∀ ns : List Int, ns.length ≤ 63 → wC (rs.map (·.d)) 60 16 [.rol (ns.map .int)] [] (fun d _ => d = .bl true) fun _ _ => False := by
  intro ns hn
  refine call_ok (d := ⟨1, 12, s_law_v49 ix⟩) rfl rfl ?_
  simp only [startA, s_law_v49]
  refine seq_step fun K1 hK1 => ?_
  simp
  show wC prg 59 _ _ _ _ _
  refine cell_ok (P := prg) (n := 58) (f := ix if_l_cell) (i := 1) rfl (by omega) fun cc h1 k1 => ?_
  refine purse_ok (P := prg) (n := 58) (f := ix if_l_purse) rfl fun h2 hp2 k2 l2 => ?_
  rw [hK1]
  clear hK1 K1
  obtain ⟨p, hp⟩ : ∃ p, p = h1.length := ⟨_, rfl⟩
  rw [← hp] at hp2 ⊢
  refine seq_step fun K2 hK2 => ?_
  simp
  refine cell_ok (P := prg) (n := 58) (f := ix if_l_cell) (i := 0) rfl (by omega) fun cc' h3 k3 => ?_
  have hp3 : Purse h3 p := hp2.keep k3 (by simp)
  refine purse_ok (P := prg) (n := 58) (f := ix if_l_purse) rfl fun h4 hq4 k4 l4 => ?_
  rw [hK2]
  clear hK2 K2
  have hp4 : Purse h4 p := hp3.keep k4 (by simp)
  obtain ⟨q, hq⟩ : ∃ q, q = h3.length := ⟨_, rfl⟩
  have pq : p ≠ q := by have := hp3.lt; omega
  rw [← hq] at hq4 ⊢
  refine seq_step fun K3 hK3 => ?_
  simp
  refine take_k (P := prg) (m := 4) hSt.toHTk hq4 (by decide) (by decide) fun t h5 ht hq5 k5 l5 => ?_
  have hp5 := hp4.keep k5 (by simpa using pq)
  simp
  rw [show (1 : Int) + (t : Int) = ((1 + t : Nat) : Int) by omega]
  refine words2_k (P := prg) (us := []) hSt.toHWs2 (m := 1 + t) (hq5.keep (ps := []) .app (by simp)) getL_new (by simp) (by simp; omega) (by have := hq5.lt; omega) fun N qN h6 lN WN hq6 k6 gN lqN => ?_
  rw [hK3]
  clear hK3 K3
  have hp6 : Purse h6 p := (hp5.keep (ps := []) .app (by simp)).keep k6 (by simpa using pq)
  have nNq : qN ≠ q := by have := hq5.lt; simp at lqN; omega
  have nNp : qN ≠ p := by have := hp5.lt; simp at lqN; omega
  have wN := WN.w
  refine seq_step fun K4 hK4 => ?_
  simp
  refine model_k (P := prg) hSt hq6 gN nNq wN (by omega) fun R F a qF h7 tB lR nR ga gF nF hq7 k7 => ?_
  have hp7 := hp6.keep k7 (by simpa using pq)
  have gN7 := k7.get gN (by simpa using nNq)
  simp
  refine ⟨_, getL_iff.mp ga, rfl, ?_⟩
  show K4 [some (D.rol (ns.map D.int)), some (.ref p), some (.ref q), some (.ref qN), none, none, none, none, none, some (shpD R), some (.ref qF), none] h7
  rw [hK4]
  clear hK4 K4
  have lsh : (shpL R).length = R.length + 1 := by simp [shpL]
  have lF := tB.len
  refine seq_step fun K5 hK5 => ?_
  simp [lsh]
  have e1 : ((R.length : Int) + 1) = ((R.length + 1 : Nat) : Int) := by omega
  rw [e1]
  refine stranger_k (P := prg) hSt hp7 (by omega) fun d h8 sd hp8 k8 => ?_
  rw [hK5]
  clear hK5 K5
  have nFp : qF ≠ p := by have := hp6.lt; omega
  have gN8 := k8.get gN7 (by simpa using nNp)
  have gF8 := k8.get gF (by simpa using nFp)
  refine seq_step fun K6 hK6 => ?_
  simp
  have gP : getL (h8 ++ [O.lst [D.str [112, 117, 116], D.str [100, 114, 111, 112]]]) h8.length = some [D.str [112, 117, 116], D.str [100, 114, 111, 112]] := getL_new
  have gN9 : getL (h8 ++ [O.lst [D.str [112, 117, 116], D.str [100, 114, 111, 112]]]) qN = some (N.map .str) := (getL_app (getL_lt gN8)).trans gN8
  have gF9 : getL (h8 ++ [O.lst [D.str [112, 117, 116], D.str [100, 114, 111, 112]]]) qF = some (F.map tupS) := (getL_app (getL_lt gF8)).trans gF8
  have hp9 : Purse (h8 ++ [O.lst [D.str [112, 117, 116], D.str [100, 114, 111, 112]]]) p := hp8.keep (ps := []) .app (by simp)
  have sd9 : Stn p (R.length + 1) (h8 ++ [O.lst [D.str [112, 117, 116], D.str [100, 114, 111, 112]]]) d := sd.keep .app
  generalize h8 ++ [O.lst [D.str [112, 117, 116], D.str [100, 114, 111, 112]]] = h9 at gP gN9 gF9 hp9 sd9 ⊢
  generalize h8.length = qP at gP ⊢
  have eP : [D.str [112, 117, 116], D.str [100, 114, 111, 112]] = [true, false].map fun b => D.str (deedN b) := rfl
  rw [eP] at gP ⊢
  refine forW_map (f := fun b => D.str (deedN b)) (fun l r s h' => ∃ d5 d11 : Option D, s = [some (.rol (ns.map .int)), some (.ref p), some (.ref q), some (.ref qN), some d, d5, none, none, none, some (shpD R), some (.ref qF), d11] ∧ h' = h9) ⟨_, _, rfl, rfl⟩ ?_ ?_
  rotate_left
  · rintro l b r s h' K e ⟨d5, d11, rfl, rfl⟩ hK
    refine ⟨gP, ?_⟩
    clear hK6
    simp only [tg_one, List.set_cons_succ, List.set_cons_zero]
    refine seq_step fun K1 hK1 => ?_
    simp [gN9]
    refine forW_map (f := D.str) (fun l r s h'' => ∃ d11 : Option D, s = [some (.rol (ns.map .int)), some (.ref p), some (.ref q), some (.ref qN), some d, some (.str (deedN b)), none, none, none, some (shpD R), some (.ref qF), d11] ∧ h'' = h') ⟨_, rfl, rfl⟩ ?_ ?_
    · rintro s h'' ⟨d11, rfl, rfl⟩
      refine ⟨gN9, ?_⟩
      simp only
      rw [hK1]
      simp
      exact hK _ _ ⟨_, _, rfl, rfl⟩
    · rintro l2 f r2 s h'' K2 e2 ⟨d11, rfl, rfl⟩ hK2
      refine ⟨gN9, ?_⟩
      simp only [tg_one, List.set_cons_succ, List.set_cons_zero]
      refine seq_step fun K3 hK3 => ?_
      simp
      refine refused_stn (n := 54) (door := 1) (b := b) sd9 ?_
      rw [eqW_told rfl]
      simp
      rw [hK3]
      simp
      exact hK2 _ _ ⟨_, rfl, rfl⟩
  rintro s h' ⟨d5, d11, rfl, rfl⟩
  refine ⟨gP, ?_⟩
  simp only
  rw [hK6]
  clear hK6 K6
  obtain ⟨f0, hf0⟩ : ∃ f0, N[0]? = some f0 := ⟨N[0]'(by omega), List.getElem?_eq_getElem _⟩
  have e0 : atI (N.map D.str) 0 = some (.str f0) := (Rf.atI_nat _ 0).trans (by rw [List.getElem?_map, hf0]; rfl)
  refine seq_step fun K7 hK7 => ?_
  simp [gN9, e0]
  refine refused_stn (n := 54) (door := 0) (b := true) sd9 ?_
  rw [eqW_told rfl]
  refine ⟨rfl, ?_⟩
  rw [hK7]
  clear hK7 K7
  refine seq_step fun K8 hK8 => ?_
  simp [lsh]
  refine ⟨by omega, ?_⟩
  refine forW_range (f := fun i : Nat => D.int (i : Int)) (fun i s h2 => ∃ d6 d11 : Option D, s = [some (.rol (ns.map .int)), some (.ref p), some (.ref q), some (.ref qN), some d, d5, d6, none, none, some (shpD R), some (.ref qF), d11] ∧ Keep [] h' h2) ⟨_, _, rfl, .refl⟩ ?_ ?_
  rotate_left
  · rintro i s h2 K hi ⟨d6, d11, rfl, k2'⟩ hK
    refine ⟨trivial, ?_⟩
    clear hK8
    simp only [tg_one, List.set_cons_succ, List.set_cons_zero]
    refine seq_step fun K1 hK1 => ?_
    have gN2 := k2'.get gN9 (by simp)
    have gF2 := k2'.get gF9 (by simp)
    obtain ⟨fs, hfs⟩ : ∃ fs, F[i]? = some fs := ⟨F[i]'(by omega), List.getElem?_eq_getElem _⟩
    have fw := tB.fs fs (List.mem_of_getElem? hfs)
    have ei : atI (F.map tupS) (i : Int) = some (tupS fs) := by rw [Rf.atI_nat, List.getElem?_map, hfs]; rfl
    simp [gN2]
    refine lcW_all (f := D.str) (fun h3 => Keep [] h2 h3) (fun _ => .bl true) (by unfold SZ; omega) .refl (fun h3 g => g.get gN2 (by simp)) (fun h3 g => ?_) fun f h3 K' hf g hK' => ?_
    · refine ⟨N.map fun _ => true, by simp [Function.comp_def], by simp, ?_⟩
      rw [hK1]
      simp
      exact hK _ _ ⟨_, _, rfl, (k2'.trans g).trans .app⟩
    · have gF3 := g.get gF2 (by simp)
      have wf := wN f hf
      simp [gF3, ei, tupS, inW_tup, oksN (fun u hu => (fw.2.1 u hu).ok), D.ok, show strOkL f = true from wf.ok, mem_str]
      exact good_k (n := 53) tB (by omega) hfs wf rfl fun h4 k4 => hK' h4 (g.trans k4)
  rintro s h10 ⟨d6, d11', rfl, k10⟩
  refine ⟨trivial, ?_⟩
  simp only
  rw [hK8]
  clear hK8 K8
  have hp10 := hp9.keep k10 (by simp)
  have gN10 := k10.get gN9 (by simp)
  have gF10 := k10.get gF9 (by simp)
  refine seq_step fun K9 hK9 => ?_
  simp [lsh]
  refine take_k (P := prg) (m := (R.length : Int) + 1) hSt.toHTk hp10 (by omega) (by omega) fun at_ h11 hat hp11 k11 l11 => ?_
  rw [hK9]
  clear hK9 K9
  have gN11 := k11.get gN10 (by simpa using nNp)
  have gF11 := k11.get gF10 (by simpa using nFp)
  refine seq_step fun K10 hK10 => ?_
  simp [gN11, e0, lsh]
  refine refused_stn (n := 54) (p := p) (door := 0) (b := true) (.inl ⟨(R.length : Int) + 1, rfl, .inr (by omega)⟩) ?_
  rw [eqW_told rfl]
  refine ⟨rfl, ?_⟩
  rw [hK10]
  clear hK10 K10
  refine seq_step fun K11 hK11 => ?_
  simp
  refine word_k2 (P := prg) (n := 57) hSt.toHTk hSt.word hp11 gN11 (fun x hx => (wN x hx).ok) (by omega) nNp fun w h12 ww nw hp12 k12 => ?_
  rw [hK11]
  clear hK11 K11
  have gF12 := k12.get gF11 (by simpa using nFp)
  refine seq_step fun K12 hK12 => ?_
  simp
  obtain ⟨fs, hfs⟩ : ∃ fs, F[at_]? = some fs := ⟨F[at_]'(by omega), List.getElem?_eq_getElem _⟩
  have nwf : w ∉ fs := fun hw => by
    obtain ⟨r, hr, e⟩ := tB.from fs (List.mem_of_getElem? hfs) w hw
    exact nw (e ▸ nR r hr)
  have nwR : ∀ r ∈ R, r.2.2 ≠ w := fun r hr e => nw (e ▸ nR r hr)
  refine shape_by_k (P := prg) (n := 56) hSp tB (by omega) hfs (b := true) (f := w) ww (by simp [nwf]) fun R' F' j' h13 t' l' r' f' no' k13 => ?_
  obtain ⟨rfl, rfl⟩ := no' nwR
  rw [hK12]
  clear hK12 K12
  have gF13 := k13.get gF12 (by simp)
  refine seq_step fun K13 hK13 => ?_
  simp [lsh]
  have eS : shpL R ++ [D.tup [D.int (at_ : Int), D.str [112, 117, 116], D.str w]] = shpL (R ++ [(at_, true, w)]) := by simp [shpL, srD, deedN]
  rw [eS]
  have pS : D.pl 4 (.tup [shpD (R ++ [(at_, true, w)]), D.int ((R.length : Int) + 1)]) = true := by
    have p2 : D.pls 2 (shpL (R ++ [(at_, true, w)])) = true := by
      rw [pls_mem]
      intro x hx
      rcases List.mem_cons.mp hx with rfl | hx
      · rfl
      · obtain ⟨r, hr, rfl⟩ := List.mem_map.mp hx
        exact pl_sr (t'.rw_ r hr)
    have lz : (shpL (R ++ [(at_, true, w)])).length < 16777216 := by simp [shpL]; omega
    simp [D.pl, D.pls, p2, lz]
  refine ⟨by unfold SZ; omega, ?_⟩
  refine same_ok (P := prg) (sm := ix if_l_same) rfl 58 (pl_mono (n := 4) (by omega) pS) fun h14 k14 => ?_
  simp
  rw [hK13]
  clear hK13 K13
  have gF14 := k14.get gF13 (by simp)
  simp [lsh]
  have e2 : ((R.length : Int) + 1) = ((R.length + 1 : Nat) : Int) := by omega
  rw [e2]
  have el : (R ++ [(at_, true, w)]).length ≤ 100 := by simp; omega
  refine fields_at_k (P := prg) (n := 57) hSp t' el f' fun h15 k15 => ?_
  have gF15 := k15.get gF14 (by simp)
  have ea : atI (F.map tupS) (at_ : Int) = some (tupS fs) := by rw [Rf.atI_nat, List.getElem?_map, hfs]; rfl
  simp [gF15, ea, tupS]
  have fw := tB.fs fs (List.mem_of_getElem? hfs)
  refine ⟨by unfold SZ; omega, ?_⟩
  have es : D.tup (fs.map D.str ++ [D.str w]) = .tup ((stepF fs true w).map D.str) := by simp [stepF]
  rw [es]
  have fw' := t'.fs _ (List.mem_of_getElem? f')
  have pf : D.pl 2 (.tup ((stepF fs true w).map D.str)) = true := by
    have p1 : D.pls 1 ((stepF fs true w).map D.str) = true := by
      rw [pls_mem]
      intro x hx
      obtain ⟨y, hy, rfl⟩ := List.mem_map.mp hx
      exact (fw'.2.1 y hy).ok
    have lz : (stepF fs true w).length < 16777216 := by have := fw'.2.2; simp at this; omega
    simp [D.pl, p1, lz]
  exact same_ok (P := prg) (sm := ix if_l_same) rfl 58 (pl_mono (n := 2) (by omega) pf) fun h16 k16 => rfl
end Lw
set_option maxHeartbeats 0
open PySem PySem.W PySem.Calls PyProof.Rows
theorem PySem.Challenge.cw_warmrows_k20_shapes_refused_holds : PySem.Challenge.rw_warmrows_k20_shapes_refused.Holds := by
  w_on; o_law
  refine HandSHeadRun.head_any (r := OpenLaw.row PySem.Challenge.rw_warmrows_k20_shapes_refused) (q := view (OpenLaw.row PySem.Challenge.rw_warmrows_k20_shapes_refused).prog [28]) (H := Lw.hk) (ob := Lw.ob) (M := 20000) (loose := Lw.names) (d := HandSHeadRun.topDef (OpenLaw.row PySem.Challenge.rw_warmrows_k20_shapes_refused).prog 28) (kwd := []) Lw.ob_eq
    (by kernel_rfl) (fun s => by kernel_rfl) Lw.run (by kernel_rfl) (by kernel_rfl) (by kernel_rfl) (by rfl) (by first | assumption | decide +kernel) (by decide +kernel) ⟨rfl, rfl, rfl, rfl, rfl, by decide +kernel⟩ ?hw ?hc
  case hw => w_witness2
  case hc =>
    refine Rf.walk_M (l := PySem.Challenge.rw_warmrows_k20_shapes_refused) (k := 60) (n := 63) (x := "_law_script") (G := Lw.G) (fn := Lw.hs) (rs := Lw.rs) (f := 16) rfl (by decide) (by kernel_rfl) ⟨rfl, by decide, by decide⟩ rfl rfl (by decide) Lw.rws Lw.lows rfl rfl (fun f hf => by cases hf) (fun t ht => by
      have ht : t ∈ [(11, [3, 4, 5, 6, 7, 8])] := ht
      simp only [List.mem_cons, List.not_mem_nil, or_false] at ht
      subst ht
      exact ⟨by decide, rfl⟩) (by decide) (r := Lw.r_law) rfl rfl (by kernel_rfl) Lw.law_true
