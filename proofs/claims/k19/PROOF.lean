import PyProof.Rows.All
import Wide.All
import OpenK.AllK
import Wide.FinOn
import HandS.ForMost
import HandS.ForExc
import HandS.TupAny
import HandS.Codes
import HandS.Deep
import HandS.Wide
import HandS.Style
import KE.DataFind
import HandS.IsInst
import HandS.Conv
import HandS.More
import HandS.Text
import KE.GoesNew
import KE.GoesMore
import PyProof.SeqIndex
import KE.KRevSl
import HandS.HeadEnd
import HandS.HeadHook2
import HandS.Defaults
import KE.KStateDown
import Lean
import HandS.Base
import HandS.Call
import HandS.Ends
import HandS.Words
import HandS.WordsExc
import HandS.Head0
import HandS.Head1
import HandS.Head2
import HandS.HeadHook1
import PySem.Challenge.RW_warmrows_k19_shapes_by_puts_and_drops
set_option Elab.async false
set_option linter.all false
set_option maxRecDepth 100000
set_option maxHeartbeats 1000000
namespace Rf
open PySem PySem.Spec PyProof.Rows L2

/-- a value, its tuples as trees; ref: a mutable object of the abstract heap; rol: a list that nobody writes -/
inductive D where
  | non
  | bl (b : Bool)
  | int (i : Int)
  | str (x : List Nat)
  | tup (xs : List D)
  | wtup (xs : List D)
  | rol (xs : List D)
  | ref (n : Nat)
  deriving Inhabited

/-- a mutable object -/
inductive O where
  | lst (xs : List D)
  | dk (kvs : List (Key × D))
  | ins (c : Nat) (fs : List (Nat × D))
  | gone
  deriving Inhabited
abbrev AH := List O

def mkS (x : List Nat) : Str := ⟨x.toArray⟩

/-- a list that stays as it is -/
def SqF (K : PySem.W.Frag) (H : Hp) (a : Addr) (xs : List V) : Prop :=
  (∃ o, H a = some (.frz o (.lst xs))) ∨
    ∃ (o : Obj) (its : Array Value) (n : Nat), K.lookup a = some o ∧ o.cls = .type "list" ∧ o.dict = none ∧ o.data = .seq its n ∧ its.size ≤ sizeLine ∧ Vals xs its.toList
theorem SqF.sq {K : PySem.W.Frag} {H : Hp} {a : Addr} {xs : List V} (h : SqF K H a xs) : SqL K H a xs := by
  rcases h with ⟨o, h⟩ | h
  · exact .inl (.inr ⟨o, h⟩)
  · exact .inr h

/-- a tuple whose own object is known -/
def SqU (K : PySem.W.Frag) (H : Hp) (a : Addr) (xs : List V) : Prop :=
  (∃ o, H a = some (.frz o (.tup xs)) ∧ o.dict = none) ∨
    ∃ (o : Obj) (its : Array Value) (n : Nat), K.lookup a = some o ∧ o.cls = .type "tuple" ∧ o.dict = none ∧ o.data = .seq its n ∧ its.size ≤ sizeLine ∧ Vals xs its.toList
theorem SqU.sqT {K : PySem.W.Frag} {H : Hp} {a : Addr} {xs : List V} (h : SqU K H a xs) : SqT K H a xs := by
  rcases h with ⟨o, h, _⟩ | ⟨o, its, n, h1, h2, _, h3⟩
  · exact .inl (.inr ⟨o, h⟩)
  · exact .inr ⟨o, its, n, h1, h2, h3⟩
abbrev tO (its : List Value) : Obj := { cls := .type "tuple", data := .seq its.toArray }
mutual
inductive RV (K : PySem.W.Frag) (H : Hp) (m : List Addr) : V → D → Prop
  | non : RV K H m .non .non
  | bl (b : Bool) : RV K H m (.bl b) (.bl b)
  | int (i : Int) : RV K H m (.int i) (.int i)
  | str (x : List Nat) : RV K H m (.str (mkS x)) (.str x)
  | tup {a : Addr} {xs : List V} {ds : List D} : SqU K H a xs → RVs K H m xs ds → RV K H m (.ref a) (.tup ds)
  | wtup {a : Addr} {xs : List V} {ds : List D} : SqT K H a xs → RVs K H m xs ds → RV K H m (.ref a) (.wtup ds)
  | rol {a : Addr} {xs : List V} {ds : List D} : SqF K H a xs → RVs K H m xs ds → RV K H m (.ref a) (.rol ds)
  | ref {a : Addr} {n : Nat} : m[n]? = some a → RV K H m (.ref a) (.ref n)
inductive RVs (K : PySem.W.Frag) (H : Hp) (m : List Addr) : List V → List D → Prop
  | nil : RVs K H m [] []
  | cons {v : V} {vs : List V} {d : D} {ds : List D} : RV K H m v d → RVs K H m vs ds → RVs K H m (v :: vs) (d :: ds)
end

/-- what stays -/
structure Ext (H : Hp) (m : List Addr) (H' : Hp) (m' : List Addr) : Prop where
  pre : ∃ t, m' = m ++ t ∧ ∀ b ∈ t, H b = none
  keep : ∀ b o, b ∉ m → H b = some o → H' b = some o
  alive : ∀ b, H' b = none → H b = none
  tups : ∀ b xs, H b = some (.tup xs) → H' b = some (.tup xs)
  frzs : ∀ b o u, H b = some (.frz o u) → H' b = some (.frz o u)
theorem Ext.refl {H : Hp} {m : List Addr} : Ext H m H m := ⟨⟨[], by simp⟩, fun _ _ _ e => e, fun _ e => e, fun _ _ e => e, fun _ _ _ e => e⟩
theorem Ext.trans {H H1 H2 : Hp} {m m1 m2 : List Addr} (a : Ext H m H1 m1) (b : Ext H1 m1 H2 m2) : Ext H m H2 m2 := by
  obtain ⟨t, e, ht⟩ := a.pre
  obtain ⟨u, e', hu⟩ := b.pre
  refine ⟨⟨t ++ u, by rw [e', e, List.append_assoc], fun c hc => ?_⟩, fun c o hc q => b.keep c o (fun z => ?_) (a.keep c o hc q), fun c q => a.alive c (b.alive c q), fun c xs q => b.tups c xs (a.tups c xs q), fun c o u q => b.frzs c o u (a.frzs c o u q)⟩
  · rcases List.mem_append.mp hc with z | z
    · exact ht c z
    · exact a.alive c (hu c z)
  · rw [e] at z
    rcases List.mem_append.mp z with z | z
    · exact hc z
    · rw [ht c z] at q; cases q
/-- what values need -/
structure Ext0 (H : Hp) (m : List Addr) (H' : Hp) (m' : List Addr) : Prop where
  pre : ∃ t, m' = m ++ t
  tups : ∀ b xs, H b = some (.tup xs) → H' b = some (.tup xs)
  frzs : ∀ b o u, H b = some (.frz o u) → H' b = some (.frz o u)
theorem Ext0.get {H H' : Hp} {m m' : List Addr} (x : Ext0 H m H' m') {n : Nat} {a : Addr} (h : m[n]? = some a) : m'[n]? = some a := by
  obtain ⟨t, e⟩ := x.pre
  rw [e, List.getElem?_append_left (List.getElem?_eq_some_iff.mp h).1]
  exact h
theorem Ext0.sqT {K : PySem.W.Frag} {H H' : Hp} {m m' : List Addr} (x : Ext0 H m H' m') {a : Addr} {xs : List V} (h : SqT K H a xs) : SqT K H' a xs := by
  rcases h with (h | ⟨o, h⟩) | h
  · exact .inl (.inl (x.tups _ _ h))
  · exact .inl (.inr ⟨o, x.frzs _ _ _ h⟩)
  · exact .inr h
theorem Ext0.sqF {K : PySem.W.Frag} {H H' : Hp} {m m' : List Addr} (x : Ext0 H m H' m') {a : Addr} {xs : List V} (h : SqF K H a xs) : SqF K H' a xs := by
  rcases h with ⟨o, h⟩ | h
  · exact .inl ⟨o, x.frzs _ _ _ h⟩
  · exact .inr h
theorem Ext0.sqU {K : PySem.W.Frag} {H H' : Hp} {m m' : List Addr} (x : Ext0 H m H' m') {a : Addr} {xs : List V} (h : SqU K H a xs) : SqU K H' a xs := by
  rcases h with ⟨o, h, d⟩ | h
  · exact .inl ⟨o, x.frzs _ _ _ h, d⟩
  · exact .inr h
mutual
theorem RV.ext0 {K : PySem.W.Frag} {H H' : Hp} {m m' : List Addr} (x : Ext0 H m H' m') : ∀ {v : V} {d : D}, RV K H m v d → RV K H' m' v d
  | _, _, .non => .non
  | _, _, .bl b => .bl b
  | _, _, .int i => .int i
  | _, _, .str z => .str z
  | _, _, .tup h r => .tup (x.sqU h) (RVs.ext0 x r)
  | _, _, .wtup h r => .wtup (x.sqT h) (RVs.ext0 x r)
  | _, _, .rol h r => .rol (x.sqF h) (RVs.ext0 x r)
  | _, _, .ref h => .ref (x.get h)
theorem RVs.ext0 {K : PySem.W.Frag} {H H' : Hp} {m m' : List Addr} (x : Ext0 H m H' m') : ∀ {vs : List V} {ds : List D}, RVs K H m vs ds → RVs K H' m' vs ds
  | _, _, .nil => .nil
  | _, _, .cons h r => .cons (RV.ext0 x h) (RVs.ext0 x r)
end
section
variable {K : PySem.W.Frag} {H H' : Hp} {m m' : List Addr}
theorem Ext.to0 (x : Ext H m H' m') : Ext0 H m H' m' := ⟨let ⟨t, e, _⟩ := x.pre; ⟨t, e⟩, x.tups, x.frzs⟩
theorem Ext.get (x : Ext H m H' m') {n : Nat} {a : Addr} (h : m[n]? = some a) : m'[n]? = some a := x.to0.get h
theorem Ext.sqT (x : Ext H m H' m') {a : Addr} {xs : List V} (h : SqT K H a xs) : SqT K H' a xs := x.to0.sqT h
theorem Ext.sqF (x : Ext H m H' m') {a : Addr} {xs : List V} (h : SqF K H a xs) : SqF K H' a xs := x.to0.sqF h
theorem Ext.sqU (x : Ext H m H' m') {a : Addr} {xs : List V} (h : SqU K H a xs) : SqU K H' a xs := x.to0.sqU h
theorem RV.ext (x : Ext H m H' m') {v : V} {d : D} (r : RV K H m v d) : RV K H' m' v d := r.ext0 x.to0
theorem RVs.ext (x : Ext H m H' m') {v : List V} {d : List D} (r : RVs K H m v d) : RVs K H' m' v d := r.ext0 x.to0
end
section
variable {K : PySem.W.Frag} {H : Hp} {m : List Addr}
theorem RVs.length : ∀ {vs : List V} {ds : List D}, RVs K H m vs ds → vs.length = ds.length
  | _, _, .nil => rfl
  | _, _, .cons _ r => by simp [RVs.length r]
theorem RVs.get : ∀ {vs : List V} {ds : List D} {i : Nat} {d : D}, RVs K H m vs ds → ds[i]? = some d → ∃ v, vs[i]? = some v ∧ RV K H m v d
  | _, _, _, _, .nil, e => by simp at e
  | _, _, 0, _, .cons h _, e => by simp at e; subst e; exact ⟨_, rfl, h⟩
  | _, _, i + 1, d, .cons _ r, e => by
    obtain ⟨v, h1, h2⟩ := RVs.get (i := i) (d := d) r (by simpa using e)
    exact ⟨v, by simpa using h1, h2⟩
theorem RVs.get' : ∀ {vs : List V} {ds : List D} {i : Nat} {v : V}, RVs K H m vs ds → vs[i]? = some v → ∃ d, ds[i]? = some d ∧ RV K H m v d
  | _, _, _, _, .nil, e => by simp at e
  | _, _, 0, _, .cons h _, e => by simp at e; subst e; exact ⟨_, rfl, h⟩
  | _, _, i + 1, v, .cons _ r, e => by
    obtain ⟨d, h1, h2⟩ := RVs.get' (i := i) (v := v) r (by simpa using e)
    exact ⟨d, by simpa using h1, h2⟩
theorem RVs.append : ∀ {vs ws : List V} {ds es : List D}, RVs K H m vs ds → RVs K H m ws es → RVs K H m (vs ++ ws) (ds ++ es)
  | _, _, _, _, .nil, r => r
  | _, _, _, _, .cons h q, r => .cons h (RVs.append q r)
theorem RVs.take : ∀ {vs : List V} {ds : List D} (n : Nat), RVs K H m vs ds → RVs K H m (vs.take n) (ds.take n)
  | _, _, 0, _ => .nil
  | _, _, _ + 1, .nil => .nil
  | _, _, n + 1, .cons h r => .cons h (RVs.take n r)
theorem RVs.drop : ∀ {vs : List V} {ds : List D} (n : Nat), RVs K H m vs ds → RVs K H m (vs.drop n) (ds.drop n)
  | _, _, 0, r => r
  | _, _, _ + 1, .nil => .nil
  | _, _, n + 1, .cons _ r => RVs.drop n r
theorem RVs.set {v : V} {d : D} (h : RV K H m v d) : ∀ {vs : List V} {ds : List D} (n : Nat), RVs K H m vs ds → RVs K H m (vs.set n v) (ds.set n d)
  | _, _, _, .nil => .nil
  | _, _, 0, .cons _ r => .cons h r
  | _, _, n + 1, .cons q r => .cons q (RVs.set h n r)
theorem RVs.reverse {vs : List V} {ds : List D} (h : RVs K H m vs ds) : RVs K H m vs.reverse ds.reverse := by
  induction vs generalizing ds with
  | nil => cases h; exact .nil
  | cons v vs ih => cases h with
    | cons h1 h2 => rw [List.reverse_cons, List.reverse_cons]; exact RVs.append (ih h2) (.cons h1 .nil)
theorem RVs.eraseIdx : ∀ {vs : List V} {ds : List D} (n : Nat), RVs K H m vs ds → RVs K H m (vs.eraseIdx n) (ds.eraseIdx n)
  | _, _, _, .nil => by simp; exact .nil
  | _, _, 0, .cons _ r => r
  | _, _, n + 1, .cons q r => .cons q (RVs.eraseIdx n r)
theorem RVs.of_get : ∀ {vs : List V} {ds : List D}, vs.length = ds.length → (∀ (i : Nat) v d, vs[i]? = some v → ds[i]? = some d → RV K H m v d) → RVs K H m vs ds
  | [], [], _, _ => .nil
  | [], _ :: _, h, _ => by simp at h
  | _ :: _, [], h, _ => by simp at h
  | v :: vs, d :: ds, h, q => .cons (q 0 v d rfl rfl) (RVs.of_get (by simpa using h) fun i a b h1 h2 => q (i + 1) a b (by simpa using h1) (by simpa using h2))
end

/-- pairs of a dict -/
inductive RK (K : PySem.W.Frag) (H : Hp) (m : List Addr) : List (Key × V) → List (Key × D) → Prop
  | nil : RK K H m [] []
  | cons {k : Key} {v : V} {d : D} {vs : List (Key × V)} {ds : List (Key × D)} : RV K H m v d → RK K H m vs ds → RK K H m ((k, v) :: vs) ((k, d) :: ds)
theorem RK.ext0 {K : PySem.W.Frag} {H H' : Hp} {m m' : List Addr} (x : Ext0 H m H' m') : ∀ {vs : List (Key × V)} {ds : List (Key × D)}, RK K H m vs ds → RK K H' m' vs ds
  | _, _, .nil => .nil
  | _, _, .cons h r => .cons (RV.ext0 x h) (RK.ext0 x r)
theorem RK.ext {K : PySem.W.Frag} {H H' : Hp} {m m' : List Addr} (x : Ext H m H' m') {vs : List (Key × V)} {ds : List (Key × D)} (r : RK K H m vs ds) : RK K H' m' vs ds := r.ext0 x.to0

/-- how names of attributes, classes are meant -/
structure Nm where
  cls : Nat → Addr
  fld : Nat → Str

inductive RF (K : PySem.W.Frag) (H : Hp) (m : List Addr) (N : Nm) : List (Str × V) → List (Nat × D) → Prop
  | nil : RF K H m N [] []
  | cons {k : Nat} {v : V} {d : D} {vs : List (Str × V)} {ds : List (Nat × D)} : RV K H m v d → RF K H m N vs ds → RF K H m N ((N.fld k, v) :: vs) ((k, d) :: ds)
theorem RF.ext0 {K : PySem.W.Frag} {H H' : Hp} {m m' : List Addr} {N : Nm} (x : Ext0 H m H' m') : ∀ {vs : List (Str × V)} {ds : List (Nat × D)}, RF K H m N vs ds → RF K H' m' N vs ds
  | _, _, .nil => .nil
  | _, _, .cons h r => .cons (RV.ext0 x h) (RF.ext0 x r)
theorem RF.ext {K : PySem.W.Frag} {H H' : Hp} {m m' : List Addr} {N : Nm} (x : Ext H m H' m') {vs : List (Str × V)} {ds : List (Nat × D)} (r : RF K H m N vs ds) : RF K H' m' N vs ds := r.ext0 x.to0

def RO (K : PySem.W.Frag) (H : Hp) (m : List Addr) (N : Nm) (a : Addr) : O → Prop
  | .lst ds => ∃ xs, H a = some (.lst xs) ∧ RVs K H m xs ds
  | .dk ds => ∃ xs, H a = some (.dK xs) ∧ RK K H m xs ds
  | .ins c fs => ∃ dx xs, H a = some (.ins (N.cls c) dx xs) ∧ RF K H m N xs fs
  | .gone => True

structure RH (K : PySem.W.Frag) (N : Nm) (H : Hp) (m : List Addr) (h : AH) : Prop where
  len : m.length = h.length
  nd : m.Nodup
  th : ∀ (n : Nat) (a : Addr), m[n]? = some a → ∃ o, H a = some o ∧ (∀ xs, o ≠ .tup xs) ∧ (∀ ob u, o ≠ .frz ob u)
  ob : ∀ (n : Nat) (a : Addr) (o : O), m[n]? = some a → h[n]? = some o → RO K H m N a o
theorem RO.at0 {K : PySem.W.Frag} {H H' : Hp} {m m' : List Addr} {N : Nm} {a : Addr} {o : O} (x : Ext0 H m H' m') (e : H' a = H a) (h : RO K H m N a o) : RO K H' m' N a o := by
  cases o with
  | lst ds => obtain ⟨xs, h1, h2⟩ := h; exact ⟨xs, e.trans h1, h2.ext0 x⟩
  | dk ds => obtain ⟨xs, h1, h2⟩ := h; exact ⟨xs, e.trans h1, h2.ext0 x⟩
  | ins c fs => obtain ⟨dx, xs, h1, h2⟩ := h; exact ⟨dx, xs, e.trans h1, h2.ext0 x⟩
  | gone => trivial

theorem RO.at {K : PySem.W.Frag} {H H' : Hp} {m m' : List Addr} {N : Nm} {a : Addr} {o : O} (x : Ext H m H' m') (e : H' a = H a) (h : RO K H m N a o) : RO K H' m' N a o := h.at0 x.to0 e
section
variable {K : PySem.W.Frag} {N : Nm} {H : Hp} {m : List Addr} {h : AH} {p : Addr} {o : HO}
/-- a new thing that is no mutable object (a tuple) -/
theorem Ext.upd (hp : H p = none) : Ext H m (upd H p o) m :=
  have k : ∀ b w, H b = some w → L2.upd H p o b = some w := fun b w e => by rw [upd_ne (ne_of_none e hp)]; exact e
  ⟨⟨[], by simp⟩, fun b w _ e => k b w e, fun b e => by
    by_cases hb : b = p
    · subst hb; exact hp
    · rw [upd_ne hb] at e; exact e, fun b xs e => k b _ e, fun b ob u e => k b _ e⟩
theorem RH.upd (r : RH K N H m h) (hp : H p = none) : RH K N (upd H p o) m h where
  len := r.len
  nd := r.nd
  th := fun n a e => by
    obtain ⟨u, h1, h2⟩ := r.th n a e
    exact ⟨u, by rw [upd_ne (ne_of_none h1 hp)]; exact h1, h2⟩
  ob := fun n a u e1 e2 => by
    obtain ⟨v, h1, _⟩ := r.th n a e1
    exact (r.ob n a u e1 e2).at (Ext.upd hp) (upd_ne (ne_of_none h1 hp))
theorem RH.fresh (r : RH K N H m h) (hp : H p = none) : p ∉ m := fun hm => by
  obtain ⟨n, e⟩ := List.getElem?_of_mem hm
  obtain ⟨u, h1, _⟩ := r.th n p e
  rw [hp] at h1; cases h1
theorem Ext.new (hp : H p = none) : Ext H m (L2.upd H p o) (m ++ [p]) := by
  have x : Ext H m (L2.upd H p o) m := Ext.upd hp
  exact ⟨⟨[p], rfl, fun b hb => by
    have : b = p := by simpa using hb
    subst this; exact hp⟩, x.keep, x.alive, x.tups, x.frzs⟩
/-- a new mutable object -/
theorem RH.new (r : RH K N H m h) (hp : H p = none) {ao : O} (ho : (∀ xs, o ≠ .tup xs) ∧ (∀ ob u, o ≠ .frz ob u)) (hr : RO K (L2.upd H p o) (m ++ [p]) N p ao) : RH K N (L2.upd H p o) (m ++ [p]) (h ++ [ao]) where
  len := by simp [r.len]
  nd := by
    rw [List.nodup_append]
    refine ⟨r.nd, by simp, fun a ha b hb e => ?_⟩
    have : b = p := by simpa using hb
    subst this
    exact r.fresh hp (e ▸ ha)
  th := fun n a e => by
    by_cases hn : n < m.length
    · rw [List.getElem?_append_left hn] at e
      obtain ⟨u, h1, h2⟩ := r.th n a e
      exact ⟨u, by rw [upd_ne (ne_of_none h1 hp)]; exact h1, h2⟩
    · rw [List.getElem?_append_right (by omega)] at e
      have : a = p := by
        cases q : n - m.length with
        | zero => rw [q] at e; simpa using e.symm
        | succ k => rw [q] at e; simp at e
      subst this
      exact ⟨o, upd_same, ho⟩
  ob := fun n a u e1 e2 => by
    by_cases hn : n < m.length
    · rw [List.getElem?_append_left hn] at e1
      rw [List.getElem?_append_left (by rw [← r.len]; exact hn)] at e2
      obtain ⟨v, h1, _⟩ := r.th n a e1
      exact (r.ob n a u e1 e2).at (Ext.new hp) (upd_ne (ne_of_none h1 hp))
    · rw [List.getElem?_append_right (by omega)] at e1
      rw [List.getElem?_append_right (by rw [← r.len]; omega), ← r.len] at e2
      cases q : n - m.length with
      | zero =>
        rw [q] at e1 e2
        have a1 : p = a := by simpa using e1
        have a2 : ao = u := by simpa using e2
        subst a1 a2
        exact hr
      | succ k => rw [q] at e1; simp at e1
theorem RH.nth (r : RH K N H m h) {n : Nat} {ao : O} (e : h[n]? = some ao) : ∃ a, m[n]? = some a ∧ RO K H m N a ao := by
  have hn : n < m.length := by rw [r.len]; exact (List.getElem?_eq_some_iff.mp e).1
  exact ⟨m[n], List.getElem?_eq_getElem hn, r.ob n _ ao (List.getElem?_eq_getElem hn) e⟩
theorem Ext.write {a : Addr} {u : HO} (hm : a ∈ m) (hu : H a = some u) (h1 : ∀ xs, u ≠ .tup xs) (h2 : ∀ ob w, u ≠ .frz ob w) : Ext H m (L2.upd H a o) m :=
  ⟨⟨[], by simp⟩, fun b w hb e => by rw [upd_ne (show b ≠ a from fun z => hb (by rw [z]; exact hm))]; exact e, fun b e => by
    by_cases hb : b = a
    · subst hb; rw [upd_same] at e; cases e
    · rw [upd_ne hb] at e; exact e,
    fun b xs e => by rw [upd_ne (fun z => by subst z; rw [hu] at e; exact h1 xs (Option.some.inj e))]; exact e,
    fun b ob w e => by rw [upd_ne (fun z => by subst z; rw [hu] at e; exact h2 ob w (Option.some.inj e))]; exact e⟩
theorem nodup_at {l : List Addr} (hd : l.Nodup) {i j : Nat} {x : Addr} (a : l[i]? = some x) (b : l[j]? = some x) : i = j := by
  obtain ⟨h1, e1⟩ := List.getElem?_eq_some_iff.mp a
  obtain ⟨h2, e2⟩ := List.getElem?_eq_some_iff.mp b
  exact (List.getElem_inj hd).mp (e1.trans e2.symm)
/-- a mutable object is written -/
theorem RH.write (r : RH K N H m h) {n : Nat} {a : Addr} (e : m[n]? = some a) {ao : O} (ho : (∀ xs, o ≠ .tup xs) ∧ (∀ ob u, o ≠ .frz ob u)) (hr : RO K (L2.upd H a o) m N a ao) : RH K N (L2.upd H a o) m (h.set n ao) ∧ Ext H m (L2.upd H a o) m := by
  obtain ⟨u, h1, h2, h3⟩ := r.th n a e
  have x : Ext H m (L2.upd H a o) m := Ext.write (List.mem_of_getElem? e) h1 h2 h3
  refine ⟨⟨by simp [r.len], r.nd, fun i b eb => ?_, fun i b w eb ew => ?_⟩, x⟩
  · by_cases hb : b = a
    · subst hb; exact ⟨o, upd_same, ho⟩
    · obtain ⟨v, q1, q2⟩ := r.th i b eb
      exact ⟨v, by rw [upd_ne hb]; exact q1, q2⟩
  · by_cases hi : i = n
    · subst hi
      rw [e] at eb; cases eb
      have hlt : i < h.length := by rw [← r.len]; exact (List.getElem?_eq_some_iff.mp e).1
      rw [List.getElem?_set_self hlt] at ew
      cases ew
      exact hr
    · rw [List.getElem?_set_ne (Ne.symm hi)] at ew
      have hb : b ≠ a := fun z => hi (nodup_at r.nd eb (z ▸ e))
      exact (r.ob i b w eb ew).at x (upd_ne hb)
/-- a thing beside the abstract heap is written -/
theorem Ext0.side {p : Addr} {u : HO} (hu : H p = some u) (h1 : ∀ xs, u ≠ .tup xs) (h2 : ∀ ob w, u ≠ .frz ob w) : Ext0 H m (L2.upd H p o) m :=
  ⟨⟨[], by simp⟩, fun b xs e => by rw [upd_ne (fun z => by subst z; rw [hu] at e; exact h1 xs (Option.some.inj e))]; exact e,
    fun b ob w e => by rw [upd_ne (fun z => by subst z; rw [hu] at e; exact h2 ob w (Option.some.inj e))]; exact e⟩
theorem RH.side {p : Addr} {u : HO} (r : RH K N H m h) (hp : p ∉ m) (hu : H p = some u) (h1 : ∀ xs, u ≠ .tup xs) (h2 : ∀ ob w, u ≠ .frz ob w) : RH K N (L2.upd H p o) m h where
  len := r.len
  nd := r.nd
  th := fun n a e => by
    obtain ⟨v, q1, q2⟩ := r.th n a e
    exact ⟨v, by rw [upd_ne (fun z => hp (by rw [← z]; exact List.mem_of_getElem? e))]; exact q1, q2⟩
  ob := fun n a w e1 e2 => (r.ob n a w e1 e2).at0 (Ext0.side hu h1 h2) (upd_ne (fun z => hp (by rw [← z]; exact List.mem_of_getElem? e1)))
theorem Ext.side {H0 : Hp} {m0 : List Addr} {p : Addr} (x : Ext H0 m0 H m) (hp : H0 p = none) : Ext H0 m0 (L2.upd H p o) m :=
  have ne : ∀ b w, H0 b = some w → b ≠ p := fun b w e z => by subst z; rw [hp] at e; cases e
  ⟨x.pre, fun b w hb e => by rw [upd_ne (ne b w e)]; exact x.keep b w hb e, fun b e => by
    by_cases hb : b = p
    · subst hb; exact hp
    · rw [upd_ne hb] at e; exact x.alive b e, fun b xs e => by rw [upd_ne (ne b _ e)]; exact x.tups b xs e, fun b ob w e => by rw [upd_ne (ne b _ e)]; exact x.frzs b ob w e⟩
/-- a thing beside joins the abstract heap -/
theorem RH.join {p : Addr} {xs : List V} {ds : List D} (r : RH K N H m h) (hp : p ∉ m) (hu : H p = some (.lst xs)) (rs : RVs K H m xs ds) : RH K N H (m ++ [p]) (h ++ [.lst ds]) := by
  have x : Ext0 H m H (m ++ [p]) := ⟨⟨[p], rfl⟩, fun _ _ e => e, fun _ _ _ e => e⟩
  refine ⟨by simp [r.len], ?_, fun n a e => ?_, fun n a u e1 e2 => ?_⟩
  · rw [List.nodup_append]
    refine ⟨r.nd, by simp, fun a ha b hb e => ?_⟩
    have : b = p := by simpa using hb
    subst this
    exact hp (e ▸ ha)
  · by_cases hn : n < m.length
    · rw [List.getElem?_append_left hn] at e
      exact r.th n a e
    · rw [List.getElem?_append_right (by omega)] at e
      have : a = p := by
        cases q : n - m.length with
        | zero => rw [q] at e; simpa using e.symm
        | succ k => rw [q] at e; simp at e
      subst this
      exact ⟨_, hu, (fun _ z => nomatch z), (fun _ _ z => nomatch z)⟩
  · by_cases hn : n < m.length
    · rw [List.getElem?_append_left hn] at e1
      rw [List.getElem?_append_left (by rw [← r.len]; exact hn)] at e2
      exact (r.ob n a u e1 e2).at0 x rfl
    · rw [List.getElem?_append_right (by omega)] at e1
      rw [List.getElem?_append_right (by rw [← r.len]; omega), ← r.len] at e2
      cases q : n - m.length with
      | zero =>
        rw [q] at e1 e2
        have a1 : p = a := by simpa using e1
        have a2 : O.lst ds = u := by simpa using e2
        subst a1 a2
        exact ⟨xs, hu, rs.ext0 x⟩
      | succ k => rw [q] at e1; simp at e1
theorem Ext.join {H0 : Hp} {m0 : List Addr} {p : Addr} (x : Ext H0 m0 H m) (hp : H0 p = none) : Ext H0 m0 H (m ++ [p]) :=
  ⟨let ⟨t, e, ht⟩ := x.pre; ⟨t ++ [p], by rw [e, List.append_assoc], fun b hb => by
    rcases List.mem_append.mp hb with z | z
    · exact ht b z
    · have : b = p := by simpa using z
      subst this; exact hp⟩, x.keep, x.alive, x.tups, x.frzs⟩
end
end Rf

namespace Rf
open PySem PySem.Spec PyProof.Rows L2

inductive Bop | add | sub | mul | fdiv | mod | pow
  deriving DecidableEq
inductive Cop | lt | le | gt | ge | eq | ne | isin | notin | isN | notN
  deriving DecidableEq
inductive Ty1 | int | bool | str | tuple | list | dict
  deriving DecidableEq
inductive Bf | len | abs | min2 | max2 | minl | maxl | int | str | tuple | list | sorted | all | any | sum | dnew
  deriving DecidableEq
inductive Bm | append | extend | pop | index | remove
  deriving DecidableEq
inductive Tg | one (i : Nat) | many (is : List Nat)
  deriving DecidableEq

inductive M where
  | nil
  | cons (a r : M)
  | var (i : Nat)
  | k (d : D)
  | glb (x : Nat) (d : D)
  | bin (op : Bop) (a b : M)
  | neg (a : M)
  | cmp (op : Cop) (a b : M)
  | ch (o1 o2 : Cop) (a b c : M)
  | and (a b : M)
  | or (a b : M)
  | not (a : M)
  | ite (c a b : M)
  | tup (as : M)
  | lst (as : M)
  | idx (a i : M)
  | slc (a lo hi : M)
  | slst (a st : M)
  | call (f : Nat) (as : M)
  | bf (f : Bf) (as : M)
  | bm (f : Bm) (o as : M)
  | isi (t : Ty1) (a : M)
  | lrng (a : M)
  | lc (e : M) (tg : Tg) (src : M) (c : M) (own : List Nat)
  | rng1 (a : M)
  | rng2 (a b : M)
  | enum (a : M)
  | zip (a b : M)
  | tv (a : M)
  | itv (a : M)

inductive MS where
  | nil
  | seq (s r : MS)
  | set (i : Nat) (e : M)
  | setT (is : List Nat) (e : M)
  | setI (o i e : M)
  | aug (i : Nat) (op : Bop) (e : M)
  | expr (e : M)
  | ret (e : M)
  | ret0
  | cond (c : M) (a b : MS)
  | while_ (c : M) (b : MS)
  | for_ (tg : Tg) (src : M) (b : MS)
  | pass_
  | brk
  | cont
  | raise_ (c : Nat) (as : M)
  | never

/-- an exception of a class of the program: its class, what its fields hold -/
structure Exc where
  cls : Nat
  fs : List (Nat × D)

abbrev Sa := List (Option D)
abbrev QD := D → AH → Prop
abbrev QL := List D → AH → Prop
abbrev EK := Exc → Sa → AH → Prop
abbrev EC := Exc → AH → Prop
abbrev CT := Nat → List D → AH → QD → EC → Prop

structure En where
  nx : Sa → AH → Prop
  rt : QD
  bk : Sa → AH → Prop
  ct : Sa → AH → Prop

/-- the longest sequence -/
def SZ : Nat := 16777216

/-! ### equality -/
mutual
def D.eqv : D → D → Bool
  | .non, .non => true
  | .bl a, .bl b => a == b
  | .bl a, .int j => (if a then (1 : Int) else 0) == j
  | .int i, .bl b => i == (if b then (1 : Int) else 0)
  | .int i, .int j => i == j
  | .str x, .str y => decide (x = y)
  | .tup xs, .tup ys => D.eqvs xs ys
  | .rol xs, .rol ys => D.eqvs xs ys
  | _, _ => false
def D.eqvs : List D → List D → Bool
  | [], [] => true
  | x :: xs, y :: ys => D.eqv x y && D.eqvs xs ys
  | _, _ => false
end
mutual
def D.same : D → D → Bool
  | .non, .non => true
  | .bl a, .bl b => a == b
  | .int a, .int b => decide (a = b)
  | .str a, .str b => decide (a = b)
  | .tup a, .tup b => D.sames a b
  | .wtup a, .wtup b => D.sames a b
  | .rol a, .rol b => D.sames a b
  | .ref a, .ref b => decide (a = b)
  | _, _ => false
def D.sames : List D → List D → Bool
  | [], [] => true
  | x :: xs, y :: ys => D.same x y && D.sames xs ys
  | _, _ => false
end
mutual
theorem D.same_eq : ∀ {a b : D}, D.same a b = true → a = b
  | .non, b, h => by cases b <;> simp [D.same] at h <;> rfl
  | .bl _, b, h => by cases b <;> simp [D.same] at h; rw [h]
  | .int _, b, h => by cases b <;> simp [D.same] at h; rw [h]
  | .str _, b, h => by cases b <;> simp [D.same] at h; rw [h]
  | .tup _, b, h => by cases b <;> simp [D.same] at h; rw [D.sames_eq h]
  | .wtup _, b, h => by cases b <;> simp [D.same] at h; rw [D.sames_eq h]
  | .rol _, b, h => by cases b <;> simp [D.same] at h; rw [D.sames_eq h]
  | .ref _, b, h => by cases b <;> simp [D.same] at h; rw [h]
theorem D.sames_eq : ∀ {a b : List D}, D.sames a b = true → a = b
  | [], b, h => by cases b <;> simp [D.sames] at h; rfl
  | x :: xs, b, h => by
    cases b with
    | nil => simp [D.sames] at h
    | cons y ys =>
      simp only [D.sames, Bool.and_eq_true] at h
      rw [D.same_eq h.1, D.sames_eq h.2]
end
def strOkL (x : List Nat) : Bool := x.all (· < 0x110000)
mutual
def D.ok : Nat → D → Bool
  | _, .non => true
  | _, .bl _ => true
  | _, .int _ => true
  | _, .str x => strOkL x
  | n, .tup xs => (match n with | 0 => false | n + 1 => D.oks n xs)
  | n, .rol xs => (match n with | 0 => false | n + 1 => D.oks n xs)
  | _, .wtup _ => false
  | _, .ref _ => false
def D.oks : Nat → List D → Bool
  | _, [] => true
  | n, x :: xs => D.ok n x && D.oks n xs
end
/-- a list of the heap as what it holds now -/
def unl (h : AH) : D → D
  | .ref n => (match h[n]? with | some (.lst xs) => .rol xs | _ => .ref n)
  | d => d
def eqW (h : AH) (x y : D) (Q : Bool → Prop) : Prop := D.ok 60 (unl h x) = true ∧ D.ok 60 (unl h y) = true ∧ Q (D.eqv (unl h x) (unl h y))
/-- the items of what stands at a place of 'in' -/
def itemsOf (h : AH) : D → Option (List D)
  | .tup xs => some xs
  | .rol xs => some xs
  | .ref n => (match h[n]? with | some (.lst xs) => some xs | _ => none)
  | _ => none
/-- a list's items -/
def lstOf (h : AH) : D → Option (List D)
  | .rol xs => some xs
  | .ref n => (match h[n]? with | some (.lst xs) => some xs | _ => none)
  | _ => none
/-- what extends a list -/
def extOf (h : AH) : D → Option (List D)
  | .tup xs => some xs
  | .ref n => (match h[n]? with | some (.lst xs) => some xs | _ => none)
  | _ => none
def D.mem (x : D) (xs : List D) : Bool := xs.any fun y => D.eqv y x
def inW (h : AH) (x y : D) (Q : Bool → Prop) : Prop :=
  match x, y with
  | .str [c], .str b => Q (decide (c ∈ b))
  | x, y => ∃ ys, itemsOf h y = some ys ∧ D.ok 60 x = true ∧ D.oks 59 ys = true ∧ Q (D.mem x ys)

def bopW : Bop → D → D → AH → QD → Prop
  | .add, .int i, .int j, h, Q => Q (.int (i + j)) h
  | .add, .str a, .str b, h, Q => a.length + b.length ≤ SZ ∧ Q (.str (a ++ b)) h
  | .add, .tup a, .tup b, h, Q => a.length + b.length ≤ SZ ∧ Q (.tup (a ++ b)) h
  | .add, .ref a, .ref b, h, Q => ∃ xs ys, h[a]? = some (.lst xs) ∧ h[b]? = some (.lst ys) ∧ xs.length + ys.length ≤ SZ ∧ Q (.ref h.length) (h ++ [.lst (xs ++ ys)])
  | .sub, .int i, .int j, h, Q => Q (.int (i - j)) h
  | .mul, .int i, .int j, h, Q => ((-(2 ^ 64) < i ∧ i < 2 ^ 64) ∨ (-(2 ^ 64) < j ∧ j < 2 ^ 64)) ∧ Q (.int (i * j)) h
  | .mul, .str a, .int j, h, Q => 0 ≤ j ∧ j ≤ 1000 ∧ a.length ≤ 1000 ∧ Q (.str (List.replicate j.toNat a).flatten) h
  | .fdiv, .int i, .int j, h, Q => 0 < j ∧ j.natAbs < 2 ^ 200 ∧ Q (.int (i / j)) h
  | .mod, .int i, .int j, h, Q => 0 < j ∧ Q (.int (i % j)) h
  | .pow, .int i, .int j, h, Q => (0 ≤ j ∧ j ≤ 1000000 ∧ i.natAbs < 2 ^ 64) ∧ Q (.int (i ^ j.toNat)) h
  | _, _, _, _, _ => False

def D.isN : D → Bool
  | .non => true
  | _ => false
def cmpW : Cop → D → D → AH → (Bool → Prop) → Prop
  | .lt, .int i, .int j, _, Q => Q (decide (i < j))
  | .lt, .str a, .str b, _, Q => Q (decide (a < b))
  | .le, .int i, .int j, _, Q => Q (decide (i ≤ j))
  | .gt, .int i, .int j, _, Q => Q (decide (j < i))
  | .ge, .int i, .int j, _, Q => Q (decide (j ≤ i))
  | .eq, x, y, h, Q => eqW h x y Q
  | .ne, x, y, h, Q => eqW h x y fun b => Q (!b)
  | .isin, x, y, h, Q => inW h x y Q
  | .notin, x, y, h, Q => inW h x y fun b => Q (!b)
  | .isN, x, .non, _, Q => Q x.isN
  | .notN, x, .non, _, Q => Q (!x.isN)
  | _, _, _, _, _ => False

def boolOf (x : D) (K : Bool → Prop) : Prop := match x with | .bl b => K b | _ => False
def intOf (x : D) (K : Int → Prop) : Prop := match x with | .int i => K i | _ => False
def slot (s : Sa) (i : Nat) (K : D → Prop) : Prop := match s[i]? with | some (some d) => K d | _ => False
/-- the truth of a value -/
def truW (h : AH) (d : D) (Q : Bool → Prop) : Prop :=
  match d with
  | .bl b => Q b
  | .non => Q false
  | .int i => Q (i != 0)
  | .str x => x.length ≤ SZ ∧ Q (!x.isEmpty)
  | .tup xs => Q (!xs.isEmpty)
  | .wtup _ => False
  | .rol xs => Q (!xs.isEmpty)
  | .ref n => (match h[n]? with | some (.lst xs) => Q (!xs.isEmpty) | _ => False)

/-! ### places and slices -/
def slIx (n d : Nat) : Option Int → Nat := HT.sIx n d
def cut {α : Type} (xs : List α) (lo hi : Option Int) : List α := (xs.drop (HT.sIx xs.length 0 lo)).take (HT.sIx xs.length xs.length hi - HT.sIx xs.length 0 lo)
/-- every step-th item, from the end where the step is below 0 -/
def stepL {α : Type} (xs : List α) (k : Int) : List α := if k = 1 then xs else if k = -1 then xs.reverse else []
def idxW (h : AH) (x i : D) (Q : D → Prop) : Prop :=
  match x, i with
  | .tup xs, .int i => ∃ d, atI xs i = some d ∧ Q d
  | .rol xs, .int i => ∃ d, atI xs i = some d ∧ Q d
  | .str xs, .int i => xs.length ≤ SZ ∧ ∃ c, atI xs i = some c ∧ Q (.str [c])
  | .ref n, .int i => ∃ xs d, h[n]? = some (.lst xs) ∧ atI xs i = some d ∧ Q d
  | _, _ => False
def slcW (h : AH) (x : D) (lo hi : Option Int) (Q : QD) : Prop :=
  match x with
  | .tup xs => Q (.tup (cut xs lo hi)) h
  | .str xs => xs.length ≤ SZ ∧ Q (.str (cut xs lo hi)) h
  | .rol xs => Q (.ref h.length) (h ++ [.lst (cut xs lo hi)])
  | .ref n => ∃ xs, h[n]? = some (.lst xs) ∧ Q (.ref h.length) (h ++ [.lst (cut xs lo hi)])
  | _ => False
def slstW (h : AH) (x : D) (st : Int) (Q : QD) : Prop :=
  (st = 1 ∨ st = -1) ∧ match x with
  | .ref n => ∃ xs, h[n]? = some (.lst xs) ∧ Q (.ref h.length) (h ++ [.lst (stepL xs st)])
  | .rol xs => Q (.ref h.length) (h ++ [.lst (stepL xs st)])
  | .tup xs => Q (.tup (stepL xs st)) h
  | _ => False

/-! ### built-in functions -/
def D.isTy : Ty1 → D → Option Bool
  | .int, .int _ => some true
  | .int, .bl _ => some true
  | .int, .non => some false
  | .int, .str _ => some false
  | .int, .tup _ => some false
  | .bool, .bl _ => some true
  | .bool, .int _ => some false
  | .bool, .non => some false
  | .bool, .str _ => some false
  | .bool, .tup _ => some false
  | .str, .str _ => some true
  | .str, .int _ => some false
  | .str, .bl _ => some false
  | .str, .non => some false
  | .str, .tup _ => some false
  | .tuple, .tup _ => some true
  | .tuple, .int _ => some false
  | .tuple, .bl _ => some false
  | .tuple, .str _ => some false
  | .tuple, .non => some false
  | _, _ => none
def lenW (h : AH) (x : D) (Q : QD) : Prop :=
  match x with
  | .str x => x.length ≤ SZ ∧ Q (.int x.length) h
  | x => ∃ xs, itemsOf h x = some xs ∧ Q (.int xs.length) h
def bfW (h : AH) : Bf → List D → QD → Prop
  | .len, [x], Q => lenW h x Q
  | .abs, [.int i], Q => Q (.int (if i < 0 then -i else i)) h
  | .min2, [.int i, .int j], Q => Q (.int (if j < i then j else i)) h
  | .max2, [.int i, .int j], Q => Q (.int (if j > i then j else i)) h
  | .minl, [x], Q => ∃ ns : List Int, lstOf h x = some (ns.map D.int) ∧ ns ≠ [] ∧ ∀ k, k ∈ ns → (∀ a ∈ ns, k ≤ a) → Q (.int k) h
  | .maxl, [x], Q => ∃ ns : List Int, lstOf h x = some (ns.map D.int) ∧ ns ≠ [] ∧ ∀ k, k ∈ ns → (∀ a ∈ ns, a ≤ k) → Q (.int k) h
  | .int, [.int i], Q => Q (.int i) h
  | .int, [.bl b], Q => Q (.int (if b then 1 else 0)) h
  | .tuple, [x], Q => ∃ xs, itemsOf h x = some xs ∧ Q (.tup xs) h
  | .list, [x], Q => ∃ xs, itemsOf h x = some xs ∧ Q (.ref h.length) (h ++ [.lst xs])
  | .all, [x], Q => ∃ bs : List Bool, lstOf h x = some (bs.map D.bl) ∧ Q (.bl (bs.all id)) h
  | .any, [x], Q => ∃ bs : List Bool, lstOf h x = some (bs.map D.bl) ∧ Q (.bl (bs.any id)) h
  | .sum, [x], Q => ∃ ns : List Int, lstOf h x = some (ns.map D.int) ∧ Q (.int ns.sum) h
  | _, _, _ => False
/-! ### built-in methods -/
def bmW (h : AH) : Bm → D → List D → QD → Prop
  | .append, .ref n, [y], Q => ∃ xs, h[n]? = some (.lst xs) ∧ xs.length < SZ ∧ Q .non (h.set n (.lst (xs ++ [y])))
  | .extend, .ref n, [y], Q => ∃ xs ys, h[n]? = some (.lst xs) ∧ extOf h y = some ys ∧ xs.length + ys.length ≤ SZ ∧ Q .non (h.set n (.lst (xs ++ ys)))
  | .pop, .ref n, [], Q => ∃ xs y, h[n]? = some (.lst xs) ∧ xs[xs.length - 1]? = some y ∧ Q y (h.set n (.lst xs.dropLast))
  | .remove, .ref n, [.str w], Q => ∃ (xs : List (List Nat)) (j : Nat), h[n]? = some (.lst (xs.map .str)) ∧ xs.findIdx? (fun z => decide (z = w)) = some j ∧ Q .non (h.set n (.lst ((xs.eraseIdx j).map .str)))
  | .index, x, [y], Q => ∃ xs, itemsOf h x = some xs ∧ D.ok 59 y = true ∧ D.oks 59 xs = true ∧ ∃ j : Nat, xs.findIdx? (fun z => D.eqv z y) = some j ∧ Q (.int j) h
  | _, _, _, _ => False

/-- the kind of the object whose method it is -/
def bmT (h : AH) : Bm → D → Prop
  | .index, x => ∃ xs, itemsOf h x = some xs
  | _, .ref n => ∃ xs, h[n]? = some (.lst xs)
  | _, _ => False
/-! ### targets, what is walked -/
def setAll : Sa → List Nat → List D → Sa
  | s, i :: is, d :: ds => setAll (s.set i (some d)) is ds
  | s, _, _ => s
def tgW : Tg → D → Sa → (Sa → Prop) → Prop
  | .one i, d, s, Q => Q (s.set i (some d))
  | .many is, .tup ds, s, Q => ds.length = is.length ∧ Q (setAll s is ds)
  | .many is, .wtup ds, s, Q => ds.length = is.length ∧ Q (setAll s is ds)
  | _, _, _, _ => False
def wipeA (s : Sa) : List Nat → Sa
  | [] => s
  | v :: vs => (wipeA s vs).set v none
/-- the items, and what must stay while they are walked -/
structure It where
  xs : List D
  ck : AH → Prop
def itW (h : AH) (d : D) (Q : It → Prop) : Prop :=
  match d with
  | .tup xs => Q ⟨xs, fun _ => True⟩
  | .rol xs => Q ⟨xs, fun _ => True⟩
  | .str xs => Q ⟨xs.map fun c => .str [c], fun _ => True⟩
  | .ref n => (match h[n]? with | some (.lst xs) => Q ⟨xs, fun h' => h'[n]? = some (.lst xs)⟩ | _ => False)
  | _ => False
/-- a sequence's items, and what must stay -/
def seqW (h : AH) (d : D) (Q : It → Prop) : Prop :=
  match d with
  | .tup xs => Q ⟨xs, fun _ => True⟩
  | .rol xs => Q ⟨xs, fun _ => True⟩
  | .ref n => (match h[n]? with | some (.lst xs) => Q ⟨xs, fun h' => h'[n]? = some (.lst xs)⟩ | _ => False)
  | _ => False
def enumL (xs : List D) : List D := xs.zipIdx.map fun p => D.wtup [.int (p.2 : Int), p.1]
def zipL (xs ys : List D) : List D := (xs.zip ys).map fun p => D.wtup [p.1, p.2]

def forW (ck : AH → Prop) (tg : Tg) (body : Sa → AH → En → EK → Prop) : List D → Sa → AH → En → EK → Prop
  | [], s, h, Z, _ => ck h ∧ Z.nx s h
  | x :: xs, s, h, Z, E => ck h ∧ tgW tg x s fun s1 => body s1 h { nx := fun s' h' => forW ck tg body xs s' h' Z E, rt := Z.rt, bk := Z.nx, ct := fun s' h' => forW ck tg body xs s' h' Z E } E
def whileW (c : Sa → AH → (Bool → AH → Prop) → EK → Prop) (body : Sa → AH → En → EK → Prop) : Nat → Sa → AH → En → EK → Prop
  | 0, _, _, _, _ => False
  | n + 1, s, h, Z, E => c s h (fun b h1 => if b = true then body s h1 { nx := fun s' h' => whileW c body n s' h' Z E, rt := Z.rt, bk := Z.nx, ct := fun s' h' => whileW c body n s' h' Z E } E else Z.nx s h1) E
def lcW (ck : AH → Prop) (tg : Tg) (c : Sa → AH → (Bool → AH → Prop) → Prop) (e : Sa → AH → QD → Prop) : List D → List D → Sa → AH → QL → Prop
  | [], acc, _, h, Q => ck h ∧ Q acc h
  | x :: xs, acc, s, h, Q => ck h ∧ tgW tg x s fun s1 => c s1 h fun b h1 => if b = true then e s1 h1 fun d h2 => acc.length < SZ ∧ lcW ck tg c e xs (acc ++ [d]) s h2 Q else lcW ck tg c e xs acc s h1 Q

def noE : EK := fun _ _ _ => False

mutual
def wE (C : CT) : M → Sa → AH → QD → EK → Prop
  | .var i, s, h, Q, _ => slot s i fun d => Q d h
  | .k d, _, h, Q, _ => Q d h
  | .glb _ d, _, h, Q, _ => Q d h
  | .bin op a b, s, h, Q, E => wE C a s h (fun x h1 => wE C b s h1 (fun y h2 => bopW op x y h2 Q) E) E
  | .neg a, s, h, Q, E => wE C a s h (fun x h1 => intOf x fun i => Q (.int (-i)) h1) E
  | .cmp op a b, s, h, Q, E => wE C a s h (fun x h1 => wE C b s h1 (fun y h2 => cmpW op x y h2 fun b => Q (.bl b) h2) E) E
  | .ch o1 o2 a b c, s, h, Q, E => wE C a s h (fun x h1 => wE C b s h1 (fun y h2 => cmpW o1 x y h2 fun k => if k = true then wE C c s h2 (fun z h3 => cmpW o2 y z h3 fun k' => Q (.bl k') h3) E else Q (.bl false) h2) E) E
  | .and a b, s, h, Q, E => wE C a s h (fun x h1 => boolOf x fun t => if t = true then wE C b s h1 Q E else Q (.bl false) h1) E
  | .or a b, s, h, Q, E => wE C a s h (fun x h1 => boolOf x fun t => if t = true then Q (.bl true) h1 else wE C b s h1 Q E) E
  | .not a, s, h, Q, E => wE C a s h (fun x h1 => boolOf x fun b => Q (.bl (!b)) h1) E
  | .ite c a b, s, h, Q, E => wT C c s h (fun t h1 => if t = true then wE C a s h1 Q E else wE C b s h1 Q E) E
  | .tup as, s, h, Q, E => wA C as s h (fun ds h1 => ds.length ≤ SZ ∧ Q (.tup ds) h1) E
  | .lst as, s, h, Q, E => wA C as s h (fun ds h1 => ds.length ≤ SZ ∧ Q (.ref h1.length) (h1 ++ [.lst ds])) E
  | .idx a i, s, h, Q, E => wE C a s h (fun x h1 => wE C i s h1 (fun y h2 => idxW h2 x y fun d => Q d h2) E) E
  | .slc a lo hi, s, h, Q, E => wE C a s h (fun x h1 => wO C lo s h1 (fun l h2 => wO C hi s h2 (fun u h3 => slcW h3 x l u Q) E) E) E
  | .slst a st, s, h, Q, E => wE C a s h (fun x h1 => wE C st s h1 (fun y h2 => intOf y fun k => slstW h2 x k Q) E) E
  | .call f as, s, h, Q, E => wA C as s h (fun ds h1 => C f ds h1 Q fun x h' => E x s h') E
  | .bf f as, s, h, Q, E => wA C as s h (fun ds h1 => bfW h1 f ds Q) E
  | .bm f o as, s, h, Q, E => wE C o s h (fun x h1 => bmT h1 f x ∧ wA C as s h1 (fun ds h2 => bmW h2 f x ds Q) E) E
  | .isi t a, s, h, Q, E => wE C a s h (fun x h1 => ∃ b, D.isTy t x = some b ∧ Q (.bl b) h1) E
  | .lrng a, s, h, Q, E => wE C a s h (fun x h1 => intOf x fun n => (-(2 ^ 62) ≤ n ∧ n ≤ 2 ^ 24) ∧ Q (.ref h1.length) (h1 ++ [.lst ((List.range n.toNat).map fun (i : Nat) => .int (0 + (i : Int)))])) E
  | .lc e tg src c own, s, h, Q, E => wI C src s h (fun it h1 => lcW it.ck tg (fun s1 h2 Q1 => wT C c s1 h2 Q1 noE) (fun s1 h2 Q1 => wE C e s1 h2 Q1 noE) it.xs [] (wipeA s own) h1 fun ds h3 => Q (.ref h3.length) (h3 ++ [.lst ds])) E
  | _, _, _, _, _ => False
def wA (C : CT) : M → Sa → AH → QL → EK → Prop
  | .nil, _, h, Q, _ => Q [] h
  | .cons a r, s, h, Q, E => wE C a s h (fun x h1 => wA C r s h1 (fun xs h2 => Q (x :: xs) h2) E) E
  | _, _, _, _, _ => False
def wO (C : CT) : M → Sa → AH → (Option Int → AH → Prop) → EK → Prop
  | .nil, _, h, Q, _ => Q none h
  | .cons a _, s, h, Q, E => wE C a s h (fun x h1 => intOf x fun i => Q (some i) h1) E
  | _, _, _, _, _ => False
def wT (C : CT) : M → Sa → AH → (Bool → AH → Prop) → EK → Prop
  | .nil, _, h, Q, _ => Q true h
  | .not a, s, h, Q, E => wT C a s h (fun b h1 => Q (!b) h1) E
  | .and a b, s, h, Q, E => wT C a s h (fun t h1 => if t = true then wT C b s h1 Q E else Q false h1) E
  | .or a b, s, h, Q, E => wT C a s h (fun t h1 => if t = true then Q true h1 else wT C b s h1 Q E) E
  | .cmp op a b, s, h, Q, E => wE C a s h (fun x h1 => wE C b s h1 (fun y h2 => cmpW op x y h2 fun t => boolOf (.bl t) fun t => Q t h2) E) E
  | .ch o1 o2 a b c, s, h, Q, E => wE C a s h (fun x h1 => wE C b s h1 (fun y h2 => cmpW o1 x y h2 fun k => if k = true then wE C c s h2 (fun z h3 => cmpW o2 y z h3 fun t => boolOf (.bl t) fun t => Q t h3) E else boolOf (.bl false) fun t => Q t h2) E) E
  | .tv a, s, h, Q, E => wE C a s h (fun d h1 => truW h1 d fun b => Q b h1) E
  | _, _, _, _, _ => False
def wI (C : CT) : M → Sa → AH → (It → AH → Prop) → EK → Prop
  | .rng1 a, s, h, Q, E => wE C a s h (fun x h1 => intOf x fun n => (-(2 ^ 62) ≤ n ∧ n < 2 ^ 62) ∧ Q ⟨(List.range n.toNat).map fun (i : Nat) => .int (0 + (i : Int)), fun _ => True⟩ h1) E
  | .rng2 a b, s, h, Q, E => wE C a s h (fun x h1 => wE C b s h1 (fun y h2 => intOf x fun i => intOf y fun j => (-(2 ^ 62) ≤ i ∧ i < 2 ^ 62 ∧ -(2 ^ 62) ≤ j ∧ j < 2 ^ 62) ∧ Q ⟨(List.range (j - i).toNat).map fun (k : Nat) => .int (i + (k : Int)), fun _ => True⟩ h2) E) E
  | .enum a, s, h, Q, E => wE C a s h (fun x h1 => seqW h1 x fun it => Q ⟨enumL it.xs, it.ck⟩ h1) E
  | .zip a b, s, h, Q, E => wE C a s h (fun x h1 => wE C b s h1 (fun y h2 => seqW h2 x fun i1 => seqW h2 y fun i2 => Q ⟨zipL i1.xs i2.xs, fun h' => i1.ck h' ∧ i2.ck h'⟩ h2) E) E
  | .itv a, s, h, Q, E => wE C a s h (fun d h1 => itW h1 d fun it => Q it h1) E
  | _, _, _, _, _ => False
end

def setIW (h : AH) (o i v : D) (Q : AH → Prop) : Prop :=
  match o, i with
  | .ref n, .int k => ∃ xs j, h[n]? = some (.lst xs) ∧ ixN xs.length k = some j ∧ Q (h.set n (.lst (xs.set j v)))
  | _, _ => False

def wS (C : CT) : MS → Sa → AH → En → EK → Prop
  | .nil, s, h, Z, _ => Z.nx s h
  | .seq a r, s, h, Z, E => wS C a s h { nx := fun s' h' => wS C r s' h' Z E, rt := Z.rt, bk := Z.bk, ct := Z.ct } E
  | .set i e, s, h, Z, E => wE C e s h (fun d h1 => Z.nx (s.set i (some d)) h1) E
  | .setT is e, s, h, Z, E => wE C e s h (fun d h1 => tgW (.many is) d s fun s1 => Z.nx s1 h1) E
  | .setI o i e, s, h, Z, E => wE C e s h (fun v h1 => wE C o s h1 (fun x h2 => wE C i s h2 (fun y h3 => setIW h3 x y v fun h4 => Z.nx s h4) E) E) E
  | .aug i op e, s, h, Z, E => slot s i fun x => wE C e s h (fun y h1 => (∃ a b, x = .int a ∧ y = .int b) ∧ bopW op x y h1 fun z h2 => Z.nx (s.set i (some z)) h2) E
  | .expr e, s, h, Z, E => wE C e s h (fun _ h1 => Z.nx s h1) E
  | .ret e, s, h, Z, E => wE C e s h Z.rt E
  | .ret0, _, h, Z, _ => Z.rt .non h
  | .cond c a b, s, h, Z, E => wT C c s h (fun t h1 => if t = true then wS C a s h1 Z E else wS C b s h1 Z E) E
  | .while_ c b, s, h, Z, E => ∃ n, whileW (wT C c) (wS C b) n s h Z E
  | .for_ tg src b, s, h, Z, E => wI C src s h (fun it h1 => forW it.ck tg (wS C b) it.xs s h1 Z E) E
  | .pass_, s, h, Z, _ => Z.nx s h
  | .brk, s, h, Z, _ => Z.bk s h
  | .cont, s, h, Z, _ => Z.ct s h
  | .raise_ c as, s, h, Z, E => wA C as s h (fun _ h1 => E ⟨c, []⟩ s h1) E
  | .never, _, _, _, _ => False

structure Def where
  np : Nat
  nv : Nat
  body : MS
abbrev Prg := List Def
def startA (d : Def) (as : List D) : Sa := as.map some ++ List.replicate (d.nv - as.length) none
def wC (P : Prg) : Nat → CT
  | 0, _, _, _, _, _ => False
  | n + 1, f, as, h, Q, E => (match P[f]? with
    | some d => as.length = d.np ∧ wS (wC P n) d.body (startA d as) h { nx := fun _ h' => Q .non h', rt := Q, bk := fun _ _ => False, ct := fun _ _ => False } fun x _ h' => E x h'
    | none => False)
end Rf

namespace Rf
open PySem PySem.Spec PyProof.Rows L2

/-! ### slots, exceptions, lifts -/
def RS (K : PySem.W.Frag) (H : Hp) (m : List Addr) (σ : L2.St) (s : Sa) : Prop :=
  σ.length = s.length ∧ ∀ (i : Nat) (d : D), s[i]? = some (some d) → ∃ v, σ[i]? = some (some v) ∧ RV K H m v d
def RX (K : PySem.W.Frag) (nm : Nm) (H : Hp) (m : List Addr) (cls : Value) (d : Option Addr) (x : Exc) : Prop :=
  cls = .ref (nm.cls x.cls) ∧ ((x.fs = [] ∧ d = none) ∨ ∃ dx fs, d = some dx ∧ dx ∉ m ∧ H dx = some (.xd fs) ∧ RF K H m nm fs x.fs)
def LW (K : PySem.W.Frag) (nm : Nm) (H : Hp) (m : List Addr) (Ea : EK) : WX := fun cls d σ' H' =>
  ∃ x sa' m' h', RX K nm H' m' cls d x ∧ RS K H' m' σ' sa' ∧ RH K nm H' m' h' ∧ Ext H m H' m' ∧ Ea x sa' h'
section
variable {K : PySem.W.Frag} {nm : Nm} {H H' : Hp} {m m' : List Addr} {σ : L2.St} {s : Sa}
theorem RS.ext (x : Ext H m H' m') (r : RS K H m σ s) : RS K H' m' σ s := ⟨r.1, fun i d e => let ⟨v, h1, h2⟩ := r.2 i d e; ⟨v, h1, h2.ext x⟩⟩
theorem RS.set {i : Nat} {v : V} {d : D} (r : RS K H m σ s) (h : RV K H m v d) : RS K H m (σ.set i (some v)) (s.set i (some d)) := by
  refine ⟨by simp [r.1], fun j e q => ?_⟩
  by_cases hj : i = j
  · subst hj
    by_cases hi : i < s.length
    · rw [List.getElem?_set_self hi] at q
      cases q
      exact ⟨v, by rw [List.getElem?_set_self (by rw [r.1]; exact hi)], h⟩
    · rw [List.getElem?_eq_none (by simpa using hi)] at q; cases q
  · rw [List.getElem?_set_ne hj] at q
    obtain ⟨w, h1, h2⟩ := r.2 j e q
    exact ⟨w, by rw [List.getElem?_set_ne hj]; exact h1, h2⟩
theorem LW.imp {Ea Ea' : EK} (h : ∀ x s h, Ea' x s h → Ea x s h) (x : Ext H m H' m') : ∀ c d σ H1, LW K nm H' m' Ea' c d σ H1 → LW K nm H m Ea c d σ H1 := fun _ _ _ _ ⟨e, sa, m1, h1, rx, rs, rh, ex, q⟩ => ⟨e, sa, m1, h1, rx, rs, rh, x.trans ex, h _ _ _ q⟩
end
section
variable {X : Cx} {nm : Nm} {H H' : Hp} {m m' : List Addr}
theorem tk_ext {Ea : EK} (t : Takes X (LW X.K nm H m Ea)) (x : Ext H m H' m') : Takes X (LW X.K nm H' m' Ea) := t.imp (LW.imp (fun _ _ _ q => q) x)
theorem tk_no : Takes X (LW X.K nm H m noE) := fun u s' ⟨a, B, sI, pins, σ, H, cls, d, e, I, nb, up, sky, na, os, ag, x, sa, m', h', _, _, _, _, q⟩ => q.elim
end

def liftE (K : PySem.W.Frag) (nm : Nm) (tk : Hp → List Addr → EK → Prop) (w : Sa → AH → QD → EK → Prop) : TE := fun σ H Q =>
  ∃ sa m h Qa Ea, RS K H m σ sa ∧ RH K nm H m h ∧ w sa h Qa Ea ∧ tk H m Ea ∧ ∀ v H' m' d h', RV K H' m' v d → RH K nm H' m' h' → Ext H m H' m' → Qa d h' → Q v H'
abbrev TKs (X : Cx) (nm : Nm) : Hp → List Addr → EK → Prop := fun H m Ea => Takes X (LW X.K nm H m Ea)
abbrev LE (X : Cx) (nm : Nm) (w : Sa → AH → QD → EK → Prop) : TE := liftE X.K nm (TKs X nm) w
/-- an expression's meaning -/
abbrev DE (X : Cx) (nm : Nm) (e : Expr) (w : Sa → AH → QD → EK → Prop) : Prop := PE X e (LE X nm w)
def LT (X : Cx) (nm : Nm) (w : Sa → AH → (Bool → AH → Prop) → EK → Prop) : TT := fun σ H Q =>
  ∃ sa m h Qa Ea, RS X.K H m σ sa ∧ RH X.K nm H m h ∧ w sa h Qa Ea ∧ TKs X nm H m Ea ∧ ∀ b H' m' h', RH X.K nm H' m' h' → Ext H m H' m' → Qa b h' → Q b H'
def LA (X : Cx) (nm : Nm) (w : Sa → AH → QL → EK → Prop) : TA := fun σ H Q =>
  ∃ sa m h Qa Ea, RS X.K H m σ sa ∧ RH X.K nm H m h ∧ w sa h Qa Ea ∧ TKs X nm H m Ea ∧ ∀ vs H' m' ds h', RVs X.K H' m' vs ds → RH X.K nm H' m' h' → Ext H m H' m' → Qa ds h' → Q vs H'
def LO (X : Cx) (nm : Nm) (w : Sa → AH → (Option Int → AH → Prop) → EK → Prop) : TO := fun σ H Q =>
  ∃ sa m h Qa Ea, RS X.K H m σ sa ∧ RH X.K nm H m h ∧ w sa h Qa Ea ∧ TKs X nm H m Ea ∧ ∀ o H' m' h', RH X.K nm H' m' h' → Ext H m H' m' → Qa o h' → Q o H'

theorem PE.imp {X : Cx} {e : Expr} {t t' : TE} (h : PE X e t) (i : ∀ σ H Q, t' σ H Q → t σ H Q) : PE X e t' := ⟨fun pins s σ H Q I q => h.run pins s σ H Q I (i σ H Q q)⟩
theorem PT.imp {X : Cx} {e : Expr} {t t' : TT} (h : PT X e t) (i : ∀ σ H Q, t' σ H Q → t σ H Q) : PT X e t' := ⟨fun pins s σ H Q I q => h.run pins s σ H Q I (i σ H Q q)⟩
theorem PW.imp {X : Cx} {e : Expr} {t t' : TT} (h : PW X e t) (i : ∀ σ H Q, t' σ H Q → t σ H Q) : PW X e t' := ⟨fun wh pins s σ H Q I q => h.run wh pins s σ H Q I (i σ H Q q)⟩
theorem PA.imp {X : Cx} {e : List Expr} {t t' : TA} (h : PA X e t) (i : ∀ σ H Q, t' σ H Q → t σ H Q) : PA X e t' := ⟨fun pos pins s σ H Q I q => h.run pos pins s σ H Q I (i σ H Q q)⟩
theorem PS.imp {X : Cx} {e : Stmt} {t t' : TS} (h : PS X e t) (i : ∀ D σ H, t' D σ H → t D σ H) : PS X e t' := ⟨fun pins s σ H D I q => h.run pins s σ H D I (i D σ H q)⟩
theorem PSs.imp {X : Cx} {e : List Stmt} {t t' : TS} (h : PSs X e t) (i : ∀ D σ H, t' D σ H → t D σ H) : PSs X e t' := ⟨fun pins s σ H D I q => h.run pins s σ H D I (i D σ H q)⟩

section
variable {X : Cx} {nm : Nm} {σ : L2.St} {H : Hp}
/-- one value, lifted -/
def L1 (X : Cx) (nm : Nm) (r : D → AH → QD → Prop) : V → Hp → VK → Prop := fun x H Q =>
  ∃ m h d Qa, RV X.K H m x d ∧ RH X.K nm H m h ∧ r d h Qa ∧ ∀ v H' m' d' h', RV X.K H' m' v d' → RH X.K nm H' m' h' → Ext H m H' m' → Qa d' h' → Q v H'
/-- two values, lifted -/
def L2' (X : Cx) (nm : Nm) (r : D → D → AH → QD → Prop) : R2 := fun x y H Q =>
  ∃ m h d e Qa, RV X.K H m x d ∧ RV X.K H m y e ∧ RH X.K nm H m h ∧ r d e h Qa ∧ ∀ v H' m' d' h', RV X.K H' m' v d' → RH X.K nm H' m' h' → Ext H m H' m' → Qa d' h' → Q v H'
theorem LE.op {wa wb : Sa → AH → QD → EK → Prop} {r : D → D → AH → QD → Prop} {Q : VK}
    (h : LE X nm (fun s h Q E => wa s h (fun x h1 => wb s h1 (fun y h2 => r x y h2 Q) E) E) σ H Q) : tOp (L2' X nm r) (LE X nm wa) (LE X nm wb) σ H Q := by
  obtain ⟨sa, m, h, Qa, Ea, rs, rh, w, tk, fin⟩ := h
  exact ⟨sa, m, h, _, Ea, rs, rh, w, tk, fun v H1 m1 d h1 rv rh1 ex1 q1 => ⟨sa, m1, h1, _, Ea, rs.ext ex1, rh1, q1, tk_ext tk ex1, fun v2 H2 m2 d2 h2 rv2 rh2 ex2 q2 =>
    ⟨m2, h2, d, d2, Qa, rv.ext ex2, rv2, rh2, q2, fun v' H' m' d' h' r r' ex q => fin _ _ _ _ _ r r' ((ex1.trans ex2).trans ex) q⟩⟩⟩
theorem LE.un {wa : Sa → AH → QD → EK → Prop} {r : D → AH → QD → Prop} {Q : VK}
    (h : LE X nm (fun s h Q E => wa s h (fun x h1 => r x h1 Q) E) σ H Q) : tUn (L1 X nm r) (LE X nm wa) σ H Q := by
  obtain ⟨sa, m, h, Qa, Ea, rs, rh, w, tk, fin⟩ := h
  exact ⟨sa, m, h, _, Ea, rs, rh, w, tk, fun v H1 m1 d h1 rv rh1 ex1 q1 => ⟨m1, h1, d, Qa, rv, rh1, q1, fun v' H' m' d' h' r r' ex q => fin _ _ _ _ _ r r' (ex1.trans ex) q⟩⟩
end

/-! ### new objects -/
section
variable {X : Cx} {nm : Nm} {H : Hp} {m : List Addr} {h : AH} {p : Addr}
theorem new_lst {xs : List V} {ds : List D} (rh : RH X.K nm H m h) (hp : H p = none) (r : RVs X.K H m xs ds) :
    RV X.K (upd H p (.lst xs)) (m ++ [p]) (.ref p) (.ref h.length) ∧ RH X.K nm (upd H p (.lst xs)) (m ++ [p]) (h ++ [.lst ds]) ∧ Ext H m (upd H p (.lst xs)) (m ++ [p]) := by
  have ex : Ext H m (upd H p (.lst xs)) (m ++ [p]) := Ext.new hp
  refine ⟨.ref ?_, rh.new hp ⟨(fun _ z => nomatch z), (fun _ _ z => nomatch z)⟩ ⟨xs, upd_same, r.ext ex⟩, ex⟩
  rw [← rh.len, List.getElem?_append_right (Nat.le_refl _)]
  simp
theorem new_tup {xs : List V} {ds : List D} (its : List Value) (rh : RH X.K nm H m h) (hp : H p = none) (r : RVs X.K H m xs ds) :
    RV X.K (upd H p (.frz (tO its) (.tup xs))) m (.ref p) (.tup ds) ∧ RH X.K nm (upd H p (.frz (tO its) (.tup xs))) m h ∧ Ext H m (upd H p (.frz (tO its) (.tup xs))) m :=
  ⟨.tup (.inl ⟨_, upd_same, rfl⟩) (r.ext (Ext.upd hp)), rh.upd hp, Ext.upd hp⟩
theorem new_wtup {xs : List V} {ds : List D} (rh : RH X.K nm H m h) (hp : H p = none) (r : RVs X.K H m xs ds) :
    RV X.K (upd H p (.tup xs)) m (.ref p) (.wtup ds) ∧ RH X.K nm (upd H p (.tup xs)) m h ∧ Ext H m (upd H p (.tup xs)) m :=
  ⟨.wtup (SqT.of upd_same) (r.ext (Ext.upd hp)), rh.upd hp, Ext.upd hp⟩
theorem set_lst {n : Nat} {a : Addr} {xs : List V} {ds : List D} (rh : RH X.K nm H m h) (e : m[n]? = some a) (r : RVs X.K H m xs ds) :
    RH X.K nm (upd H a (.lst xs)) m (h.set n (.lst ds)) ∧ Ext H m (upd H a (.lst xs)) m := by
  obtain ⟨u, h1, h2, h3⟩ := rh.th n a e
  have ex : Ext H m (upd H a (.lst xs)) m := Ext.write (List.mem_of_getElem? e) h1 h2 h3
  exact rh.write e ⟨(fun _ z => nomatch z), (fun _ _ z => nomatch z)⟩ ⟨xs, upd_same, r.ext ex⟩
theorem the_lst {n : Nat} {v : V} {ds : List D} (rh : RH X.K nm H m h) (r : RV X.K H m v (.ref n)) (e : h[n]? = some (.lst ds)) : ∃ a xs, v = .ref a ∧ m[n]? = some a ∧ H a = some (.lst xs) ∧ RVs X.K H m xs ds := by
  cases r with
  | ref q =>
    obtain ⟨xs, h1, h2⟩ := rh.ob n _ _ q e
    exact ⟨_, xs, rfl, q, h1, h2⟩
end
theorem SZ_line : SZ = sizeLine := by rw [sizeLine_eq]; rfl

/-! ### == -/
mutual
def D.py : D → PyData
  | .non => .none
  | .bl b => .bool b
  | .int i => .int i
  | .str x => .str (mkS x)
  | .tup xs => .tuple (D.pys xs)
  | .rol xs => .list (D.pys xs)
  | .wtup _ => .none
  | .ref _ => .none
def D.pys : List D → List PyData
  | [] => []
  | x :: xs => D.py x :: D.pys xs
end
theorem pys_map : ∀ xs : List D, D.pys xs = xs.map D.py
  | [] => by simp [D.pys]
  | x :: xs => by simp [D.pys, pys_map xs]
mutual
theorem dp_of {K : PySem.W.Frag} {H : Hp} {m : List Addr} : ∀ (d : D) {v : V} {n : Nat}, D.ok n d = true → RV K H m v d → Dp K H v d.py
  | .non, _, _, _, r => by cases r; simp only [D.py]; exact .non
  | .bl b, _, _, _, r => by cases r; simp only [D.py]; exact .bl b
  | .int i, _, _, _, r => by cases r; simp only [D.py]; exact .int i
  | .str x, _, _, _, r => by cases r; simp only [D.py]; exact .str _
  | .tup xs, _, 0, h, _ => by simp [D.ok] at h
  | .tup xs, _, n + 1, h, r => by
    cases r with
    | tup h1 h2 =>
      simp only [D.py]
      exact .tup h1.sqT (dps_of xs (by simpa [D.ok] using h) h2)
  | .rol xs, _, 0, h, _ => by simp [D.ok] at h
  | .rol xs, _, n + 1, h, r => by
    cases r with
    | rol h1 h2 =>
      simp only [D.py]
      exact .lst h1.sq (dps_of xs (by simpa [D.ok] using h) h2)
  | .wtup _, _, _, h, _ => by simp [D.ok] at h
  | .ref _, _, _, h, _ => by simp [D.ok] at h
theorem dps_of {K : PySem.W.Frag} {H : Hp} {m : List Addr} : ∀ (ds : List D) {vs : List V} {n : Nat}, D.oks n ds = true → RVs K H m vs ds → DpAll K H vs (D.pys ds)
  | [], _, _, _, r => by cases r; simp only [D.pys]; exact .nil
  | d :: ds, _, n, h, r => by
    cases r with
    | cons h1 h2 =>
      simp only [D.oks, Bool.and_eq_true] at h
      simp only [D.pys]
      exact .cons (dp_of d h.1 h1) (dps_of ds h.2 h2)
end
mutual
theorem ok_lay : ∀ (d : D) {n : Nat}, D.ok n d = true → d.py.canLay0 = true ∧ d.py.depth ≤ n
  | .non, _, _ => by simp [D.py, PyData.canLay0, PyData.depth]
  | .bl b, _, _ => by simp [D.py, PyData.canLay0, PyData.depth]
  | .int i, _, _ => by simp [D.py, PyData.canLay0, PyData.depth]
  | .str x, _, h => by
    simp only [D.ok, strOkL] at h
    simp [D.py, PyData.canLay0, PyData.depth, PyData.strOk, mkS]
    simpa using h
  | .tup xs, 0, h => by simp [D.ok] at h
  | .tup xs, n + 1, h => by
    obtain ⟨h1, h2⟩ := oks_lay xs (n := n) (by simpa [D.ok] using h)
    simp only [D.py, PyData.canLay0, PyData.depth]
    exact ⟨h1, by omega⟩
  | .rol xs, 0, h => by simp [D.ok] at h
  | .rol xs, n + 1, h => by
    obtain ⟨h1, h2⟩ := oks_lay xs (n := n) (by simpa [D.ok] using h)
    simp only [D.py, PyData.canLay0, PyData.depth]
    exact ⟨h1, by omega⟩
  | .wtup _, _, h => by simp [D.ok] at h
  | .ref _, _, h => by simp [D.ok] at h
theorem oks_lay : ∀ (ds : List D) {n : Nat}, D.oks n ds = true → PyData.canLayAll0 (D.pys ds) = true ∧ PyData.depthAll (D.pys ds) ≤ n
  | [], _, _ => by simp [D.pys, PyData.canLayAll0, PyData.depthAll]
  | d :: ds, n, h => by
    simp only [D.oks, Bool.and_eq_true] at h
    obtain ⟨a1, a2⟩ := ok_lay d h.1
    obtain ⟨b1, b2⟩ := oks_lay ds h.2
    simp only [D.pys, PyData.canLayAll0, PyData.depthAll, Bool.and_eq_true]
    exact ⟨⟨a1, b1⟩, by omega⟩
end
theorem shaped_of {d : D} {n : Nat} (hn : n ≤ 64) (h : D.ok n d = true) : SeqAt.shaped d.py = true := by
  obtain ⟨a, b⟩ := ok_lay d h
  unfold SeqAt.shaped
  rw [a]
  simp
  omega
theorem mkS_inj {x y : List Nat} : mkS x = mkS y ↔ x = y := by
  constructor
  · intro h
    have : (mkS x).cps = (mkS y).cps := by rw [h]
    simpa [mkS] using this
  · intro h; rw [h]
mutual
theorem eqv_py : ∀ (d e : D) {n k : Nat}, D.ok n d = true → D.ok k e = true → PyData.eqv d.py e.py = D.eqv d e
  | .non, e, _, _, _, he => by cases e <;> simp [D.py, PyData.eqv, D.eqv, D.ok] at he ⊢
  | .bl b, e, _, _, _, he => by cases e <;> simp [D.py, PyData.eqv, D.eqv, D.ok] at he ⊢
  | .int i, e, _, _, _, he => by cases e <;> simp [D.py, PyData.eqv, D.eqv, D.ok] at he ⊢
  | .str x, e, _, _, _, he => by
    cases e <;> simp [D.py, PyData.eqv, D.eqv, D.ok] at he ⊢
    rename_i y
    rw [Bool.eq_iff_iff]
    simp [mkS_inj]
  | .tup xs, e, n, k, hd, he => by
    cases e with
    | tup ys =>
      cases n with
      | zero => simp [D.ok] at hd
      | succ n =>
        cases k with
        | zero => simp [D.ok] at he
        | succ k =>
          simp only [D.py, PyData.eqv, D.eqv]
          exact eqvs_py xs ys (n := n) (k := k) (by simpa [D.ok] using hd) (by simpa [D.ok] using he)
    | _ => simp [D.py, PyData.eqv, D.eqv, D.ok] at he ⊢
  | .rol xs, e, n, k, hd, he => by
    cases e with
    | rol ys =>
      cases n with
      | zero => simp [D.ok] at hd
      | succ n =>
        cases k with
        | zero => simp [D.ok] at he
        | succ k =>
          simp only [D.py, PyData.eqv, D.eqv]
          exact eqvs_py xs ys (n := n) (k := k) (by simpa [D.ok] using hd) (by simpa [D.ok] using he)
    | _ => simp [D.py, PyData.eqv, D.eqv, D.ok] at he ⊢
  | .wtup _, _, _, _, hd, _ => by simp [D.ok] at hd
  | .ref _, _, _, _, hd, _ => by simp [D.ok] at hd
theorem eqvs_py : ∀ (ds es : List D) {n k : Nat}, D.oks n ds = true → D.oks k es = true → PyData.eqvAll (D.pys ds) (D.pys es) = D.eqvs ds es
  | [], es, _, _, _, _ => by cases es <;> simp [D.pys, PyData.eqvAll, D.eqvs]
  | d :: ds, es, _, _, hd, he => by
    cases es with
    | nil => simp [D.pys, PyData.eqvAll, D.eqvs]
    | cons e es =>
      simp only [D.oks, Bool.and_eq_true] at hd he
      simp only [D.pys, PyData.eqvAll, D.eqvs]
      rw [eqv_py d e hd.1 he.1, eqvs_py ds es hd.2 he.2]
end
theorem mem_py (x : D) {n k : Nat} (hx : D.ok n x = true) : ∀ (ys : List D), D.oks k ys = true → ((D.pys ys).any fun y => PyData.eqv y x.py) = D.mem x ys
  | [], _ => by simp [D.pys, D.mem]
  | y :: ys, h => by
    simp only [D.oks, Bool.and_eq_true] at h
    have ih := mem_py x hx ys h.2
    simp only [D.mem] at ih
    simp only [D.pys, List.any_cons, D.mem, eqv_py y x h.1 hx, ih]
section
variable {X : Cx} {nm : Nm} {H : Hp} {m : List Addr} {h : AH}
theorem dp_unl {v : V} {d : D} {n : Nat} (rh : RH X.K nm H m h) (r : RV X.K H m v d) (o : D.ok n (unl h d) = true) : Dp X.K H v (unl h d).py := by
  cases d with
  | ref k =>
    cases e : h[k]? with
    | none => simp [unl, e, D.ok] at o
    | some ob =>
      cases ob with
      | lst xs =>
        have eu : unl h (.ref k) = .rol xs := by simp [unl, e]
        rw [eu] at o ⊢
        obtain ⟨a, vs, rfl, h1, h2, h3⟩ := the_lst rh r e
        cases n with
        | zero => simp [D.ok] at o
        | succ n =>
          simp only [D.py]
          exact .lst (SqL.of h2) (dps_of xs (by simpa [D.ok] using o) h3)
      | dk _ => simp [unl, e, D.ok] at o
      | ins _ _ => simp [unl, e, D.ok] at o
      | gone => simp [unl, e, D.ok] at o
  | _ => exact dp_of _ o r
/-- a sequence -/
theorem items_of {v : V} {d : D} {ds : List D} (rh : RH X.K nm H m h) (r : RV X.K H m v d) (e : itemsOf h d = some ds) : ∃ a xs, v = .ref a ∧ (SqL X.K H a xs ∨ SqT X.K H a xs) ∧ RVs X.K H m xs ds := by
  cases d with
  | tup xs =>
    have : xs = ds := by simpa [itemsOf] using e
    subst this
    cases r with
    | tup h1 h2 => exact ⟨_, _, rfl, .inr h1.sqT, h2⟩
  | rol xs =>
    have : xs = ds := by simpa [itemsOf] using e
    subst this
    cases r with
    | rol h1 h2 => exact ⟨_, _, rfl, .inl h1.sq, h2⟩
  | ref k =>
    cases q : h[k]? with
    | none => simp [itemsOf, q] at e
    | some ob =>
      cases ob with
      | lst xs =>
        have : xs = ds := by simpa [itemsOf, q] using e
        subst this
        obtain ⟨a, vs, rfl, h1, h2, h3⟩ := the_lst rh r q
        exact ⟨a, vs, rfl, .inl (SqL.of h2), h3⟩
      | _ => simp [itemsOf, q] at e
  | _ => simp [itemsOf] at e
theorem dps_py {xs : List V} {ds : List D} {n : Nat} (o : D.oks n ds = true) (r : RVs X.K H m xs ds) : DpAll X.K H xs (D.pys ds) := dps_of ds o r
end
end Rf

namespace Rf
open PySem PySem.Spec PyProof.Rows L2

def Bop.op : Bop → Operator
  | .add => .Add
  | .sub => .Sub
  | .mul => .Mult
  | .fdiv => .FloorDiv
  | .mod => .Mod
  | .pow => .Pow
def Cop.op : Cop → CmpOp
  | .lt => .Lt
  | .le => .LtE
  | .gt => .Gt
  | .ge => .GtE
  | .eq => .Eq
  | .ne => .NotEq
  | .isin => .In
  | .notin => .NotIn
  | .isN => .Is
  | .notN => .IsNot

theorem mkS_len (x : List Nat) : (mkS x).length = x.length := by
  show (mkS x).cps.size = _
  simp [mkS]
theorem mkS_app (x y : List Nat) : mkS x ++ mkS y = mkS (x ++ y) := by
  show (⟨(mkS x).cps ++ (mkS y).cps⟩ : Str) = _
  simp [mkS]
theorem log2_small {j : Int} (h : 0 < j) (hb : j.natAbs < 2 ^ 200) : CDivW i j := wide_div h hb (by decide) (by decide)

section
variable {X : Cx} {nm : Nm}
/-- t + u, the new tuple's object known -/
theorem op_catF : OpR X (binaryOp .Add) (fun x y H Q => ∃ a b xs ys, x = .ref a ∧ y = .ref b ∧ SqT X.K H a xs ∧ SqT X.K H b ys ∧ xs.length + ys.length ≤ sizeLine ∧
    (xs = [] → Q (.ref b) H) ∧ (xs ≠ [] → ys = [] → Q (.ref a) H) ∧ (xs ≠ [] → ys ≠ [] → ∀ p its, H p = none → Q (.ref p) (upd H p (.frz (tO its) (.tup (xs ++ ys)))))) := by
  intro pins s σ H x y v u Q I rx ry h
  obtain ⟨a, b, xs, ys, rfl, rfl, ha, hb, hz, q0, q1, q2⟩ := h
  cases rx
  cases ry
  obtain ⟨its, r1, p1, _⟩ := I.tuple ha
  obtain ⟨its2, r2, p2, _⟩ := I.tuple hb
  by_cases hx : xs = []
  · subst hx
    cases r1
    exact cat_tup0 p1 p2 ⟨.ref b, H, I, rfl, q0 rfl⟩
  · refine HT.cat_tup p1 p2 (fun z => hx (r1.nil_iff.mp z)) (fun z => ⟨.ref a, H, I, rfl, q1 hx (r2.nil_iff.mp z)⟩) (fun z => ?_) (by rw [← r1.length, ← r2.length]; exact hz)
    refine ⟨.ref s.heap.objs.size, _, I.laid (t' := s.toks) (o := .frz (tO (its ++ its2)) (.tup (xs ++ ys))) (fun b ob q => Heap.get?_push_of_some _ q) (Nat.le_refl _) ?_, rfl, q2 hx (fun w => z (r2.nil_iff.mpr w)) _ _ (I.hok.fresh (Nat.le_refl _))⟩
    exact ⟨Heap.get?_push_size _ rfl, by rw [List.length_append]; exact hz, _, r1.append r2, IsTup.new _ _⟩
theorem mk_foldl (a : List Nat) : ∀ (n : Nat) (b : List Nat), (List.replicate n a.toArray).foldl (· ++ ·) b.toArray = (b ++ (List.replicate n a).flatten).toArray
  | 0, b => by simp
  | n + 1, b => by
    rw [List.replicate_succ, List.foldl_cons]
    have e : b.toArray ++ a.toArray = (b ++ a).toArray := by simp
    rw [e, mk_foldl a n (b ++ a), List.replicate_succ, List.flatten_cons, List.append_assoc]
theorem mul_strF {pins : List (Addr × Obj)} {s : Shared} {σ : L2.St} {H : Hp} {a : List Nat} {j : Int} {t u : Tok} {Q : VK} (I : Inv X pins σ H s) (h0 : 0 ≤ j) (h1 : j ≤ 1000) (h2 : a.length ≤ 1000) (q : Q (.str (mkS (List.replicate j.toNat a).flatten)) H) :
    wpAny (model X.prog X.w) X.A (binaryOp .Mult (.str (mkS a) t) (.int j u)) (EP X pins σ Q) X.xe s := by
  have hl : (mkS a).length = a.length := mkS_len a
  have hm : a.length * j.toNat ≤ 1000 * 1000 := Nat.mul_le_mul h2 (by omega)
  have hfl : ((List.replicate j.toNat a).flatten).length = j.toNat * a.length := by simp
  refine PySem.P.mul_str (by rw [decide_eq_false (by omega), decide_eq_false (by omega)]; rfl) (fun hn hx => ?_) (fun hn hx => ?_) ?_
  · rw [hl]
    have : (1000 : Int) ≤ (2 ^ 63 - 1) / j := by
      rw [Int.le_ediv_iff_mul_le (by omega)]
      omega
    omega
  · rw [hl]
    have : sizeLine = 16777216 := by rw [← SZ_line]; rfl
    refine decide_eq_false ?_
    omega
  · split
    · have : j = 0 := by omega
      subst this
      exact ⟨by decide, .str _, H, I.tok _, ⟨_, rfl⟩, q⟩
    · split
      · rename_i hj hx
        have e : mkS (List.replicate j.toNat a).flatten = mkS a := by
          simp only [Bool.or_eq_true, beq_iff_eq, hl] at hx
          rcases hx with rfl | hx
          · simp
          · rw [List.length_eq_zero_iff] at hx
            subst hx
            simp
        rw [e] at q
        exact ⟨.str _, H, I, ⟨_, rfl⟩, q⟩
      · have e : (⟨(List.replicate j.toNat (mkS a).cps).foldl (· ++ ·) #[]⟩ : Str) = mkS (List.replicate j.toNat a).flatten := by
          have := mk_foldl a j.toNat []
          rw [List.nil_append] at this
          show (⟨_⟩ : Str) = ⟨_⟩
          rw [← this]
          rfl
        rw [e]
        refine ⟨?_, .str _, H, I.tok _, ⟨_, rfl⟩, q⟩
        have : sizeLine = 16777216 := by rw [← SZ_line]; rfl
        rw [mkS_len, hfl, Nat.mul_comm]
        omega
theorem op_bop (op : Bop) (hu : X.A.units + 64 < cLine) : OpR X (binaryOp op.op) (L2' X nm (bopW op)) := by
  intro pins s σ H x y v u Q I rx ry hq
  obtain ⟨m, h, d, e, Qa, r1, r2, rh, w, fin⟩ := hq
  cases op with
  | add =>
    cases r1 with
    | int i => cases r2 with
      | int j => exact op_add pins s σ H _ _ v u Q I rx ry ⟨i, j, rfl, rfl, fin _ _ _ _ _ (.int _) rh .refl w⟩
      | _ => exact w.elim
    | str a => cases r2 with
      | str b =>
        obtain ⟨hz, w⟩ := w
        refine op_add_str pins s σ H _ _ v u Q I rx ry ⟨_, _, rfl, rfl, ?_, ?_⟩
        · rw [mkS_len, mkS_len, ← SZ_line]; exact hz
        · rw [mkS_app]; exact fin _ _ _ _ _ (.str _) rh .refl w
      | _ => exact w.elim
    | @tup a xs ds h1 h2 => cases r2 with
      | @tup b ys es h3 h4 =>
        obtain ⟨hz, w⟩ := w
        refine op_catF pins s σ H _ _ v u Q I rx ry ⟨a, b, xs, ys, rfl, rfl, h1.sqT, h3.sqT, ?_, ?_, ?_, ?_⟩
        · rw [h2.length, h4.length, ← SZ_line]; exact hz
        · rintro rfl
          cases h2
          exact fin _ _ _ _ _ (.tup h3 h4) rh .refl w
        · rintro _ rfl
          cases h4
          exact fin _ _ _ _ _ (.tup h1 (by simpa using h2)) rh .refl w
        · intro _ _ p its hp
          obtain ⟨a1, a2, a3⟩ := new_tup its rh hp (h2.append h4)
          exact fin _ _ _ _ _ a1 a2 a3 w
      | _ => exact w.elim
    | @ref a n h1 => cases r2 with
      | @ref b k h2 =>
        obtain ⟨xs, ys, e1, e2, hz, w⟩ := w
        obtain ⟨a', vs, q1, _, q2, q3⟩ := the_lst rh (.ref h1) e1
        obtain ⟨b', ws, q4, _, q5, q6⟩ := the_lst rh (.ref h2) e2
        cases q1
        cases q4
        refine op_cat pins s σ H _ _ v u Q I rx ry ⟨a, b, vs, ws, rfl, rfl, q2, q5, ?_, fun p hp => ?_⟩
        · rw [q3.length, q6.length, ← SZ_line]; exact hz
        · obtain ⟨a1, a2, a3⟩ := new_lst rh hp (q3.append q6)
          exact fin _ _ _ _ _ a1 a2 a3 w
      | _ => exact w.elim
    | _ => exact w.elim
  | sub =>
    cases r1 with
    | int i => cases r2 with
      | int j => exact op_sub pins s σ H _ _ v u Q I rx ry ⟨i, j, rfl, rfl, fin _ _ _ _ _ (.int _) rh .refl w⟩
      | _ => exact w.elim
    | _ => exact w.elim
  | mul =>
    cases r1 with
    | int i => cases r2 with
      | int j => exact op_mul pins s σ H _ _ v u Q I rx ry ⟨i, j, rfl, rfl, w.1, fin _ _ _ _ _ (.int _) rh .refl w.2⟩
      | _ => exact w.elim
    | str a => cases r2 with
      | int j =>
        obtain ⟨h0, h1, h2, w⟩ := w
        obtain ⟨t, rfl⟩ := rx
        obtain ⟨u', rfl⟩ := ry
        exact mul_strF I h0 h1 h2 (fin _ _ _ _ _ (.str _) rh .refl w)
      | _ => exact w.elim
    | _ => exact w.elim
  | fdiv =>
    cases r1 with
    | int i => cases r2 with
      | int j => exact op_fdivW pins s σ H _ _ v u Q I rx ry ⟨i, j, rfl, rfl, log2_small (i := i) w.1 w.2.1, fin _ _ _ _ _ (.int _) rh .refl w.2.2⟩
      | _ => exact w.elim
    | _ => exact w.elim
  | mod =>
    cases r1 with
    | int i => cases r2 with
      | int j => exact op_mod pins s σ H _ _ v u Q I rx ry ⟨i, j, rfl, rfl, w.1, fin _ _ _ _ _ (.int _) rh .refl w.2⟩
      | _ => exact w.elim
    | _ => exact w.elim
  | pow =>
    cases r1 with
    | int i => cases r2 with
      | int j => exact op_pow pins s σ H _ _ v u Q I rx ry ⟨i, j, rfl, rfl, w.1, fin _ _ _ _ _ (.int _) rh .refl w.2⟩
      | _ => exact w.elim
    | _ => exact w.elim

/-- a comparison's answer -/
abbrev cmpB (op : Cop) : D → D → AH → QD → Prop := fun x y h Q => cmpW op x y h fun b => Q (.bl b) h
theorem op_eq_ok {neg : Bool} {o : CmpOp} (ho : o = if neg then .NotEq else .Eq) (hu : X.A.units + 64 < cLine) : OpR X (compareOp o) (L2' X nm (fun x y h Q => eqW h x y fun b => Q (.bl (if neg then !b else b)) h)) := by
  intro pins s σ H x y v u Q I rx ry hq
  obtain ⟨m, h, d, e, Qa, r1, r2, rh, ⟨o1, o2, w⟩, fin⟩ := hq
  have p1 := dp_unl rh r1 o1
  have p2 := dp_unl rh r2 o2
  have s1 := shaped_of (by decide) o1
  have s2 := shaped_of (by decide) o2
  have ee := eqv_py _ _ o1 o2
  cases neg with
  | false =>
    have eo : o = .Eq := ho
    subst eo
    exact op_eqD hu pins s σ H _ _ v u Q I rx ry ⟨_, _, p1, p2, s1, s2, by rw [ee]; exact fin _ _ _ _ _ (.bl _) rh .refl w⟩
  | true =>
    have eo : o = .NotEq := ho
    subst eo
    exact op_neD hu pins s σ H _ _ v u Q I rx ry ⟨_, _, p1, p2, s1, s2, by rw [ee]; exact fin _ _ _ _ _ (.bl _) rh .refl w⟩
theorem op_in_ok {neg : Bool} {o : CmpOp} (ho : o = if neg then .NotIn else .In) (hu : X.A.units + 65 < cLine) : OpR X (compareOp o) (L2' X nm (fun x y h Q => inW h x y fun b => Q (.bl (if neg then !b else b)) h)) := by
  intro pins s σ H x y v u Q I rx ry hq
  obtain ⟨m, h, d, e, Qa, r1, r2, rh, w, fin⟩ := hq
  have gen : (∃ ys, itemsOf h e = some ys ∧ D.ok 60 d = true ∧ D.oks 59 ys = true ∧ Qa (.bl (if neg then !D.mem d ys else D.mem d ys)) h) → wpAny (model X.prog X.w) X.A (compareOp o v u) (EP X pins σ Q) X.xe s := by
    rintro ⟨ys, e1, o1, o2, w⟩
    obtain ⟨a, xs, rfl, hs, rv⟩ := items_of rh r2 e1
    obtain ⟨as, q1⟩ := Dp.reads I _ _ _ (dp_of _ o1 r1) rx
    have hda := dps_of ys o2 rv
    have c1 := (ok_lay _ o1)
    have c2 := (oks_lay _ o2)
    have me := mem_py d o1 ys o2
    have room : X.A.units + 1 + min (PyData.depthAll (D.pys ys)) d.py.depth < cLine := by
      have := Nat.min_le_right (PyData.depthAll (D.pys ys)) d.py.depth
      omega
    have fin' : ∀ b, b = D.mem d ys → EP X pins σ Q (.bool (if neg then !b else b)) s := by
      rintro b rfl
      exact ⟨.bl _, H, I, rfl, fin _ _ _ _ _ (.bl _) rh .refl w⟩
    rcases hs with hs | hs
    · obtain ⟨bs, q2⟩ := Dp.reads I (.list (D.pys ys)) _ _ (.lst hs hda) ry
      cases neg with
      | false =>
        have eo : o = .In := ho
        subst eo
        exact SeqAt.in_list_reads q2 q1 c2.1 c1.1 room (fin' _ me)
      | true =>
        have eo : o = .NotIn := ho
        subst eo
        exact SeqAt.notIn_list_reads q2 q1 c2.1 c1.1 room (fin' _ me)
    · obtain ⟨bs, q2⟩ := Dp.reads I (.tuple (D.pys ys)) _ _ (.tup hs hda) ry
      cases neg with
      | false =>
        have eo : o = .In := ho
        subst eo
        exact SeqAt.in_tuple_reads q2 q1 c2.1 c1.1 room (fin' _ me)
      | true =>
        have eo : o = .NotIn := ho
        subst eo
        exact SeqAt.notIn_tuple_reads q2 q1 c2.1 c1.1 room (fin' _ me)
  by_cases hs : ∃ c b, d = .str [c] ∧ e = .str b
  · obtain ⟨c, b, rfl, rfl⟩ := hs
    cases r1
    cases r2
    have w' : Qa (.bl (if neg then !decide (c ∈ b) else decide (c ∈ b))) h := w
    have eb : (!(Builtin.Str.occurrences (mkS b) (mkS [c]) 0 (mkS b).length 1).isEmpty) = decide (c ∈ b) := SX.in_one b c
    cases neg with
    | false =>
      have eo : o = .In := ho
      subst eo
      exact op_in_str pins s σ H _ _ v u Q I rx ry ⟨_, _, rfl, rfl, by rw [eb]; exact fin _ _ _ _ _ (.bl _) rh .refl w'⟩
    | true =>
      have eo : o = .NotIn := ho
      subst eo
      exact op_notin_str pins s σ H _ _ v u Q I rx ry ⟨_, _, rfl, rfl, by rw [eb]; exact fin _ _ _ _ _ (.bl _) rh .refl w'⟩
  · refine gen ?_
    have e0 : inW h d e (fun b => Qa (.bl (if neg then !b else b)) h) := w
    unfold inW at e0
    split at e0
    · exact absurd ⟨_, _, rfl, rfl⟩ hs
    · exact e0
theorem op_cop (op : Cop) (hn : op ≠ .isN ∧ op ≠ .notN) (hu : X.A.units + 65 < cLine) : OpR X (compareOp op.op) (L2' X nm (cmpB op)) := by
  have int2 : ∀ {o : CmpOp} {p : Int → Int → Bool}, OpR X (compareOp o) (rI0 fun i j => .bl (p i j)) → (∀ d e h Q, cmpB op d e h Q → (∃ i j, d = .int i ∧ e = .int j ∧ Q (.bl (p i j)) h) ∨ (op = .lt ∧ ∃ a b, d = .str a ∧ e = .str b)) → op.op = o → (op = .lt → o = .Lt) → OpR X (compareOp op.op) (L2' X nm (cmpB op)) := by
    intro o p ho hc eo hl pins s σ H x y v u Q I rx ry hq
    rw [eo]
    obtain ⟨m, h, d, e, Qa, r1, r2, rh, w, fin⟩ := hq
    rcases hc d e h Qa w with ⟨i, j, rfl, rfl, q⟩ | ⟨rfl, a, b, rfl, rfl⟩
    · cases r1
      cases r2
      exact ho pins s σ H _ _ v u Q I rx ry ⟨i, j, rfl, rfl, fin _ _ _ _ _ (.bl _) rh .refl q⟩
    · cases r1
      cases r2
      obtain rfl := hl rfl
      exact op_lt_str pins s σ H _ _ v u Q I rx ry ⟨_, _, rfl, rfl, fin _ _ _ _ _ (.bl _) rh .refl w⟩
  cases op with
  | lt => exact int2 op_lt (fun d e h Q w => by
      cases d <;> cases e <;> first | exact w.elim | exact .inl ⟨_, _, rfl, rfl, w⟩ | exact .inr ⟨rfl, _, _, rfl, rfl⟩) rfl (fun _ => rfl)
  | le => exact int2 op_le (fun d e h Q w => by
      cases d <;> cases e <;> first | exact w.elim | exact .inl ⟨_, _, rfl, rfl, w⟩) rfl (fun z => by cases z)
  | gt => exact int2 op_gt (fun d e h Q w => by
      cases d <;> cases e <;> first | exact w.elim | exact .inl ⟨_, _, rfl, rfl, w⟩) rfl (fun z => by cases z)
  | ge => exact int2 op_ge (fun d e h Q w => by
      cases d <;> cases e <;> first | exact w.elim | exact .inl ⟨_, _, rfl, rfl, w⟩) rfl (fun z => by cases z)
  | eq => exact op_eq_ok (neg := false) rfl (by omega)
  | ne => exact op_eq_ok (neg := true) rfl (by omega)
  | isin => exact op_in_ok (neg := false) rfl hu
  | notin => exact op_in_ok (neg := true) rfl hu
  | isN => exact absurd rfl hn.1
  | notN => exact absurd rfl hn.2
theorem op_isN_ok : OpR X (compareOp .Is) (L2' X nm (cmpB .isN)) := by
  intro pins s σ H x y v u Q I rx ry hq
  obtain ⟨m, h, d, e, Qa, r1, r2, rh, w, fin⟩ := hq
  cases r2 with
  | non =>
    refine op_isN pins s σ H _ _ v u Q I rx ry ⟨rfl, ?_⟩
    have e : (decide (x = .non)) = d.isN := by cases r1 <;> simp [D.isN]
    rw [e]
    exact fin _ _ _ _ _ (.bl _) rh .refl w
  | _ => exact w.elim
theorem op_notN_ok : OpR X (compareOp .IsNot) (L2' X nm (cmpB .notN)) := by
  intro pins s σ H x y v u Q I rx ry hq
  obtain ⟨m, h, d, e, Qa, r1, r2, rh, w, fin⟩ := hq
  cases r2 with
  | non =>
    refine op_notN pins s σ H _ _ v u Q I rx ry ⟨rfl, ?_⟩
    have e : (!decide (x = .non)) = (!d.isN) := by cases r1 <;> simp [D.isN]
    rw [e]
    exact fin _ _ _ _ _ (.bl _) rh .refl w
  | _ => exact w.elim
theorem op_cmp (op : Cop) (hu : X.A.units + 65 < cLine) : OpR X (compareOp op.op) (L2' X nm (cmpB op)) := by
  by_cases h1 : op = .isN
  · subst h1; exact op_isN_ok
  · by_cases h2 : op = .notN
    · subst h2; exact op_notN_ok
    · exact op_cop op ⟨h1, h2⟩ hu
end
end Rf

namespace Rf
open PySem PySem.Spec PyProof.Rows L2
section
variable {X : Cx} {nm : Nm}
theorem atI_RV {K : PySem.W.Frag} {H : Hp} {m : List Addr} {xs : List V} {ds : List D} {i : Int} {d : D} (r : RVs K H m xs ds) (e : atI ds i = some d) : ∃ v, atI xs i = some v ∧ RV K H m v d := by
  unfold atI at e ⊢
  rw [r.length]
  cases q : ixN ds.length i with
  | none => rw [q] at e; cases e
  | some j =>
    rw [q] at e
    obtain ⟨v, h1, h2⟩ := r.get (show ds[j]? = some d from e)
    exact ⟨v, h1, h2⟩
theorem ix_ok : IxR X (L2' X nm (fun x y h Q => idxW h x y fun d => Q d h)) := by
  intro e1 e2 pins s σ H x y v u Q I rx ry hq hp
  obtain ⟨m, h, d, e, Qa, r1, r2, rh, w, fin⟩ := hq
  cases r2 with
  | int i =>
    cases r1 with
    | @tup a xs ds h1 h2 =>
      obtain ⟨d, e1, q⟩ := w
      obtain ⟨z, e2, rz⟩ := atI_RV h2 e1
      exact ix_tup _ _ pins s σ H _ _ v u Q I rx ry ⟨a, xs, i, z, rfl, rfl, h1.sqT, e2, fin _ _ _ _ _ rz rh .refl q⟩ hp
    | @rol a xs ds h1 h2 =>
      obtain ⟨d, e1, q⟩ := w
      obtain ⟨z, e2, rz⟩ := atI_RV h2 e1
      exact ix_list _ _ pins s σ H _ _ v u Q I rx ry ⟨a, xs, i, z, rfl, rfl, h1.sq, e2, fin _ _ _ _ _ rz rh .refl q⟩ hp
    | str x =>
      obtain ⟨hz, c, e1, q⟩ := w
      refine ix_str _ _ pins s σ H _ _ v u Q I rx ry ⟨mkS x, i, c, rfl, rfl, by rw [mkS_len, ← SZ_line]; exact hz, by simpa [mkS] using e1, ?_⟩ hp
      exact fin _ _ _ _ _ (.str [c]) rh .refl q
    | @ref a n h1 =>
      obtain ⟨xs, d, e1, e2, q⟩ := w
      obtain ⟨a', vs, q1, _, q2, q3⟩ := the_lst rh (.ref h1) e1
      cases q1
      obtain ⟨z, e3, rz⟩ := atI_RV q3 e2
      exact ix_list _ _ pins s σ H _ _ v u Q I rx ry ⟨a, vs, i, z, rfl, rfl, SqL.of q2, e3, fin _ _ _ _ _ rz rh .refl q⟩ hp
    | _ => exact w.elim
  | _ => cases r1 <;> exact w.elim

/-! ### slices -/
theorem cut_RV {K : PySem.W.Frag} {H : Hp} {m : List Addr} {xs : List V} {ds : List D} (lo hi : Option Int) (r : RVs K H m xs ds) : RVs K H m (cutV xs lo hi) (cut ds lo hi) := by
  unfold cutV cut
  rw [r.length]
  exact (r.drop _).take _
theorem cut_all {α : Type} {xs : List α} {lo hi : Option Int} (h : HT.sIx xs.length 0 lo = 0 ∧ HT.sIx xs.length xs.length hi = xs.length) : cut xs lo hi = xs := by
  unfold cut
  rw [h.1, h.2]
  simp
/-- a slice's value, lifted -/
def LSl (X : Cx) (nm : Nm) : V → Option Int → Option Int → Hp → VK → Prop := fun x lo hi H Q =>
  ∃ m h d Qa, RV X.K H m x d ∧ RH X.K nm H m h ∧ slcW h d lo hi Qa ∧ ∀ v H' m' d' h', RV X.K H' m' v d' → RH X.K nm H' m' h' → Ext H m H' m' → Qa d' h' → Q v H'
/-- t[lo:hi], the new tuple's object known -/
theorem sl_tupF : SlR X (fun x lo hi H Q => ∃ a xs, x = .ref a ∧ SqT X.K H a xs ∧
    (HT.sIx xs.length 0 lo = 0 ∧ HT.sIx xs.length xs.length hi = xs.length → Q (.ref a) H) ∧ (¬ (HT.sIx xs.length 0 lo = 0 ∧ HT.sIx xs.length xs.length hi = xs.length) → ∀ p its, H p = none → Q (.ref p) (upd H p (.frz (tO its) (.tup (cutV xs lo hi)))))) := by
  intro pins s σ H x v vl vu lo hi sl Q I rx hs pl pu h
  obtain ⟨a, xs, rfl, hx, q1, q2⟩ := h
  cases rx
  obtain ⟨its, r, ht, hz⟩ := I.tuple hx
  have hlen : its.toArray.size = xs.length := by rw [List.size_toArray]; exact r.length.symm
  refine ⟨"tuple", _, PyProof.Rows.slot_tuple_getitem.lookup, ht.typeIs, ?_⟩
  by_cases hw : HT.sIx xs.length 0 lo = 0 ∧ HT.sIx xs.length xs.length hi = xs.length
  · exact getItem_tuple_whole ht hs pl pu (by rw [hlen]; exact hw) ⟨.ref a, H, I, rfl, q1 hw⟩
  · refine HT.getItem_tuple_cut ht hs pl pu (by rw [hlen]; exact hw) ?_ (by rw [hlen]; exact hz)
    rw [hlen]
    refine ⟨.ref s.heap.objs.size, _, I.laid (t' := s.toks) (o := .frz (tO ((its.toArray.toList.drop (HT.sIx xs.length 0 lo)).take (HT.sIx xs.length xs.length hi - HT.sIx xs.length 0 lo))) (.tup (cutV xs lo hi))) (fun b ob q => Heap.get?_push_of_some _ q) (Nat.le_refl _) ?_, rfl, q2 hw _ _ (I.hok.fresh (Nat.le_refl _))⟩
    exact ⟨Heap.get?_push_size _ rfl, Nat.le_trans (cutV_length xs lo hi) hz, _, (r.drop (HT.sIx xs.length 0 lo)).take (HT.sIx xs.length xs.length hi - HT.sIx xs.length 0 lo), IsTup.new _ _⟩
/-- tuple(x), the new tuple's object known -/
theorem call_tupleF : CallR X (.type "tuple") (fun xs H Q => ∃ p ys, xs = [.ref p] ∧ ((SqL X.K H p ys ∧ ∀ l its, H l = none → Q (.ref l) (upd H l (.frz (tO its) (.tup ys)))) ∨ (SqT X.K H p ys ∧ Q (.ref p) H))) := by
  intro pins s σ H xs us Q I r h
  obtain ⟨p, ys, rfl, h⟩ := h
  obtain ⟨u, rfl, rx⟩ := vals1 r
  cases rx
  rcases h with ⟨hq, q⟩ | ⟨hq, q⟩
  · obtain ⟨its, r', pl, hz⟩ := I.list hq
    have hlen := r'.length
    refine call_tuple_list pl.isList (fun h' kp => ?_) (by simp only [List.size_toArray] <;> omega)
    have I1 : Inv X pins σ H { s with heap := h' } := I.kept (t' := s.toks) kp
    have I2 : Inv X pins σ (upd H h'.objs.size (.frz (tO its) (.tup ys))) { s with heap := h'.push { cls := .type "tuple", data := .seq its.toArray } } :=
      I1.laid (t' := s.toks) (fun b o e => Heap.get?_push_of_some _ e) (Nat.le_refl _) (show ObjOk X.prog X.w _ _ _ (.frz (tO its) (.tup ys)) from ⟨Heap.get?_push_size _ rfl, hz, its, r', IsTup.new _ _⟩)
    exact ⟨.ref h'.objs.size, _, I2, rfl, q _ _ (I1.hok.fresh (Nat.le_refl _))⟩
  · obtain ⟨its, r', pl, hz⟩ := I.tuple hq
    exact call_tuple_same pl ⟨.ref p, H, I, rfl, q⟩
theorem sl_ok : SlR X (LSl X nm) := by
  intro pins s σ H x v vl vu lo hi sl Q I rx hs pl pu hq
  obtain ⟨m, h, d, Qa, r1, rh, w, fin⟩ := hq
  cases r1 with
  | @tup a xs ds h1 h2 =>
    refine sl_tupF pins s σ H _ v vl vu lo hi sl Q I rx hs pl pu ⟨a, xs, rfl, h1.sqT, fun hw => ?_, fun _ p its hp => ?_⟩
    · rw [h2.length] at hw
      have w' : Qa (.tup (cut ds lo hi)) h := w
      rw [cut_all hw] at w'
      exact fin _ _ _ _ _ (.tup h1 h2) rh .refl w'
    · obtain ⟨a1, a2, a3⟩ := new_tup its rh hp (cut_RV lo hi h2)
      exact fin _ _ _ _ _ a1 a2 a3 w
  | @rol a xs ds h1 h2 =>
    refine sl_list pins s σ H _ v vl vu lo hi sl Q I rx hs pl pu ⟨a, xs, rfl, h1.sq, fun p hp => ?_⟩
    obtain ⟨a1, a2, a3⟩ := new_lst rh hp (cut_RV lo hi h2)
    exact fin _ _ _ _ _ a1 a2 a3 w
  | str x =>
    obtain ⟨hz, w⟩ := w
    refine sl_str pins s σ H _ v vl vu lo hi sl Q I rx hs pl pu ⟨_, rfl, by rw [mkS_len, ← SZ_line]; exact hz, ?_⟩
    have e : cutS (mkS x) lo hi = mkS (cut x lo hi) := by
      unfold cutS cut
      rw [mkS_len]
      rfl
    rw [e]
    exact fin _ _ _ _ _ (.str _) rh .refl w
  | @ref a n h1 =>
    obtain ⟨xs, e1, w⟩ := w
    obtain ⟨a', vs, q1, _, q2, q3⟩ := the_lst rh (.ref h1) e1
    cases q1
    refine sl_list pins s σ H _ v vl vu lo hi sl Q I rx hs pl pu ⟨a, vs, rfl, SqL.of q2, fun p hp => ?_⟩
    obtain ⟨a1, a2, a3⟩ := new_lst rh hp (cut_RV lo hi q3)
    exact fin _ _ _ _ _ a1 a2 a3 w
  | _ => exact w.elim

/-! ### built-in functions, by values -/
/-- arguments, lifted -/
def LB (X : Cx) (nm : Nm) (r : List D → AH → QD → Prop) : List V → Hp → VK → Prop := fun xs H Q =>
  ∃ m h ds Qa, RVs X.K H m xs ds ∧ RH X.K nm H m h ∧ r ds h Qa ∧ ∀ v H' m' d' h', RV X.K H' m' v d' → RH X.K nm H' m' h' → Ext H m H' m' → Qa d' h' → Q v H'
theorem rvs1 {K : PySem.W.Frag} {H : Hp} {m : List Addr} {xs : List V} {d : D} (r : RVs K H m xs [d]) : ∃ v, xs = [v] ∧ RV K H m v d := by
  cases r with
  | cons h t => cases t; exact ⟨_, rfl, h⟩
theorem rvs2 {K : PySem.W.Frag} {H : Hp} {m : List Addr} {xs : List V} {d e : D} (r : RVs K H m xs [d, e]) : ∃ v w, xs = [v, w] ∧ RV K H m v d ∧ RV K H m w e := by
  cases r with
  | cons h t => cases t with
    | cons h' t' => cases t'; exact ⟨_, _, rfl, h, h'⟩
theorem rv_int {K : PySem.W.Frag} {H : Hp} {m : List Addr} {v : V} {i : Int} (r : RV K H m v (.int i)) : v = .int i := by cases r; rfl
theorem rv_bl {K : PySem.W.Frag} {H : Hp} {m : List Addr} {v : V} {i : Bool} (r : RV K H m v (.bl i)) : v = .bl i := by cases r; rfl
theorem rv_str {K : PySem.W.Frag} {H : Hp} {m : List Addr} {v : V} {x : List Nat} (r : RV K H m v (.str x)) : v = .str (mkS x) := by cases r; rfl
theorem rvs_bl {K : PySem.W.Frag} {H : Hp} {m : List Addr} : ∀ {bs : List Bool} {xs : List V}, RVs K H m xs (bs.map D.bl) → xs = bs.map V.bl
  | [], _, r => by cases r; rfl
  | b :: bs, _, r => by
    cases r with
    | cons h t => rw [rv_bl h, rvs_bl t]; rfl
theorem rvs_int {K : PySem.W.Frag} {H : Hp} {m : List Addr} : ∀ {bs : List Int} {xs : List V}, RVs K H m xs (bs.map D.int) → xs = bs.map V.int
  | [], _, r => by cases r; rfl
  | b :: bs, _, r => by
    cases r with
    | cons h t => rw [rv_int h, rvs_int t]; rfl
theorem RV.int' {K : PySem.W.Frag} {H : Hp} {m : List Addr} {i j : Int} (e : i = j) : RV K H m (.int i) (.int j) := by subst e; exact .int _
def Bf.id : Bf → String
  | .len => "len"
  | .abs => "abs"
  | .min2 => "min"
  | .max2 => "max"
  | .minl => "min"
  | .maxl => "max"
  | .int => "int"
  | .str => "str"
  | .tuple => "tuple"
  | .list => "list"
  | .sorted => "sorted"
  | .all => "all"
  | .any => "any"
  | .sum => "sum"
  | .dnew => "dict"
theorem bf_len : CallR X (.builtin "len") (LB X nm fun ds h Q => bfW h .len ds Q) := by
  intro pins s σ H xs us Q I rv hq
  obtain ⟨m, h, ds, Qa, r, rh, w, fin⟩ := hq
  match ds, w with
  | [d], w =>
    obtain ⟨v, rfl, rv1⟩ := rvs1 r
    have gen : (∃ ys, itemsOf h d = some ys ∧ Qa (.int ys.length) h) → wpAny (model X.prog X.w) X.A (call (.builtin "len") us) (EP X pins σ Q) X.xe s := by
      rintro ⟨ys, e, q⟩
      obtain ⟨a, zs, rfl, hs, rz⟩ := items_of rh rv1 e
      refine call_len_seq pins s σ H _ us Q I rv ⟨a, zs, rfl, hs, ?_⟩
      exact fin _ _ _ _ _ (.int' (by rw [rz.length])) rh .refl q
    cases d with
    | str x =>
      obtain ⟨hz, q⟩ := w
      rw [rv_str rv1] at rv
      refine call_len_str pins s σ H _ us Q I rv ⟨_, rfl, by rw [mkS_len, ← SZ_line]; exact hz, ?_⟩
      exact fin _ _ _ _ _ (.int' (by rw [mkS_len])) rh .refl q
    | _ => exact gen w
theorem bf_abs : CallR X (.builtin "abs") (LB X nm fun ds h Q => bfW h .abs ds Q) := by
  intro pins s σ H xs us Q I rv hq
  obtain ⟨m, h, ds, Qa, r, rh, w, fin⟩ := hq
  match ds, w with
  | [.int i], w =>
    obtain ⟨v, rfl, rv1⟩ := rvs1 r
    obtain rfl := rv_int rv1
    exact call_abs pins s σ H _ us Q I rv ⟨i, rfl, fin _ _ _ _ _ (.int _) rh .refl w⟩
theorem bf_min2 (hc : X.calm = true) : CallR X (.builtin "min") (LB X nm fun ds h Q => bfW h .min2 ds Q) := by
  intro pins s σ H xs us Q I rv hq
  obtain ⟨m, h, ds, Qa, r, rh, w, fin⟩ := hq
  match ds, w with
  | [.int i, .int j], w =>
    obtain ⟨v, v', rfl, rv1, rv2⟩ := rvs2 r
    obtain rfl := rv_int rv1
    obtain rfl := rv_int rv2
    exact call_min2 hc pins s σ H _ us Q I rv ⟨i, j, rfl, fin _ _ _ _ _ (.int _) rh .refl w⟩
theorem bf_max2 (hc : X.calm = true) : CallR X (.builtin "max") (LB X nm fun ds h Q => bfW h .max2 ds Q) := by
  intro pins s σ H xs us Q I rv hq
  obtain ⟨m, h, ds, Qa, r, rh, w, fin⟩ := hq
  match ds, w with
  | [.int i, .int j], w =>
    obtain ⟨v, v', rfl, rv1, rv2⟩ := rvs2 r
    obtain rfl := rv_int rv1
    obtain rfl := rv_int rv2
    exact call_max2 hc pins s σ H _ us Q I rv ⟨i, j, rfl, fin _ _ _ _ _ (.int _) rh .refl w⟩
theorem bf_int : CallR X (.type "int") (LB X nm fun ds h Q => bfW h .int ds Q) := by
  intro pins s σ H xs us Q I rv hq
  obtain ⟨m, h, ds, Qa, r, rh, w, fin⟩ := hq
  match ds, w with
  | [.int i], w =>
    obtain ⟨v, rfl, rv1⟩ := rvs1 r
    obtain rfl := rv_int rv1
    exact call_int1 pins s σ H _ us Q I rv (.inl ⟨i, rfl, fin _ _ _ _ _ (.int _) rh .refl w⟩)
  | [.bl b], w =>
    obtain ⟨v, rfl, rv1⟩ := rvs1 r
    obtain rfl := rv_bl rv1
    exact call_int1 pins s σ H _ us Q I rv (.inr ⟨b, rfl, fin _ _ _ _ _ (.int _) rh .refl w⟩)
theorem bf_tuple : CallR X (.type "tuple") (LB X nm fun ds h Q => bfW h .tuple ds Q) := by
  intro pins s σ H xs us Q I rv hq
  obtain ⟨m, h, ds, Qa, r, rh, w, fin⟩ := hq
  match ds, w with
  | [d], w =>
    obtain ⟨v, rfl, rv1⟩ := rvs1 r
    obtain ⟨ys, e, q⟩ := w
    cases d with
    | tup zs =>
      have : zs = ys := by simpa [itemsOf] using e
      subst this
      cases rv1 with
      | @tup a xs' _ h1 h2 => exact call_tupleF pins s σ H _ us Q I rv ⟨a, xs', rfl, .inr ⟨h1.sqT, fin _ _ _ _ _ (.tup h1 h2) rh .refl q⟩⟩
    | rol zs =>
      have : zs = ys := by simpa [itemsOf] using e
      subst this
      cases rv1 with
      | @rol a xs' _ h1 h2 =>
        refine call_tupleF pins s σ H _ us Q I rv ⟨a, xs', rfl, .inl ⟨h1.sq, fun l its hl => ?_⟩⟩
        obtain ⟨a1, a2, a3⟩ := new_tup its rh hl h2
        exact fin _ _ _ _ _ a1 a2 a3 q
    | ref k =>
      cases q2 : h[k]? with
      | none => simp [itemsOf, q2] at e
      | some ob =>
        cases ob with
        | lst zs =>
          have : zs = ys := by simpa [itemsOf, q2] using e
          subst this
          obtain ⟨a, ws, rfl, hm, hH, rz⟩ := the_lst rh rv1 q2
          refine call_tupleF pins s σ H _ us Q I rv ⟨a, ws, rfl, .inl ⟨SqL.of hH, fun l its hl => ?_⟩⟩
          obtain ⟨a1, a2, a3⟩ := new_tup its rh hl rz
          exact fin _ _ _ _ _ a1 a2 a3 q
        | _ => simp [itemsOf, q2] at e
    | _ => simp [itemsOf] at e
theorem bf_list : CallR X (.type "list") (LB X nm fun ds h Q => bfW h .list ds Q) := by
  intro pins s σ H xs us Q I rv hq
  obtain ⟨m, h, ds, Qa, r, rh, w, fin⟩ := hq
  match ds, w with
  | [d], w =>
    obtain ⟨v, rfl, rv1⟩ := rvs1 r
    obtain ⟨ys, e, q⟩ := w
    obtain ⟨a, zs, rfl, hs, rz⟩ := items_of rh rv1 e
    refine call_list_of pins s σ H _ us Q I rv ⟨a, zs, rfl, hs, fun l hl => ?_⟩
    obtain ⟨a1, a2, a3⟩ := new_lst rh hl rz
    exact fin _ _ _ _ _ a1 a2 a3 q
theorem lst_of {H : Hp} {m : List Addr} {h : AH} {v : V} {d : D} {ds : List D} (rh : RH X.K nm H m h) (r : RV X.K H m v d) (e : lstOf h d = some ds) : ∃ a xs, v = .ref a ∧ SqL X.K H a xs ∧ RVs X.K H m xs ds := by
  cases d with
  | rol xs =>
    have : xs = ds := by simpa [lstOf] using e
    subst this
    cases r with
    | rol h1 h2 => exact ⟨_, _, rfl, h1.sq, h2⟩
  | ref k =>
    cases q : h[k]? with
    | none => simp [lstOf, q] at e
    | some ob =>
      cases ob with
      | lst xs =>
        have : xs = ds := by simpa [lstOf, q] using e
        subst this
        obtain ⟨a, vs, rfl, h1, h2, h3⟩ := the_lst rh r q
        exact ⟨a, vs, rfl, SqL.of h2, h3⟩
      | _ => simp [lstOf, q] at e
  | _ => simp [lstOf] at e
theorem bf_all (hc : X.calm = true) : CallR X (.builtin "all") (LB X nm fun ds h Q => bfW h .all ds Q) := by
  intro pins s σ H xs us Q I rv hq
  obtain ⟨m, h, ds, Qa, r, rh, w, fin⟩ := hq
  match ds, w with
  | [d], w =>
    obtain ⟨v, rfl, rv1⟩ := rvs1 r
    obtain ⟨bs, e, q⟩ := w
    obtain ⟨a, zs, rfl, hs, rz⟩ := lst_of rh rv1 e
    have ez := rvs_bl rz
    subst ez
    exact cr_all hc pins s σ H _ us Q I rv ⟨a, bs, rfl, hs, fin _ _ _ _ _ (.bl _) rh .refl q⟩
theorem bf_any (hc : X.calm = true) : CallR X (.builtin "any") (LB X nm fun ds h Q => bfW h .any ds Q) := by
  intro pins s σ H xs us Q I rv hq
  obtain ⟨m, h, ds, Qa, r, rh, w, fin⟩ := hq
  match ds, w with
  | [d], w =>
    obtain ⟨v, rfl, rv1⟩ := rvs1 r
    obtain ⟨bs, e, q⟩ := w
    obtain ⟨a, zs, rfl, hs, rz⟩ := lst_of rh rv1 e
    have ez := rvs_bl rz
    subst ez
    exact cr_any hc pins s σ H _ us Q I rv ⟨a, bs, rfl, hs, fin _ _ _ _ _ (.bl _) rh .refl q⟩
theorem bf_sum (hc : X.calm = true) : CallR X (.builtin "sum") (LB X nm fun ds h Q => bfW h .sum ds Q) := by
  intro pins s σ H xs us Q I rv hq
  obtain ⟨m, h, ds, Qa, r, rh, w, fin⟩ := hq
  match ds, w with
  | [d], w =>
    obtain ⟨v, rfl, rv1⟩ := rvs1 r
    obtain ⟨bs, e, q⟩ := w
    obtain ⟨a, zs, rfl, hs, rz⟩ := lst_of rh rv1 e
    have ez := rvs_int rz
    subst ez
    exact cr_sum hc pins s σ H _ us Q I rv ⟨a, bs, rfl, hs, fin _ _ _ _ _ (.int _) rh .refl q⟩
theorem bf_minl (hc : X.calm = true) : CallR X (.builtin "min") (LB X nm fun ds h Q => bfW h .minl ds Q) := by
  intro pins s σ H xs us Q I rv hq
  obtain ⟨m, h, ds, Qa, r, rh, w, fin⟩ := hq
  match ds, w with
  | [d], w =>
    obtain ⟨v, rfl, rv1⟩ := rvs1 r
    obtain ⟨bs, e, hne, q⟩ := w
    obtain ⟨a, zs, rfl, hs, rz⟩ := lst_of rh rv1 e
    have ez := rvs_int rz
    subst ez
    exact cr_min hc pins s σ H _ us Q I rv ⟨a, bs, rfl, hs, List.length_pos_iff.mpr hne, fun k hk ha => fin _ _ _ _ _ (.int _) rh .refl (q k hk ha)⟩
theorem bf_maxl (hc : X.calm = true) : CallR X (.builtin "max") (LB X nm fun ds h Q => bfW h .maxl ds Q) := by
  intro pins s σ H xs us Q I rv hq
  obtain ⟨m, h, ds, Qa, r, rh, w, fin⟩ := hq
  match ds, w with
  | [d], w =>
    obtain ⟨v, rfl, rv1⟩ := rvs1 r
    obtain ⟨bs, e, hne, q⟩ := w
    obtain ⟨a, zs, rfl, hs, rz⟩ := lst_of rh rv1 e
    have ez := rvs_int rz
    subst ez
    exact cr_max hc pins s σ H _ us Q I rv ⟨a, bs, rfl, hs, List.length_pos_iff.mpr hne, fun k hk ha => fin _ _ _ _ _ (.int _) rh .refl (q k hk ha)⟩

/-! ### isinstance -/
def Ty1.tn : Ty1 → String
  | .int => "int"
  | .bool => "bool"
  | .str => "str"
  | .tuple => "tuple"
  | .list => "list"
  | .dict => "dict"
theorem isi_ok (t : Ty1) {pins : List (Addr × Obj)} {s : Shared} {σ : L2.St} {H : Hp} {m : List Addr} {h : AH} {v : V} {u : Value} {d : D} {b : Bool} {Q : Value → Shared → Prop} {E : Value → Shared → Prop}
    (I : Inv X pins σ H s) (rx : RelV v u) (r : RV X.K H m v d) (e : D.isTy t d = some b) (q : ∀ tk, Q (.bool b) { s with toks := tk }) : wpAny (model X.prog X.w) X.A (call (.builtin "isinstance") [u, .type t.tn]) Q E s := by
  have go : ∀ (n : String), TyOf X.K H v (.type n) → kitB n t.tn = some b → wpAny (model X.prog X.w) X.A (call (.builtin "isinstance") [u, .type t.tn]) Q E s := fun n ty k => isinst_ok I rx ty (kit_ty k) q
  cases r with
  | non => cases t <;> simp [D.isTy] at e <;> subst e <;> exact go "NoneType" .non (by kernel_rfl)
  | bl x => cases t <;> simp [D.isTy] at e <;> subst e <;> exact go "bool" (.bl x) (by kernel_rfl)
  | int x => cases t <;> simp [D.isTy] at e <;> subst e <;> exact go "int" (.int x) (by kernel_rfl)
  | str x => cases t <;> simp [D.isTy] at e <;> subst e <;> exact go "str" (.str _) (by kernel_rfl)
  | rol _ _ => cases t <;> simp [D.isTy] at e
  | wtup _ _ => cases t <;> simp [D.isTy] at e
  | ref _ => cases t <;> simp [D.isTy] at e
  | @tup a xs ds h1 h2 =>
    cases (show u = Value.ref a from rx)
    obtain ⟨_, _, ⟨o, p1, p2, _⟩, _⟩ := I.tuple h1.sqT
    have k : kitB "tuple" t.tn = some b := by cases t <;> simp [D.isTy] at e <;> subst e <;> kernel_rfl
    exact PySem.W.kia_one PySem.W.kitx_tuple I.kIn ⟨o, p1, p2⟩ (kit_ty k) (fun z => nomatch z) q

/-! ### built-in methods, by values -/
def LM (X : Cx) (nm : Nm) (f : Bm) : V → List V → Hp → VK → Prop := fun x xs H Q =>
  ∃ m h d ds Qa, RV X.K H m x d ∧ RVs X.K H m xs ds ∧ RH X.K nm H m h ∧ bmW h f d ds Qa ∧ ∀ v H' m' d' h', RV X.K H' m' v d' → RH X.K nm H' m' h' → Ext H m H' m' → Qa d' h' → Q v H'
theorem bm_append : MtM X "list.append" (LM X nm .append) := by
  intro pins s σ H x xs v us Q I rx rv hq
  obtain ⟨m, h, d, ds, Qa, r, rs, rh, w, fin⟩ := hq
  match d, ds, w with
  | .ref n, [y], w =>
    obtain ⟨zs, e, hz, q⟩ := w
    obtain ⟨a, ws, rfl, hm, hH, rz⟩ := the_lst rh r e
    obtain ⟨yv, rfl, ry⟩ := rvs1 rs
    refine mt_append pins s σ H _ _ v us Q I rx rv ⟨a, ws, yv, rfl, rfl, hH, by rw [rz.length, ← SZ_line]; exact hz, ?_⟩
    obtain ⟨a1, a2⟩ := set_lst rh hm (rz.append (.cons ry .nil))
    exact fin _ _ _ _ _ .non a1 a2 q
theorem bm_pop : MtM X "list.pop" (LM X nm .pop) := by
  intro pins s σ H x xs v us Q I rx rv hq
  obtain ⟨m, h, d, ds, Qa, r, rs, rh, w, fin⟩ := hq
  match d, ds, w with
  | .ref n, [], w =>
    obtain ⟨zs, y, e, hz, q⟩ := w
    obtain ⟨a, ws, rfl, hm, hH, rz⟩ := the_lst rh r e
    cases rs
    obtain ⟨yv, e2, ry⟩ := rz.get hz
    refine mt_pop pins s σ H _ _ v us Q I rx rv ⟨a, ws, yv, rfl, rfl, hH, by rw [rz.length]; exact e2, ?_⟩
    have rz' : RVs X.K H m ws.dropLast zs.dropLast := by
      rw [List.dropLast_eq_take, List.dropLast_eq_take, rz.length]
      exact rz.take _
    obtain ⟨a1, a2⟩ := set_lst rh hm rz'
    exact fin _ _ _ _ _ (ry.ext a2) a1 a2 q
theorem findIdx_str {p : List Nat} : ∀ {l : List (List Nat)} {j : Nat}, l.findIdx? (fun z => decide (z = p)) = some j → l[j]? = some p ∧ ∀ k z, k < j → l[k]? = some z → z ≠ p
  | [], _, h => by simp at h
  | a :: l, j, h => by
    rw [List.findIdx?_cons] at h
    by_cases hp : a = p
    · subst hp
      simp at h
      subst h
      exact ⟨rfl, fun k z hk _ => absurd hk (Nat.not_lt_zero _)⟩
    · simp only [hp, decide_false, Bool.false_eq_true, if_false, Option.map_eq_some_iff] at h
      obtain ⟨i, h1, rfl⟩ := h
      obtain ⟨e1, e2⟩ := findIdx_str h1
      refine ⟨by simpa using e1, fun k z hk hz => ?_⟩
      cases k with
      | zero => simp at hz; subst hz; exact hp
      | succ k => exact e2 k z (by omega) (by simpa using hz)
theorem map_eraseI {α β : Type} (f : α → β) : ∀ (l : List α) (j : Nat), (l.map f).eraseIdx j = (l.eraseIdx j).map f
  | [], _ => rfl
  | _ :: _, 0 => rfl
  | a :: l, j + 1 => congrArg (f a :: ·) (map_eraseI f l j)
def isS (x : Str) : Value → Bool
  | .str z _ => z == x
  | _ => false
theorem bm_remove : MtM X "list.remove" (LM X nm .remove) := by
  intro pins s σ H x xs v us Q I rx rv hq
  obtain ⟨m, h, d, ds, Qa, r, rs, rh, w, fin⟩ := hq
  match d, ds, w with
  | .ref n, [.str p], w =>
    obtain ⟨zs, j, e, hj, q⟩ := w
    obtain ⟨a, ws, rfl, hm, hH, rz⟩ := the_lst rh r e
    obtain ⟨yv, rfl, ry⟩ := rvs1 rs
    cases ry
    obtain ⟨u, rfl, ru⟩ := vals1 rv
    obtain ⟨t, rfl⟩ := ru
    cases rx
    obtain ⟨its, nn, rr, ho, hz⟩ := I.lst hH
    obtain ⟨e1, e2⟩ := findIdx_str hj
    have l1 := rz.length
    have l2 := rr.length
    rw [List.length_map] at l1
    have hjl : j < zs.length := (List.getElem?_eq_some_iff.mp e1).1
    have val : ∀ k (hk : k < its.length) z, zs[k]? = some z → ∃ t', its[k] = .str (mkS z) t' := fun k hk z hz' => by
      obtain ⟨w1, h1, h2⟩ := rz.get (i := k) (d := .str z) (by rw [List.getElem?_map, hz']; rfl)
      cases h2
      obtain ⟨u1, h3, h4⟩ := Vals.get rr h1
      obtain ⟨t', rfl⟩ := h4
      rw [List.getElem?_eq_getElem hk] at h3
      exact ⟨t', Option.some.inj h3⟩
    refine call_meets PySem.F.slot_list_remove ⟨_, ho, rfl⟩ PySem.F.entry_list_remove (PySem.F.args_list_remove_2 _ _)
      (PySem.SeqAt.list_removeAt a its.toArray nn none #[] (.str (mkS p) t) (isS (mkS p)) j (by simp; omega) ?_ (fun k hk hlt => ?_) (by simp; omega)) ⟨ho, fun y hy => ?_, ?_⟩
    · obtain ⟨t', e3⟩ := val j (by omega) p e1
      show isS (mkS p) its[j] = true
      rw [e3]
      simp [isS]
    · have hk' : k < its.length := by simpa using hk
      have hkz : k < zs.length := by omega
      obtain ⟨t', e3⟩ := val k hk' _ (List.getElem?_eq_getElem hkz)
      show isS (mkS p) its[k] = false
      rw [e3]
      have := e2 k _ hlt (List.getElem?_eq_getElem hkz)
      simp only [isS, beq_eq_false_iff_ne]
      exact fun z => this (mkS_inj.mp z)
    · obtain ⟨k, hk, rfl⟩ := Array.getElem_of_mem hy
      have hk' : k < its.length := by simpa using hk
      have hkz : k < zs.length := by omega
      obtain ⟨t', e3⟩ := val k hk' _ (List.getElem?_eq_getElem hkz)
      have e4 : its.toArray[k] = .str (mkS zs[k]) t' := e3
      rw [e4]
      exact PySem.SeqAt.EqAt.str_str _ _ _ _
    · have rz' : RVs X.K H m (ws.eraseIdx j) ((zs.eraseIdx j).map .str) := by
        have := rz.eraseIdx j
        rw [map_eraseI] at this
        exact this
      obtain ⟨a1, a2⟩ := set_lst rh hm rz'
      refine ⟨.non, _, I.lstUpd (n' := if ((its.eraseIdx j).toArray.size == its.toArray.size) = true then nn else nn + 1) (t := s.toks) hH ho ?_ (rr.eraseIdx j) ?_, rfl, fin _ _ _ _ _ .non a1 a2 q⟩
      · simp only [Obj.mapSeq, List.eraseIdxIfInBounds_toArray]
      · have := List.length_eraseIdx_le ws j
        omega
theorem meets_extend_tuple (l : Addr) (items : Array Value) (n : Nat) (b : Addr) (items2 : Array Value) (n2 : Nat) (dd : Option Addr) (sl : Array (Option Value)) (hs0 : ¬(!items.isEmpty && Builtin.List.listTooLong (items.size + items2.size)) = true) (hs1 : items.size ≤ sizeLine) (hs2 : items.size + items2.size ≤ sizeLine + 1) :
    Meets (Builtin.«list.extend» ⟨[.ref l, .ref b], []⟩) (fun _ R s => s.heap.get? l = some { cls := .type "list", dict := none, data := .seq items n, slots := #[] } ∧ s.heap.get? b = some { cls := .type "tuple", dict := dd, data := .seq items2 n2, slots := sl } ∧ R (.ok (.ret Value.none)) { s with heap := s.heap.update l (Obj.mapSeq fun x => x ++ items2), toks := s.toks }) :=
  .of_wp fun prog w A R s h => by
    obtain ⟨hp, g, d, tk, os⟩ := s; obtain ⟨hl, hb, h⟩ := h; have f1 := AutoSeq1.idx_int; have f2 := AutoSeq1.sub_tuple_tuple; have f3 := AutoSeq1.sub_list_list; have f4 := AutoSeq1.sub_tuple_list; have f5 := AutoSeq1.sub_list_tuple;
    have hz' : (items ++ items2).size ≤ sizeLine + 1 := by rw [Array.size_append]; exact hs2
    wp_walk using (wpAny_updateSeq hl rfl (hz := hs1) (_hz' := hz')), wpAny_loadPart' hl, wpAny_loadPart' hb; exact ⟨_, rfl, h⟩
theorem bm_extend : MtM X "list.extend" (LM X nm .extend) := by
  intro pins s σ H x xs v us Q I rx rv hq
  obtain ⟨m, h, d, ds, Qa, r, rs, rh, w, fin⟩ := hq
  match d, ds, w with
  | .ref n, [y], w =>
    obtain ⟨zs, ys, e, e2, hz, q⟩ := w
    obtain ⟨a, ws, rfl, hm, hH, rz⟩ := the_lst rh r e
    obtain ⟨yv, rfl, ry⟩ := rvs1 rs
    have l1 := rz.length
    rw [SZ_line] at hz
    cases y with
    | tup xs =>
      have : xs = ys := by simpa [extOf] using e2
      subst this
      cases ry with
      | @tup b us' _ hs ru =>
        have l2 := ru.length
        obtain ⟨a1, a2⟩ := set_lst rh hm (rz.append ru)
        cases rx
        obtain ⟨w', rfl, rw'⟩ := rv.one
        cases rw'
        obtain ⟨z, its, n, r1, hl, e3⟩ := I.lstM hH
        obtain ⟨its2, r2, ⟨⟨cls, dd, data, sls⟩, ho, hc, n2, hdt⟩, z2⟩ := I.tuple hs.sqT
        simp only at hc hdt
        subst hc hdt
        have l3 := r1.length
        have l4 := r2.length
        have hsz : its.toArray.size + its2.toArray.size ≤ sizeLine := by rw [List.size_toArray, List.size_toArray]; omega
        have hlong : ¬ (!its.toArray.isEmpty && Builtin.List.listTooLong (its.toArray.size + its2.toArray.size)) = true := by
          rw [notLongL hsz, Bool.and_false]
          exact Bool.false_ne_true
        refine call_meets F.slot_list_extend ⟨_, e3, rfl⟩ F.entry_list_extend (F.args_list_extend_2 _ _) (meets_extend_tuple a its.toArray n b its2.toArray n2 dd sls hlong (by rw [List.size_toArray]; omega) (by omega)) ⟨e3, ho, ?_⟩
        exact ⟨.non, _, I.lset (its' := its ++ its2) hH e3 (by simp) (r1.append r2) (by rw [List.length_append]; omega), rfl, fin _ _ _ _ _ .non a1 a2 q⟩
    | ref k =>
      cases q2 : h[k]? with
      | none => simp [extOf, q2] at e2
      | some ob =>
        cases ob with
        | lst xs =>
          have : xs = ys := by simpa [extOf, q2] using e2
          subst this
          obtain ⟨b, us', rfl, hb, hBH, ru⟩ := the_lst rh ry q2
          have l2 := ru.length
          obtain ⟨a1, a2⟩ := set_lst rh hm (rz.append ru)
          exact mt_extend pins s σ H _ _ v us Q I rx rv ⟨a, b, ws, us', rfl, rfl, hH, hBH, by omega, fin _ _ _ _ _ .non a1 a2 q⟩
        | _ => simp [extOf, q2] at e2
    | _ => simp [extOf] at e2
end
end Rf

namespace Rf
open PySem PySem.Spec PyProof.Rows L2
section
variable {X : Cx} {nm : Nm}
/-! ### index -/
theorem findIdx_some {α : Type} {p : α → Bool} : ∀ {l : List α} {j : Nat}, l.findIdx? p = some j → ∃ z, l[j]? = some z ∧ p z = true ∧ ∀ k z', k < j → l[k]? = some z' → p z' = false
  | [], _, h => by simp at h
  | a :: l, j, h => by
    rw [List.findIdx?_cons] at h
    cases hp : p a with
    | true =>
      rw [hp] at h
      simp at h
      subst h
      exact ⟨a, rfl, hp, fun k z' hk _ => absurd hk (Nat.not_lt_zero _)⟩
    | false =>
      rw [hp] at h
      simp only [Bool.false_eq_true, if_false, Option.map_eq_some_iff] at h
      obtain ⟨i, h1, rfl⟩ := h
      obtain ⟨z, e1, e2, e3⟩ := findIdx_some h1
      refine ⟨z, by simpa using e1, e2, fun k z' hk hz => ?_⟩
      cases k with
      | zero => simp at hz; subst hz; exact hp
      | succ k => exact e3 k z' (by omega) (by simpa using hz)
/-- items compared with x -/
theorem items_eq {pins : List (Addr × Obj)} {s : Shared} {σ : L2.St} {H : Hp} {m : List Addr} {xs : List V} {ds : List D} {its : List Value} {y : D} {yv : V} {u : Value} (I : Inv X pins σ H s) (hu : X.A.units + 65 < cLine)
    (ry : RV X.K H m yv y) (rx : RelV yv u) (oy : D.ok 59 y = true) (rs : RVs X.K H m xs ds) (od : D.oks 59 ds = true) (rv : Vals xs its) :
    ∀ j (h1 : j < its.length) (d : D), ds[j]? = some d → SeqAt.EqAt X.A.in1 s its[j] u (D.eqv d y) := by
  intro j h1 d e
  obtain ⟨bs, r1⟩ := Dp.reads I _ _ _ (dp_of _ oy ry) rx
  obtain ⟨v, e1, rd⟩ := rs.get e
  obtain ⟨w, e2, rw'⟩ := Vals.get rv e1
  have ew : its[j] = w := by
    rw [List.getElem?_eq_getElem h1] at e2
    exact Option.some.inj e2
  have okd : D.ok 59 d = true := by
    clear ry rx oy rs rv e1 rd e2 ew h1 r1
    induction ds generalizing j with
    | nil => simp at e
    | cons a l ih =>
      simp only [D.oks, Bool.and_eq_true] at od
      cases j with
      | zero => simp at e; subst e; exact od.1
      | succ j => exact ih od.2 j (by simpa using e)
  obtain ⟨as, r2⟩ := Dp.reads I _ _ _ (dp_of _ okd rd) rw'
  have a1 := ok_lay _ okd
  have a2 := ok_lay _ oy
  rw [ew, ← eqv_py d y okd oy]
  refine SeqAt.eqAt_reads _ _ _ _ _ _ _ _ r2 r1 a1.1 a2.1 ?_
  show X.A.units + 1 + _ < cLine
  have := Nat.min_le_left d.py.depth y.py.depth
  omega
/-- the built-in index of a value -/
def ixId : D → String
  | .tup _ => "tuple.index"
  | _ => "list.index"
theorem bm_index (hu : X.A.units + 65 < cLine) {pins : List (Addr × Obj)} {s : Shared} {σ : L2.St} {H : Hp} {m : List Addr} {h : AH} {d y : D} {x yv : V} {v u : Value} {ds : List D} {j : Nat} {Q : VK} (I : Inv X pins σ H s)
    (rh : RH X.K nm H m h) (r : RV X.K H m x d) (rx : RelV x v) (e : itemsOf h d = some ds) (ry : RV X.K H m yv y) (rxy : RelV yv u) (oy : D.ok 59 y = true) (od : D.oks 59 ds = true) (hj : ds.findIdx? (fun z => D.eqv z y) = some j) (q : Q (.int j) H) :
    wpAny (model X.prog X.w) X.A (call (.builtin (ixId d)) [v, u]) (EP X pins σ Q) X.xe s := by
  obtain ⟨z, e1, e2, e3⟩ := findIdx_some hj
  have hjl := (List.getElem?_eq_some_iff.mp e1).1
  have fin : EP X pins σ Q (.int j s.toks) { s with toks := s.toks + 1 } := ⟨.int j, H, I.tok _, ⟨_, rfl⟩, q⟩
  have lst : ∀ (a : Addr) (xs : List V), SqL X.K H a xs → RVs X.K H m xs ds → wpAny (model X.prog X.w) X.A (call (.builtin "list.index") [.ref a, u]) (EP X pins σ Q) X.xe s := by
    intro a xs hs rs
    have l1 := rs.length
    obtain ⟨its, rv, ⟨⟨cls, dd, data, sls⟩, n, ho, hc, hdn, hdt⟩, hz⟩ := I.list hs
    simp only at hc hdt
    subst hc hdt
    have l2 := rv.length
    have hsl := sizeLine_eq
    have he := items_eq I hu ry rxy oy rs od rv
    refine call_meets F.slot_list_index ⟨_, ho, rfl⟩ F.entry_list_index (F.args_list_index_2 _ _)
      (SeqAt.list_index2_found a its.toArray n dd sls u (fun k => match ds[k]? with | some d => D.eqv d y | none => false) j (by simp; omega) (Nat.zero_le _) (by omega) ?_ ?_) ⟨ho, fun k hk => ?_, fin⟩
    · simp only [e1]; exact e2
    · intro k hk _ hlt
      have hk' : k < ds.length := by simp at hk; omega
      simp only [List.getElem?_eq_getElem hk']
      exact e3 k _ hlt (List.getElem?_eq_getElem hk')
    · have hk1 : k < its.length := by simpa using hk
      have hk' : k < ds.length := by omega
      have := he k hk1 _ (List.getElem?_eq_getElem hk')
      simp only [List.getElem?_eq_getElem hk']
      simpa using this
  cases d with
  | tup zs =>
    have : zs = ds := by simpa [itemsOf] using e
    subst this
    cases r with
    | @tup a xs _ hs rs =>
      cases rx
      have l1 := rs.length
      obtain ⟨its, rv, ⟨⟨cls, dd, data, sls⟩, ho, hc, n, hdt⟩, hz⟩ := I.tuple hs.sqT
      simp only at hc hdt
      subst hc hdt
      have l2 := rv.length
      have hsl := sizeLine_eq
      have he := items_eq I hu ry rxy oy rs od rv
      show wpAny (model X.prog X.w) X.A (call (.builtin "tuple.index") [.ref a, u]) (EP X pins σ Q) X.xe s
      refine call_meets F.slot_tuple_index ⟨_, ho, rfl⟩ F.entry_tuple_index (F.args_tuple_index_2 _ _)
        (SeqAt.tuple_index2_found a its.toArray n dd sls u (fun k => match zs[k]? with | some d => D.eqv d y | none => false) j (by simp; omega) (Nat.zero_le _) (by simp; omega) ?_ ?_) ⟨ho, fun k hk => ?_, fin⟩
      · simp only [e1]; exact e2
      · intro k hk _ hlt
        have hk' : k < zs.length := by simp at hk; omega
        simp only [List.getElem?_eq_getElem hk']
        exact e3 k _ hlt (List.getElem?_eq_getElem hk')
      · have hk1 : k < its.length := by simpa using hk
        have hk' : k < zs.length := by omega
        have := he k hk1 _ (List.getElem?_eq_getElem hk')
        simp only [List.getElem?_eq_getElem hk']
        simpa using this
  | rol zs =>
    have : zs = ds := by simpa [itemsOf] using e
    subst this
    cases r with
    | rol hs rs => cases rx; exact lst _ _ hs.sq rs
  | ref k =>
    cases q2 : h[k]? with
    | none => simp [itemsOf, q2] at e
    | some ob =>
      cases ob with
      | lst zs =>
        have : zs = ds := by simpa [itemsOf, q2] using e
        subst this
        obtain ⟨a, ws, rfl, hm, hH, rz⟩ := the_lst rh r q2
        cases rx
        exact lst _ _ (SqL.of hH) rz
      | _ => simp [itemsOf, q2] at e
  | _ => simp [itemsOf] at e

/-! ### what is walked -/
structure RIt (K : PySem.W.Frag) (nm : Nm) (H : Hp) (m : List Addr) (J : L2.It) (it : It) : Prop where
  at_ : ∀ (H2 : Hp) (m2 : List Addr) (h2 : AH), Ext H m H2 m2 → RH K nm H2 m2 h2 → it.ck h2 →
    (∀ (i : Nat) (d : D), it.xs[i]? = some d → J.go i H2 ∧ ∀ x H3, J.yld i H2 x H3 → RV K H3 m2 x d ∧ RH K nm H3 m2 h2 ∧ Ext H2 m2 H3 m2) ∧ J.stop it.xs.length H2
def LI (X : Cx) (nm : Nm) (w : Sa → AH → (It → AH → Prop) → EK → Prop) : TI := fun σ H R =>
  ∃ sa m h Qa Ea, RS X.K H m σ sa ∧ RH X.K nm H m h ∧ w sa h Qa Ea ∧ TKs X nm H m Ea ∧ ∀ J it H' m' h', RIt X.K nm H' m' J it → RH X.K nm H' m' h' → Ext H m H' m' → Qa it h' → R J H'
theorem PI.imp {X : Cx} {tg e : Expr} {t t' : TI} (h : PI X tg e t) (i : ∀ σ H Q, t' σ H Q → t σ H Q) : PI X tg e t' := ⟨fun pins s σ H Q I q => h.run pins s σ H Q I (i σ H Q q)⟩
theorem rit_lst {H : Hp} {m : List Addr} {h : AH} {v : V} {n : Nat} {ds : List D} (rh : RH X.K nm H m h) (r : RV X.K H m v (.ref n)) (e : h[n]? = some (.lst ds)) :
    ∃ a, v = .ref a ∧ (∃ xs, SqL X.K H a xs) ∧ RIt X.K nm H m (Itl X.K a) ⟨ds, fun h' => h'[n]? = some (.lst ds)⟩ := by
  obtain ⟨a, xs, rfl, hm, hH, rz⟩ := the_lst rh r e
  refine ⟨a, rfl, ⟨xs, SqL.of hH⟩, ⟨fun H2 m2 h2 ex rh2 ck => ?_⟩⟩
  obtain ⟨a', ws, e1, _, e2, rw'⟩ := the_lst rh2 (.ref (ex.get hm)) ck
  cases e1
  refine ⟨fun i d hd => ?_, ⟨ws, SqL.of e2, by rw [rw'.length]; exact Nat.le_refl _⟩⟩
  obtain ⟨w, e3, rw2⟩ := rw'.get hd
  refine ⟨⟨ws, w, SqL.of e2, e3⟩, fun x H3 y => ?_⟩
  obtain ⟨rfl, y⟩ := y
  have := y ws (SqL.of e2)
  rw [e3] at this
  cases this
  exact ⟨rw2, rh2, .refl⟩
theorem rit_tup {H : Hp} {m : List Addr} {a : Addr} {xs : List V} {ds : List D} (h1 : SqT X.K H a xs) (r : RVs X.K H m xs ds) : RIt X.K nm H m (Itt X.K a) ⟨ds, fun _ => True⟩ := by
  refine ⟨fun H2 m2 h2 ex rh2 _ => ⟨fun i d hd => ?_, ⟨xs, ex.sqT h1, by rw [r.length]; exact Nat.le_refl _⟩⟩⟩
  obtain ⟨w, e3, rw2⟩ := r.get hd
  refine ⟨⟨xs, w, ex.sqT h1, e3⟩, fun x H3 y => ?_⟩
  obtain ⟨rfl, y⟩ := y
  have := y xs (ex.sqT h1)
  rw [e3] at this
  cases this
  exact ⟨rw2.ext ex, rh2, .refl⟩
theorem rit_rol {H : Hp} {m : List Addr} {a : Addr} {xs : List V} {ds : List D} (h1 : SqF X.K H a xs) (r : RVs X.K H m xs ds) : RIt X.K nm H m (Itl X.K a) ⟨ds, fun _ => True⟩ := by
  refine ⟨fun H2 m2 h2 ex rh2 _ => ⟨fun i d hd => ?_, ⟨xs, (ex.sqF h1).sq, by rw [r.length]; exact Nat.le_refl _⟩⟩⟩
  obtain ⟨w, e3, rw2⟩ := r.get hd
  refine ⟨⟨xs, w, (ex.sqF h1).sq, e3⟩, fun x H3 y => ?_⟩
  obtain ⟨rfl, y⟩ := y
  have := y xs (ex.sqF h1).sq
  rw [e3] at this
  cases this
  exact ⟨rw2.ext ex, rh2, .refl⟩
theorem rit_str {H : Hp} {m : List Addr} {x : List Nat} : RIt X.K nm H m (Its (mkS x)) ⟨x.map fun c => .str [c], fun _ => True⟩ := by
  refine ⟨fun H2 m2 h2 ex rh2 _ => ⟨fun i d hd => ?_, by show (mkS x).cps.size ≤ _; simp [mkS]⟩⟩
  have hi : i < x.length := by
    have := (List.getElem?_eq_some_iff.mp hd).1
    simpa using this
  refine ⟨by show i < (mkS x).cps.size; simpa [mkS] using hi, fun v H3 y => ?_⟩
  obtain ⟨rfl, c, e, rfl⟩ := y
  have e' : x[i]? = some c := by simpa [mkS] using e
  have : d = .str [c] := by
    rw [List.getElem?_map, e'] at hd
    simpa using hd.symm
  subst this
  exact ⟨.str [c], rh2, .refl⟩
theorem rit_range {H : Hp} {m : List Addr} (lo : Int) (n : Nat) : RIt X.K nm H m (Itr lo n) ⟨(List.range n).map fun (i : Nat) => .int (lo + (i : Int)), fun _ => True⟩ := by
  refine ⟨fun H2 m2 h2 ex rh2 _ => ⟨fun i d hd => ?_, by show n ≤ _; simp⟩⟩
  have hi : i < n := by
    have := (List.getElem?_eq_some_iff.mp hd).1
    simpa using this
  refine ⟨hi, fun v H3 y => ?_⟩
  obtain ⟨rfl, rfl⟩ := y
  have : d = .int (lo + (i : Int)) := by
    rw [List.getElem?_map, List.getElem?_range hi] at hd
    simpa using hd.symm
  subst this
  exact ⟨.int _, rh2, .refl⟩

/-! ### enumerate, zip: over lists and tuples -/
inductive Src where
  | lst (a : Addr)
  | tup (a : Addr)
def Src.sq (K : PySem.W.Frag) (H : Hp) : Src → List V → Prop
  | .lst a => SqL K H a
  | .tup a => SqT K H a
def Src.a : Src → Addr
  | .lst a => a
  | .tup a => a
def Src.iter (h : Heap) (it : Addr) (i : Nat) : Src → Prop
  | .lst a => h.IsListIter it a i
  | .tup a => h.IsTupleIter it a i
theorem Src.inj {c : Src} {pins : List (Addr × Obj)} {s : Shared} {σ : L2.St} {H : Hp} {xs ys : List V} (I : Inv X pins σ H s) (h : c.sq X.K H xs) (h' : c.sq X.K H ys) : xs = ys := by
  cases c with
  | lst a => exact I.list_inj h h'
  | tup a => exact I.tuple_inj h h'
theorem Src.obj {c : Src} {h : Heap} {it : Addr} {i : Nat} (st : c.iter h it i) : ∃ o, h.get? it = some o ∧ ∀ v, o.data ≠ .cell v := by
  cases c with
  | lst a => obtain ⟨o, ho, hc, hd⟩ := st; exact ⟨o, ho, fun v q => by rw [hd] at q; cases q⟩
  | tup a => obtain ⟨o, ho, hc, hd⟩ := st; exact ⟨o, ho, fun v q => by rw [hd] at q; cases q⟩
theorem Src.at_ {c : Src} {h h' : Heap} {it : Addr} {i : Nat} (st : c.iter h it i) (k : ∀ o, h.get? it = some o → h'.get? it = some o) : c.iter h' it i := by
  cases c with
  | lst a => exact Heap.IsListIter.at st k
  | tup a => exact Heap.IsTupleIter.at st k
/-- the source draws its items -/
theorem Src.draws {c : Src} {pins : List (Addr × Obj)} {s : Shared} {σ : L2.St} {H : Hp} {xs : List V} (I : Inv X pins σ H s) (hh : X.A.handled = none) (h : c.sq X.K H xs) (it : Addr) (hit : it ≠ c.a) :
    ∃ (its : List Value) (St : Nat → Heap → Prop), Vals xs its ∧ Draws X.prog X.w X.A.in1 it [it, c.a] its.length (fun i v => its[i]? = some v) St ∧ (∀ i, c.iter s.heap it i → St i s.heap) ∧ (∀ i h', St i h' → c.iter h' it i) := by
  cases c with
  | lst a =>
    obtain ⟨its, rv, p, hz⟩ := I.list h
    refine ⟨its, fun i h => h.IsListIter it a i ∧ h.IsList a its.toArray, rv, ?_, fun i st => ⟨st, p.isList⟩, fun i h' st => st.1⟩
    have D := Draws.list (prog := X.prog) (w := X.w) (A := X.A.in1) hh it a (Ne.symm hit) its.toArray
    simpa [Src.a] using D
  | tup a =>
    obtain ⟨its, rv, p, hz⟩ := I.tuple h
    refine ⟨its, fun i h => h.IsTupleIter it a i ∧ h.IsTuple a its.toArray, rv, ?_, fun i st => ⟨st, p⟩, fun i h' st => st.1⟩
    have D := Draws.tuple (prog := X.prog) (w := X.w) (A := X.A.in1) hh it a (Ne.symm hit) its.toArray
    simpa [Src.a] using D
/-- it begins -/
theorem Src.begins {c : Src} {pins : List (Addr × Obj)} {s : Shared} {σ : L2.St} {H : Hp} {xs : List V} (I : Inv X pins σ H s) (h : c.sq X.K H xs) :
    ∃ (o : Obj) (B : Heap → Prop), Begins (.ref c.a) o B ∧ B s.heap ∧ c.a < s.heap.objs.size ∧ ∀ (h' : Heap) (it : Addr), h'.get? it = some o → c.iter h' it 0 := by
  cases c with
  | lst a =>
    obtain ⟨its, rv, p, hz⟩ := I.list h
    refine ⟨_, _, begins_list a its.toArray, p.isList, ?_, fun h' it e => ⟨_, e, rfl, rfl⟩⟩
    obtain ⟨o, n, e, _⟩ := p
    exact Heap.lt_size e
  | tup a =>
    obtain ⟨its, rv, p, hz⟩ := I.tuple h
    refine ⟨_, _, begins_tuple a its.toArray, p, ?_, fun h' it e => ⟨_, e, rfl, rfl⟩⟩
    obtain ⟨o, e, _⟩ := p
    exact Heap.lt_size e

theorem meets_enumerate_new1 {v : Value} {o : Obj} {H : Heap → Prop} (B : Begins v o H) :
    Meets (Builtin.«enumerate.__new__» ⟨[.type "enumerate", v], []⟩) (fun _ R s => H s.heap ∧
      R (.ok (.ret (.ref (s.heap.push o).objs.size))) { s with heap := (s.heap.push o).push { cls := .type "enumerate", data := .fields #[.none, .bool false, .ref s.heap.objs.size, rawInt 0, .none, .none] } }) :=
  .of_wp fun prog w A R s h => by
    obtain ⟨hp, g, d, tk, os⟩ := s; obtain ⟨h1, h⟩ := h
    have hsub := sub_enumerate
    have q1 : ∀ {A' : Around} {E : Value → Shared → Prop} {Q : Value → Shared → Prop}, Q (.ref hp.objs.size) ⟨hp.push o, g, d, tk, os⟩ → wpAny (model prog w) A' (pyIter v) Q E ⟨hp, g, d, tk, os⟩ :=
      fun q => B.iter prog w _ _ ⟨hp, g, d, tk, os⟩ _ h1 q
    wp_walk using q1
    refine wpAny_stack_any fun st => wpAny_pure ?_
    split
    · rename_i c _ _ _ _ _
      cases (c == Value.type "enumerate")
      · wp_walk using q1
        exact ⟨_, rfl, h⟩
      · wp_walk using q1
        exact ⟨_, rfl, h⟩
    · wp_walk using q1
      exact ⟨_, rfl, h⟩
theorem enum_begins0 {prog : Program} {w : World} {A : Around} {E : Value → Shared → Prop} {s : Shared} {v : Value} {o : Obj} {H : Heap → Prop} {Q : Value → Shared → Prop} (B : Begins v o H) (h1 : H s.heap)
    (h : ∀ h', IsEnum h' (s.heap.objs.size + 1) s.heap.objs.size 0 .none → h'.get? s.heap.objs.size = some o → h'.objs.size = s.heap.objs.size + 2 →
      (∀ b o, s.heap.get? b = some o → h'.get? b = some o) → Q (.ref (s.heap.objs.size + 1)) { s with heap := h' }) :
    wpAny (model prog w) A (call (.type "enumerate") [v]) Q E s := by
  refine callType_new F.called_enumerate (by decide) (F.typeCall_enumerate_1 _) (F.newCall_enumerate_1 _) (fun obj => F.args_object_init_2 obj _) F.entry_enumerate_new
    (meets_enumerate_new1 B) ⟨h1, ?_⟩
  have hz : (s.heap.push o).objs.size = s.heap.objs.size + 1 := Heap.size_push ..
  show _ ∧ _
  rw [hz]
  have he : IsEnum ((s.heap.push o).push { cls := .type "enumerate", data := .fields #[.none, .bool false, .ref s.heap.objs.size, rawInt 0, .none, .none] }) (s.heap.objs.size + 1) s.heap.objs.size 0 .none := by
    have := Heap.get?_push_size (s.heap.push o) (o := { cls := .type "enumerate", data := .fields #[.none, .bool false, .ref s.heap.objs.size, rawInt 0, .none, .none] }) rfl
    rw [hz] at this; exact this
  refine ⟨⟨_, he, rfl⟩, h _ he (Heap.get?_push_of_some _ (Heap.get?_push_size _ B.free)) (by rw [Heap.size_push, hz]) fun b o x => Heap.get?_push_of_some _ (Heap.get?_push_of_some _ x)⟩
def IteG (K : PySem.W.Frag) (c : Src) : L2.It :=
  ⟨fun i H => ∃ (xs : List V) (x : V), c.sq K H xs ∧ xs[i]? = some x, fun i H v H' => ∃ T x, v = .ref T ∧ H T = none ∧ H' = upd H T (.tup [.int (i : Nat), x]) ∧ ∀ xs, c.sq K H xs → xs[i]? = some x, fun i H => ∃ xs : List V, c.sq K H xs ∧ xs.length = i⟩
theorem turn_enumG {P : Program} {w : World} {K : PySem.W.Frag} {elts : List Expr} {kk : Nat} {tpos : Pos} (c : Src) (e it : Addr) (hei : e ≠ it) (hea : e ≠ c.a) (hia : it ≠ c.a) :
    Turn P w K (.Tuple elts kk tpos) (IteG K c) [e, it] e (fun i h => (∃ old, IsEnum h e it ((i : Nat) : Int) old) ∧ c.iter h it i) where
  mem := by simp
  obj := fun i h st b hb => by
    obtain ⟨⟨old, he⟩, hi⟩ := st
    have e' : b = e ∨ b = it := by simpa using hb
    rcases e' with z | z
    · rw [z]; exact ⟨_, he, fun v q => nomatch q⟩
    · rw [z]; exact Src.obj hi
  keep := fun i h h' st k => let ⟨⟨old, he⟩, hi⟩ := st; ⟨⟨old, k e (by simp) _ he⟩, Src.at_ hi fun o q => k it (by simp) o q⟩
  item := by
    intro X hP hw hK hc i pins s σ H E I hf st hg
    subst hP hw hK
    obtain ⟨⟨old, he⟩, hit⟩ := st
    obtain ⟨xs, x, hq, hx⟩ := hg
    obtain ⟨its, St, rv, D, to_, of_⟩ := Src.draws I (I.ok.hd hc) hq it hia
    obtain ⟨u, hu, ru⟩ := rv.get hx
    have hlt : i < its.length := (List.getElem?_eq_some_iff.mp hu).1
    have G := GoesN.enumFrom (elts := elts) (x1 := kk) (pos := tpos) 0 D e hei (by simp [hei, hea]) (by simp)
    refine wpAny_mono (G.goes i s (fun v s2 => ∃ y H', Inv X pins σ H' s2 ∧ RelV y v ∧ (IteG X.K c).yld i H y H' ∧ ((∃ old, IsEnum s2.heap e it (((i + 1 : Nat)) : Int) old) ∧ c.iter s2.heap it (i + 1)) ∧ ∀ b ∈ [e, it], H' b = none) E hlt ⟨⟨old, by simpa using he⟩, to_ i hit⟩ ?_) (fun r s1 h1 => h1) (fun _ _ q => q)
    intro v h' tk ⟨T, t, y, ev, hn, hy, hT⟩ st' hk htk
    subst ev
    have hyu : y = u := by rw [hu] at hy; exact (Option.some.inj hy).symm
    subst hyu
    have hT0 : H T = none := I.hok.fresh hn
    have new : ObjOk X.prog X.w (upd H T (.tup [.int (i : Nat), x])) h' T (.tup [.int (i : Nat), x]) :=
      ⟨by show 2 ≤ sizeLine; decide, [.int (0 + (i : Int)) t, y], .cons ⟨t, by simp⟩ (.cons ru .nil), hT⟩
    have I1 : Inv X pins σ (upd H T (.tup [.int (i : Nat), x])) { s with heap := h', toks := tk } := I.turnedNew (ch := [e, it]) (fun b ob hb q => hk b ob hb q) hf hn new
    refine ⟨.ref T, _, I1, rfl, ⟨T, x, rfl, hT0, rfl, fun ys hy => by rw [Src.inj I hy hq]; exact hx⟩, ⟨?_, of_ _ _ st'.2⟩, fun b hb => ?_⟩
    · obtain ⟨old', q⟩ := st'.1
      exact ⟨old', by simpa using q⟩
    · have hb' : b ≠ T := by
        rintro rfl
        obtain ⟨ob, q, _⟩ : ∃ ob, s.heap.get? b = some ob ∧ True := by
          have e' : b = e ∨ b = it := by simpa using hb
          rcases e' with z | z
          · rw [z]; exact ⟨_, he, trivial⟩
          · rw [z]; obtain ⟨o, q, _⟩ := Src.obj hit; exact ⟨o, q, trivial⟩
        exact absurd (Heap.lt_size q) (Nat.not_lt.mpr hn)
      rw [upd_ne hb']
      exact (hf b hb).1
  done := by
    intro X hP hw hK hc i pins s σ H E I hf st hg
    subst hP hw hK
    obtain ⟨⟨old, he⟩, hit⟩ := st
    obtain ⟨xs, hq, hx⟩ := hg
    obtain ⟨its, St, rv, D, to_, of_⟩ := Src.draws I (I.ok.hd hc) hq it hia
    have hl := rv.length
    have hi : i = its.length := by omega
    subst hi
    have G := GoesN.enumFrom (elts := elts) (x1 := kk) (pos := tpos) 0 D e hei (by simp [hei, hea]) (by simp)
    exact G.stops s _ E ⟨⟨old, by simpa using he⟩, to_ _ hit⟩ fun h' tk hk _ => I.turnedL (t' := tk) (ch := [e, it]) (fun b o hb q => hk b o hb q) hf
  self := fun A i s Q E st h => let ⟨⟨_, he⟩, _⟩ := st; wpAny_pyIter_enum he h
theorem pi_enumG {e : Expr} {p pos tpos : Pos} {elts : List Expr} {kk : Nat} {ta : TA} (hg : Gl X "enumerate") (hm : X.mg "enumerate" = none) (ha : PA X [e] ta) (hs : starEach [e] X.env = [(false, eval e X.env)]) :
    PI X (.Tuple elts kk tpos) (.Call (.Name "enumerate" p) [e] [] pos) (fun σ H R => ta σ H fun vs H1 => ∃ (c : Src) (xs : List V), vs = [.ref c.a] ∧ c.sq X.K H1 xs ∧ R (IteG X.K c) H1) := by
  refine ⟨fun pins s σ H R I h => ?_⟩
  refine Call_ (ld_blt I hg hm boot_enumerate (PyProof.Rows.callWith_type1 (thn (ha.run pos pins s σ H _ I h) fun us s1 ⟨vs, H1, I1, r1, q1⟩ => ?_) hs rfl))
  obtain ⟨c, xs, ex, hq, q⟩ := q1
  subst ex
  cases r1 with
  | cons r rr =>
    cases rr
    cases r
    obtain ⟨o, B, hB, h1, hlt, hbeg⟩ := Src.begins I1 hq
    refine enum_begins0 hB h1 fun h' he ho hsz hk => wpAny_pyIter_enum he ?_
    have I2 : Inv X pins σ H1 { s1 with heap := h' } := I1.kept (t' := s1.toks) hk
    have ne1 : s1.heap.objs.size + 1 ≠ s1.heap.objs.size := Nat.succ_ne_self _
    have ne2 : s1.heap.objs.size + 1 ≠ c.a := Nat.ne_of_gt (Nat.lt_succ_of_lt hlt)
    have ne3 : s1.heap.objs.size ≠ c.a := Nat.ne_of_gt hlt
    refine ⟨s1.heap.objs.size + 1, [s1.heap.objs.size + 1, s1.heap.objs.size], _, _, H1, rfl, I2, turn_enumG c (s1.heap.objs.size + 1) s1.heap.objs.size ne1 ne2 ne3, ⟨⟨.none, he⟩, hbeg _ _ ho⟩, fun b hb => ?_, q⟩
    have e' : b = s1.heap.objs.size + 1 ∨ b = s1.heap.objs.size := by simpa using hb
    have hle : s1.heap.objs.size ≤ b := by
      rcases e' with z | z
      · rw [z]; exact Nat.le_add_right _ _
      · rw [z]; exact Nat.le_refl _
    exact I1.fpOk hle (I1.hok.fresh hle)

def ItzG (K : PySem.W.Frag) (a b : Src) : L2.It :=
  ⟨fun i H => ∃ (xs ys : List V) (x y : V), a.sq K H xs ∧ b.sq K H ys ∧ xs[i]? = some x ∧ ys[i]? = some y,
    fun i H v H' => ∃ T x y, v = .ref T ∧ H T = none ∧ H' = upd H T (.tup [x, y]) ∧ (∀ xs, a.sq K H xs → xs[i]? = some x) ∧ ∀ ys, b.sq K H ys → ys[i]? = some y,
    fun i H => ∃ xs ys : List V, a.sq K H xs ∧ b.sq K H ys ∧ min xs.length ys.length = i⟩
structure ZApart (z TI TO i1 i2 : Addr) (a b : Addr) : Prop where
  S : ZipSep2 z TI TO i1 i2 [i1, a] [i2, b]
  n1 : i1 ≠ a
  n2 : i2 ≠ b
theorem turn_zipG {P : Program} {w : World} {K : PySem.W.Frag} {elts : List Expr} {kk : Nat} {tpos : Pos} (a b : Src) {z TI TO i1 i2 : Addr} (A : ZApart z TI TO i1 i2 a.a b.a) :
    Turn P w K (.Tuple elts kk tpos) (ItzG K a b) [z, TI, TO, i1, i2] z (fun i h => IsZip h z TI TO .none ∧ IsTupOf2 h TI (.ref i1) (.ref i2) ∧ (∃ x y, IsTupOf2 h TO x y) ∧ a.iter h i1 i ∧ b.iter h i2 i) where
  mem := by simp
  obj := fun i h st c hc => by
    obtain ⟨hz, hTI, ⟨x, y, hTO⟩, h1, h2⟩ := st
    have e' : c = z ∨ c = TI ∨ c = TO ∨ c = i1 ∨ c = i2 := by simpa using hc
    rcases e' with q | q | q | q | q
    · rw [q]; exact ⟨_, hz, fun v q => nomatch q⟩
    · rw [q]; exact ⟨_, hTI, fun v q => nomatch q⟩
    · rw [q]; exact ⟨_, hTO, fun v q => nomatch q⟩
    · rw [q]; exact Src.obj h1
    · rw [q]; exact Src.obj h2
  keep := fun i h h' st k => by
    obtain ⟨hz, hTI, ⟨x, y, hTO⟩, h1, h2⟩ := st
    exact ⟨k z (by simp) _ hz, k TI (by simp) _ hTI, ⟨x, y, k TO (by simp) _ hTO⟩, Src.at_ h1 fun o q => k i1 (by simp) o q, Src.at_ h2 fun o q => k i2 (by simp) o q⟩
  item := by
    intro X hP hw hK hc i pins s σ H E I hf st hg
    subst hP hw hK
    have st0 := st
    obtain ⟨hz, hTI, hTO, h1, h2⟩ := st
    obtain ⟨xs, ys, x, y, hqx, hqy, hx, hy⟩ := hg
    obtain ⟨its, St1, rv, D1, to1, of1⟩ := Src.draws I (I.ok.hd hc) hqx i1 A.n1
    obtain ⟨its2, St2, rv2, D2, to2, of2⟩ := Src.draws I (I.ok.hd hc) hqy i2 A.n2
    obtain ⟨u, hu, ru⟩ := rv.get hx
    obtain ⟨u2, hu2, ru2⟩ := rv2.get hy
    have hlt : i < min its.length its2.length := by
      have a1 := (List.getElem?_eq_some_iff.mp hu).1
      have a2 := (List.getElem?_eq_some_iff.mp hu2).1
      omega
    have G := GoesN.zip2 (elts := elts) (x1 := kk) (pos := tpos) A.S D1 D2
    have inC : ∀ b ∈ [z, TO, i1, i2], b ∈ [z, TI, TO, i1, i2] := by intro b hb; simp at hb ⊢; rcases hb with q | q | q | q <;> simp [q]
    refine wpAny_mono (G.goes i s (fun v s2 => ∃ yv H', Inv X pins σ H' s2 ∧ RelV yv v ∧ (ItzG X.K a b).yld i H yv H' ∧ (IsZip s2.heap z TI TO .none ∧ IsTupOf2 s2.heap TI (.ref i1) (.ref i2) ∧ (∃ x y, IsTupOf2 s2.heap TO x y) ∧ a.iter s2.heap i1 (i + 1) ∧ b.iter s2.heap i2 (i + 1)) ∧ ∀ b ∈ [z, TI, TO, i1, i2], H' b = none) E hlt ⟨hz, hTI, hTO, to1 i h1, to2 i h2⟩ ?_) (fun r s1 h1 => h1) (fun _ _ q => q)
    intro v h' tk ⟨T, x', y', ev, hn, hx', hy', hT⟩ st' hk htk
    subst ev
    have e1 : x' = u := by rw [hu] at hx'; exact (Option.some.inj hx').symm
    have e2 : y' = u2 := by rw [hu2] at hy'; exact (Option.some.inj hy').symm
    subst e1 e2
    have hT0 : H T = none := I.hok.fresh hn
    have new : ObjOk X.prog X.w (upd H T (.tup [x, y])) h' T (.tup [x, y]) := ⟨by show 2 ≤ sizeLine; decide, [x', y'], .cons ru (.cons ru2 .nil), hT⟩
    have I1 : Inv X pins σ (upd H T (.tup [x, y])) { s with heap := h', toks := tk } := I.turnedNew (ch := [z, TI, TO, i1, i2]) (fun b ob hb q => hk b ob (fun q' => hb (inC b q')) q) hf hn new
    refine ⟨.ref T, _, I1, rfl, ⟨T, x, y, rfl, hT0, rfl, fun l hl => by rw [Src.inj I hl hqx]; exact hx, fun l hl => by rw [Src.inj I hl hqy]; exact hy⟩, ⟨st'.1, st'.2.1, st'.2.2.1, of1 _ _ st'.2.2.2.1, of2 _ _ st'.2.2.2.2⟩, fun c hb => ?_⟩
    have hb' : c ≠ T := by
      rintro rfl
      obtain ⟨ob, q⟩ : ∃ ob, s.heap.get? c = some ob := by
        have e' : c = z ∨ c = TI ∨ c = TO ∨ c = i1 ∨ c = i2 := by simpa using hb
        rcases e' with q | q | q | q | q
        · rw [q]; exact ⟨_, hz⟩
        · rw [q]; exact ⟨_, hTI⟩
        · rw [q]; obtain ⟨_, _, q⟩ := hTO; exact ⟨_, q⟩
        · rw [q]; obtain ⟨o, q, _⟩ := Src.obj h1; exact ⟨o, q⟩
        · rw [q]; obtain ⟨o, q, _⟩ := Src.obj h2; exact ⟨o, q⟩
      exact absurd (Heap.lt_size q) (Nat.not_lt.mpr hn)
    rw [upd_ne hb']
    exact (hf c hb).1
  done := by
    intro X hP hw hK hc i pins s σ H E I hf st hg
    subst hP hw hK
    obtain ⟨hz, hTI, hTO, h1, h2⟩ := st
    obtain ⟨xs, ys, hqx, hqy, hend⟩ := hg
    obtain ⟨its, St1, rv, D1, to1, of1⟩ := Src.draws I (I.ok.hd hc) hqx i1 A.n1
    obtain ⟨its2, St2, rv2, D2, to2, of2⟩ := Src.draws I (I.ok.hd hc) hqy i2 A.n2
    have hl1 := rv.length
    have hl2 := rv2.length
    have hi : i = min its.length its2.length := by omega
    subst hi
    have G := GoesN.zip2 (elts := elts) (x1 := kk) (pos := tpos) A.S D1 D2
    have inC : ∀ b ∈ [z, TO, i1, i2], b ∈ [z, TI, TO, i1, i2] := by intro b hb; simp at hb ⊢; rcases hb with q | q | q | q <;> simp [q]
    exact G.stops s _ E ⟨hz, hTI, hTO, to1 _ h1, to2 _ h2⟩ fun h' tk hk _ => I.turnedL (t' := tk) (ch := [z, TI, TO, i1, i2]) (fun b o hb q => hk b o (fun q' => hb (inC b q')) q) hf
  self := fun A i s Q E st h => wpAny_pyIter_zip st.1 h
theorem pi_zipG {e e2 : Expr} {ta : TA} {p pos tpos : Pos} {elts : List Expr} {kk : Nat} (hg : Gl X "zip") (hm : X.mg "zip" = none) (ha : PA X [e, e2] ta)
    (hs : starEach [e, e2] X.env = (false, eval e X.env) :: starEach [e2] X.env) (hpl : (backTo pos (starEach [e2] X.env)).any (·.1) = false) :
    PI X (.Tuple elts kk tpos) (.Call (.Name "zip" p) [e, e2] [] pos) (fun σ H R => ta σ H fun vs H1 => ∃ (a b : Src) (xs ys : List V), vs = [.ref a.a, .ref b.a] ∧ a.sq X.K H1 xs ∧ b.sq X.K H1 ys ∧ R (ItzG X.K a b) H1) := by
  refine ⟨fun pins s σ H R I h => ?_⟩
  refine Call_ (ld_blt I hg hm PyProof.Rows.boot_zip (PyProof.Rows.callWith_type1 (thn (ha.run pos pins s σ H _ I h) fun us s1 ⟨vs, H1, I1, r1, q1⟩ => ?_) hs hpl))
  obtain ⟨a, b, xs, ys, ex, hqx, hqy, q⟩ := q1
  subst ex
  cases r1 with
  | cons r rr =>
    cases r
    cases rr with
    | cons r rr =>
      cases rr
      cases r
      obtain ⟨o1, B1, hB1, h1, hlt1, hbeg1⟩ := Src.begins I1 hqx
      obtain ⟨o2, B2, hB2, h2, hlt2, hbeg2⟩ := Src.begins I1 hqy
      refine zip_begins2 hB1 hB2 h1 h2 fun h' hz hTI hTO ho1 ho2 hsz hk => wpAny_pyIter_zip hz ?_
      have I2 : Inv X pins σ H1 { s1 with heap := h' } := I1.kept (t' := s1.toks) hk
      have S := zip_sep2 (N := s1.heap.objs.size) (fp1 := [a.a]) (fp2 := [b.a]) (by simpa using hlt1) (by simpa using hlt2)
      refine ⟨s1.heap.objs.size + 4, [s1.heap.objs.size + 4, s1.heap.objs.size + 2, s1.heap.objs.size + 3, s1.heap.objs.size, s1.heap.objs.size + 1], _, _, H1, rfl, I2,
        turn_zipG a b ⟨S, Nat.ne_of_gt hlt1, Nat.ne_of_gt (Nat.lt_succ_of_lt hlt2)⟩, ⟨hz, hTI, ⟨_, _, hTO⟩, hbeg1 _ _ ho1, hbeg2 _ _ ho2⟩, fun c hb => ?_, q⟩
      have e' : c = s1.heap.objs.size + 4 ∨ c = s1.heap.objs.size + 2 ∨ c = s1.heap.objs.size + 3 ∨ c = s1.heap.objs.size ∨ c = s1.heap.objs.size + 1 := by simpa using hb
      have hle : s1.heap.objs.size ≤ c := by
        rcases e' with z | z | z | z | z <;> rw [z]
        · exact Nat.le_add_right _ _
        · exact Nat.le_add_right _ _
        · exact Nat.le_add_right _ _
        · exact Nat.le_refl _
        · exact Nat.le_add_right _ _
      exact I1.fpOk hle (I1.hok.fresh hle)
end
end Rf

namespace Rf
open PySem PySem.Spec PyProof.Rows L2

/-! ### the names -/
structure Gi where
  fn : List Str
  gl : List (Str × D)
  cl : List Str

def visB (sc : Scope) (x : Str) : Bool := match sc.names.lookup x with
  | some .local => true
  | some .cell => true
  | some .free => true
  | _ => false
def gloB (sc : Scope) (x : Str) : Bool := match sc.names.lookup x with
  | some .globalImplicit => true
  | _ => false
def locB (sc : Scope) (x : Str) : Bool := match sc.names.lookup x with
  | some .local => true
  | some .cell => true
  | _ => false
def okN (x : Str) : Bool := !(decide (x = Str.ofString "__debug__")) && !(decide (x = Str.ofString "__classdict__")) && !(decide (x = Str.ofString "__name__"))
def slotB (N : List Str) (sc : Scope) (i : Nat) (x : Str) : Bool := decide (N[i]? = some x) && (visB sc x && okN x)
def constB : D → Const → Bool
  | .non, .none => true
  | .bl b, .bool c => b == c
  | .int i, .int j => decide (i = j)
  | .str x, .str y => decide (mkS x = y)
  | _, _ => false
def notSlice : Expr → Bool
  | .Slice .. => false
  | _ => true
def notSet : Expr → Bool
  | .Set .. => false
  | _ => true
def bfN : Bf → Str
  | .len => Str.ofString "len"
  | .abs => Str.ofString "abs"
  | .min2 => Str.ofString "min"
  | .max2 => Str.ofString "max"
  | .minl => Str.ofString "min"
  | .maxl => Str.ofString "max"
  | .int => Str.ofString "int"
  | .str => Str.ofString "str"
  | .tuple => Str.ofString "tuple"
  | .list => Str.ofString "list"
  | .sorted => Str.ofString "sorted"
  | .all => Str.ofString "all"
  | .any => Str.ofString "any"
  | .sum => Str.ofString "sum"
  | .dnew => Str.ofString "dict"
def bfDone : Bf → Bool
  | .len => true
  | .abs => true
  | .min2 => true
  | .max2 => true
  | .minl => true
  | .maxl => true
  | .int => true
  | .tuple => true
  | .list => true
  | .all => true
  | .any => true
  | .sum => true
  | _ => false
def bmN : Bm → Str
  | .append => Str.ofString "append"
  | .extend => Str.ofString "extend"
  | .pop => Str.ofString "pop"
  | .index => Str.ofString "index"
  | .remove => Str.ofString "remove"
def Ty1.s (t : Ty1) : Str := Str.ofString t.tn
def nameB (sc : Scope) (x y : Str) : Bool := decide (x = y) && (gloB sc y && okN y)
def tgB1 (N : List Str) (sc : Scope) (i : Nat) : Expr → Bool
  | .Name x _ => decide (N[i]? = some x) && (locB sc x && okN x)
  | _ => false
def tgBs (N : List Str) (sc : Scope) : List Nat → List Expr → Bool
  | [], [] => true
  | i :: is, e :: es => tgB1 N sc i e && tgBs N sc is es
  | _, _ => false
def tgB (N : List Str) (sc : Scope) : Tg → Expr → Bool
  | .one i, e => tgB1 N sc i e
  | .many is, .Tuple es _ _ => tgBs N sc is es
  | _, _ => false
def tgSlots : Tg → List Nat
  | .one i => [i]
  | .many is => is
def ownOf (N : List Str) (own : List Nat) : List (Str × Nat) := own.map fun i => (N.getD i Str.empty, i)
def isTup : Expr → Bool
  | .Tuple .. => true
  | _ => false

mutual
def chkE (G : Gi) (N : List Str) : M → Scope → Expr → Bool
  | .var i, sc, e => (match e with | .Name x _ => slotB N sc i x | _ => false)
  | .k d, _, e => (match e with | .Constant c _ _ => constB d c | _ => false)
  | .glb i d, sc, e => (match e with | .Name x _ => (match G.gl[i]? with | some (y, d') => D.same d d' && nameB sc y x | none => false) | _ => false)
  | .bin op a b, sc, e => (match e with | .BinOp l o r _ => decide (op.op = o) && (chkE G N a sc l && chkE G N b sc r) | _ => false)
  | .neg a, sc, e => (match e with | .UnaryOp .USub l _ => chkE G N a sc l | _ => false)
  | .cmp op a b, sc, e => (match e with | .Compare l [o] [r] _ => decide (op.op = o) && (notSet r && (chkE G N a sc l && chkE G N b sc r)) | _ => false)
  | .ch o1 o2 a b c, sc, e => (match e with | .Compare l [p1, p2] [r, t] _ => decide (o1.op = p1) && (decide (o2.op = p2) && (notSet t && (chkE G N a sc l && (chkE G N b sc r && chkE G N c sc t)))) | _ => false)
  | .and a b, sc, e => (match e with | .BoolOp .And (x :: y :: rest) p => chkE G N a sc x && (match rest with | [] => chkE G N b sc y | _ :: _ => chkE G N b sc (.BoolOp .And (y :: rest) p)) | _ => false)
  | .or a b, sc, e => (match e with | .BoolOp .Or (x :: y :: rest) p => chkE G N a sc x && (match rest with | [] => chkE G N b sc y | _ :: _ => chkE G N b sc (.BoolOp .Or (y :: rest) p)) | _ => false)
  | .not a, sc, e => (match e with | .UnaryOp .Not l _ => chkE G N a sc l | _ => false)
  | .ite c a b, sc, e => (match e with | .IfExp t x y _ => chkT G N c sc t && (chkE G N a sc x && chkE G N b sc y) | _ => false)
  | .tup as, sc, e => (match e with | .Tuple es _ _ => chkA G N as sc es | _ => false)
  | .lst as, sc, e => (match e with | .List es _ => chkA G N as sc es | _ => false)
  | .idx a i, sc, e => (match e with | .Subscript x y _ => notSlice y && (chkE G N a sc x && chkE G N i sc y) | _ => false)
  | .slc a lo hi, sc, e => (match e with | .Subscript x (.Slice l u none _) _ => chkE G N a sc x && (chkO G N lo sc l && chkO G N hi sc u) | _ => false)
  | .slst a st, sc, e => (match e with | .Subscript x (.Slice none none (some l) _) _ => chkE G N a sc x && chkE G N st sc l | _ => false)
  | .call f as, sc, e => (match e with | .Call (.Name x _) es [] _ => (match G.fn[f]? with | some y => nameB sc y x | none => false) && (!es.isEmpty && chkA G N as sc es) | _ => false)
  | .bf f as, sc, e => (match e with | .Call (.Name x _) es [] _ => nameB sc (bfN f) x && (bfDone f && (!es.isEmpty && chkA G N as sc es)) | _ => false)
  | .isi t a, sc, e => (match e with | .Call (.Name x _) [y, .Name z _] [] _ => nameB sc (Str.ofString "isinstance") x && (nameB sc t.s z && chkE G N a sc y) | _ => false)
  | .lrng a, sc, e => (match e with | .Call (.Name x _) [.Call (.Name z _) [y] [] _] [] _ => nameB sc (Str.ofString "list") x && (nameB sc (Str.ofString "range") z && chkE G N a sc y) | _ => false)
  | .bm f o as, sc, e => (match e with | .Call (.Attribute x n p) es [] q => decide (bmN f = n) && (decide (p.endLine = q.line) && (decide (es.length < 30) && (chkE G N o sc x && chkA G N as sc es))) | _ => false)
  | .lc el tg src c own, sc, e => (match e with | .ListComp x [⟨t, it, ifs, 0⟩] s _ => blkC N sc s (ownOf N own) && ((tgSlots tg).all (fun i => own.contains i) && (tgB N s tg t && (chkI G N src sc t it &&
      ((match ifs with | [] => (match c with | .nil => true | _ => false) | [f] => (match c with | .nil => false | _ => chkT G N c (relS s sc) f) | _ => false) && chkE G N el (relS s sc) x)))) | _ => false)
  | _, _, _ => false
def chkA (G : Gi) (N : List Str) : M → Scope → List Expr → Bool
  | .nil, _, es => es.isEmpty
  | .cons a r, sc, es => (match es with | e :: es => chkE G N a sc e && chkA G N r sc es | [] => false)
  | _, _, _ => false
def chkO (G : Gi) (N : List Str) : M → Scope → Option Expr → Bool
  | .nil, _, o => o.isNone
  | .cons a _, sc, o => (match o with | some e => chkE G N a sc e | none => false)
  | _, _, _ => false
def chkT (G : Gi) (N : List Str) : M → Scope → Expr → Bool
  | .not a, sc, e => (match e with | .UnaryOp .Not l _ => chkT G N a sc l | _ => false)
  | .and a b, sc, e => (match e with | .BoolOp .And (x :: y :: rest) p => chkT G N a sc x && (match rest with | [] => chkT G N b sc y | _ :: _ => chkT G N b sc (.BoolOp .And (y :: rest) p)) | _ => false)
  | .or a b, sc, e => (match e with | .BoolOp .Or (x :: y :: rest) p => chkT G N a sc x && (match rest with | [] => chkT G N b sc y | _ :: _ => chkT G N b sc (.BoolOp .Or (y :: rest) p)) | _ => false)
  | .cmp op a b, sc, e => (match e with | .Compare l [o] [r] _ => decide (op.op = o) && (notSet r && (chkE G N a sc l && chkE G N b sc r)) | _ => false)
  | .ch o1 o2 a b c, sc, e => (match e with | .Compare l [p1, p2] [r, t] _ => decide (o1.op = p1) && (decide (o2.op = p2) && (notSet t && (chkE G N a sc l && (chkE G N b sc r && chkE G N c sc t)))) | _ => false)
  | .tv a, sc, e => (match e with
      | .Name .. => true
      | .Call .. => true
      | .Subscript .. => true
      | .Constant .. => true
      | _ => false) && chkE G N a sc e
  | _, _, _ => false
def chkI (G : Gi) (N : List Str) : M → Scope → Expr → Expr → Bool
  | .rng1 a, sc, _, e => (match e with | .Call (.Name x _) [y] [] _ => nameB sc (Str.ofString "range") x && chkE G N a sc y | _ => false)
  | .rng2 a b, sc, _, e => (match e with | .Call (.Name x _) [y, z] [] _ => nameB sc (Str.ofString "range") x && (chkE G N a sc y && chkE G N b sc z) | _ => false)
  | .enum a, sc, t, e => isTup t && (match e with | .Call (.Name x _) [y] [] _ => nameB sc (Str.ofString "enumerate") x && chkE G N a sc y | _ => false)
  | .zip a b, sc, t, e => isTup t && (match e with | .Call (.Name x _) [y, z] [] _ => nameB sc (Str.ofString "zip") x && (chkE G N a sc y && chkE G N b sc z) | _ => false)
  | .itv a, sc, _, e => notSet e && chkE G N a sc e
  | _, _, _, _ => false
end

/-- how the model stores the value of a comprehension -/
inductive Sw | plain | swap | no
  deriving DecidableEq
def swOf (x : Str) (sc : Scope) (p q : Pos) : Expr → Sw
  | .ListComp _ _ s vp => if decide (sc.names.lookup x = some .local) && (decide (p.line = vp.line) && (decide (vp.line = q.line) && !(s.names.any fun y => decide (y.1 = x) && (decide (y.2 = .local) || decide (y.2 = .cell))))) then .swap else .no
  | .SetComp .. => .no
  | .DictComp .. => .no
  | _ => .plain
def noComp : Expr → Bool
  | .ListComp .. => false
  | .SetComp .. => false
  | .DictComp .. => false
  | _ => true
def augE : Expr → Option (Str × Pos)
  | .Name x p => some (x, p)
  | _ => none
/-- the stores are from the left -/
def swNone (es vs : List Expr) : Bool := !(es.length == 2 || es.length == 3) || (!decide (vs.length = es.length) || vs.all (foldedForSure 8))
def swLoc (sc : Scope) (l : Nat) : Expr → Bool
  | .Name x p => decide (sc.names.lookup x = some .local) && decide (p.line = l)
  | _ => false
def notStar : Expr → Bool
  | .Starred .. => false
  | _ => true
/-- the stores are from the right, to plain local names -/
def swSome (sc : Scope) (is : List Nat) (es vs : List Expr) : Bool := decide (is.Nodup) && (es.all (swLoc sc ((es.head?.map (·.pos.line)).getD 0)) && (vs.all notStar && (!(vs.all (foldedForSure 8)) && !(vs.all (constantsAlone 8)))))
mutual
def chkS (G : Gi) (N : List Str) (sc : Scope) : MS → Stmt → Bool
  | .set i e, st => (match st with
      | .Assign [.Name x p] v q => tgB1 N sc i (.Name x p) && (chkE G N e sc v && !(decide (swOf x sc p q v = .no)))
      | _ => false)
  | .setT is e, st => (match st with
      | .Assign [.Tuple es k p] v q => tgBs N sc is es && (chkE G N e sc v && (noComp v && (match v with
          | .Tuple vs _ _ => swNone es vs || swSome sc is es vs
          | _ => true)))
      | _ => false)
  | .setI o i e, st => (match st with
      | .Assign [.Subscript x y _] v q => notSlice y && (noComp v && (chkE G N e sc v && (chkE G N o sc x && chkE G N i sc y)))
      | _ => false)
  | .aug i op e, st => (match st with
      | .AugAssign (.Name x p) o v q => (decide (op = .add) || decide (op = .sub)) && (decide (op.op = o) && (tgB1 N sc i (.Name x p) && chkE G N e sc v))
      | _ => false)
  | .expr e, st => (match st with
      | .Expr v q => noComp v && chkE G N e sc v
      | _ => false)
  | .ret e, st => (match st with
      | .Return (some v) _ => chkE G N e sc v
      | _ => false)
  | .ret0, st => (match st with
      | .Return none _ => true
      | _ => false)
  | .cond c a b, st => (match st with
      | .If t x y _ => chkT G N c sc t && (chkB G N sc a x && chkB G N sc b y)
      | _ => false)
  | .while_ c b, st => (match st with
      | .While t x [] _ => chkT G N c sc t && chkB G N sc b x
      | _ => false)
  | .for_ tg src b, st => (match st with
      | .For t it x [] _ => tgB N sc tg t && (notSet it && (chkI G N src sc t it && chkB G N sc b x))
      | _ => false)
  | .pass_, st => (match st with
      | .Pass _ => true
      | _ => false)
  | .brk, st => (match st with
      | .Break _ => true
      | _ => false)
  | .cont, st => (match st with
      | .Continue _ => true
      | _ => false)
  | .raise_ c as, st => (match st with
      | .Raise (some (.Call (.Name x _) [.Constant (.str m) _ _] [] _)) none _ => (match G.cl[c]? with
        | some y => nameB sc y x
        | none => false) && (match as with
        | .nil => true
        | _ => false)
      | _ => false)
  | .never, _ => true
  | _, _ => false
def chkB (G : Gi) (N : List Str) (sc : Scope) : MS → List Stmt → Bool
  | .nil, sts => sts.isEmpty
  | .seq s r, sts => (match sts with
      | st :: sts => chkS G N sc s st && chkB G N sc r sts
      | [] => false)
  | _, _ => false
end
end Rf

namespace Rf
open PySem PySem.Spec PyProof.Rows L2

/-- a def's promise -/
def spC (K : PySem.W.Frag) (nm : Nm) (C : CT) (f : Nat) : Sp := fun vs H Q E =>
  ∃ ds m h Qa Ea, RVs K H m vs ds ∧ RH K nm H m h ∧ C f ds h Qa Ea ∧ (∀ v H' m' d h', RV K H' m' v d → RH K nm H' m' h' → Ext H m H' m' → Qa d h' → Q v H') ∧
    ∀ cls dx x H' m' h', RX K nm H' m' cls dx x → RH K nm H' m' h' → Ext H m H' m' → Ea x h' → E cls dx H'
def bltS : List Str := (["len", "abs", "min", "max", "int", "str", "tuple", "list", "sorted", "all", "any", "sum", "isinstance", "dict", "range", "enumerate", "zip", "bool"] : List String).map Str.ofString

structure Ct (X : Cx) (nm : Nm) (G : Gi) (C : CT) : Prop where
  calm : X.calm = true
  hu : X.A.units + 65 < cLine
  nd : X.N.Nodup
  call : ∀ (f : Nat) (y : Str), G.fn[f]? = some y → ∃ a fd ps k, FnOk X.prog X.w X.K X.mg X.base (CX X.prog X.w) k a fd ps (spC X.K nm C f) ∧ Room k X.A ∧ X.mg y = some (.ref a) ∧ PySem.W.keepIn X.K (.ref a) = true ∧ Binds X.K fd ps []
  blt : ∀ x ∈ bltS, X.mg x = none
  glb : ∀ (i : Nat) (y : Str) (d : D), G.gl[i]? = some (y, d) → ∃ u v, X.mg y = some u ∧ RelV v u ∧ ∀ H m, RV X.K H m v d
  exc : ∀ (i : Nat) (y : Str), G.cl[i]? = some y → X.mg y = some (.ref (nm.cls i)) ∧ PySem.W.excIn X.K (nm.cls i) [.type "ValueError", .type "Exception", .type "BaseException", .type "object"] "ValueError.__new__" = true ∧
    PySem.W.keepIn X.K (.ref (nm.cls i)) = true ∧ PySem.W.subIn X.K (.ref (nm.cls i)) (.type "BaseException") = some true ∧ PySem.W.typeIn X.K (.ref (nm.cls i)) = some (.type "type")
section
variable {X : Cx} {nm : Nm} {G : Gi} {C : CT}
theorem Ct.blk (c : Ct X nm G C) (s : Shared) (H : Hp) (scope : Scope) (cenv : Env) (fp : List Addr) : Ct (X.blk s H scope cenv fp) nm G C := ⟨c.calm, c.hu, c.nd, c.call, c.blt, c.glb, c.exc⟩
theorem visB_ok {sc : Scope} {x : Str} (h : visB sc x = true) : Vis sc x := by
  unfold visB at h
  unfold Vis
  split at h <;> simp_all
theorem gloB_ok {sc : Scope} {x : Str} (h : gloB sc x = true) : sc.names.lookup x = some .globalImplicit := by
  unfold gloB at h
  split at h <;> simp_all
theorem locB_ok {sc : Scope} {x : Str} (h : locB sc x = true) : L2.Loc sc x := by
  unfold locB at h
  unfold L2.Loc
  split at h <;> simp_all
theorem okN_d {x : Str} (h : okN x = true) : (x == ("__debug__" : Str)) = false ∧ (x == ("__classdict__" : Str)) = false ∧ x ≠ "__name__" := by
  simp only [okN, Bool.and_eq_true, Bool.not_eq_true', decide_eq_false_iff_not] at h
  exact ⟨beq_eq_false_iff_ne.mpr h.1.1, beq_eq_false_iff_ne.mpr h.1.2, h.2⟩
theorem nameB_ok {sc : Scope} {x y : Str} (h : nameB sc x y = true) : x = y ∧ sc.names.lookup y = some .globalImplicit ∧ okN y = true := by
  simp only [nameB, Bool.and_eq_true, decide_eq_true_eq] at h
  exact ⟨h.1, gloB_ok h.2.1, h.2.2⟩

/-! ### small expressions -/
theorem de_var {i : Nat} {x : Str} {pos : Pos} (h : slotB X.N X.env.scope i x = true) : DE X nm (.Name x pos) (wE C (.var i)) := by
  simp only [slotB, Bool.and_eq_true, decide_eq_true_eq] at h
  obtain ⟨o1, o2, o3⟩ := okN_d h.2.2
  refine PE.imp (pe_var h.1 (visB_ok h.2.1) o1 o2) fun σ H Q q => ?_
  obtain ⟨sa, m, h', Qa, Ea, rs, rh, w, tk, fin⟩ := q
  simp only [wE] at w
  unfold slot at w
  split at w
  · rename_i d e
    obtain ⟨v, e1, rv⟩ := rs.2 i d e
    exact ⟨v, e1, fin _ _ _ _ _ rv rh .refl w⟩
  · exact w.elim
theorem de_const {v : V} {d : D} {e : Expr} (h : PE X e (tC v)) (r : ∀ H m, RV X.K H m v d) (w : Sa → AH → QD → EK → Prop) (hw : ∀ s h Q E, w s h Q E → Q d h) : DE X nm e w := by
  refine PE.imp h fun σ H Q q => ?_
  obtain ⟨sa, m, h', Qa, Ea, rs, rh, w', tk, fin⟩ := q
  exact fin _ _ _ _ _ (r H m) rh .refl (hw _ _ _ _ w')
theorem de_k {d : D} {c : Const} {k : Nat} {pos : Pos} (h : constB d c = true) : DE X nm (.Constant c k pos) (wE C (.k d)) := by
  cases d <;> cases c <;> simp only [constB, decide_eq_true_eq, beq_iff_eq] at h <;> first | contradiction | skip
  · exact de_const pe_non (fun _ _ => .non) _ fun _ _ _ _ w => by simpa only [wE] using w
  · subst h; exact de_const pe_bl (fun _ _ => .bl _) _ fun _ _ _ _ w => by simpa only [wE] using w
  · subst h; exact de_const pe_int (fun _ _ => .int _) _ fun _ _ _ _ w => by simpa only [wE] using w
  · subst h; exact de_const pe_str (fun _ _ => .str _) _ fun _ _ _ _ w => by simpa only [wE] using w
theorem de_bin {op : Bop} {a b : M} {l r : Expr} {pos : Pos} (c : Ct X nm G C) (ha : DE X nm l (wE C a)) (hb : DE X nm r (wE C b)) : DE X nm (.BinOp l op.op r pos) (wE C (.bin op a b)) := by
  refine PE.imp (pe_op (op_bop (nm := nm) op (by have := c.hu; omega)) ha hb) fun σ H Q q => ?_
  have e : wE C (.bin op a b) = fun s h Q E => wE C a s h (fun x h1 => wE C b s h1 (fun y h2 => bopW op x y h2 Q) E) E := by funext s h Q E; simp only [wE]
  rw [e] at q
  exact LE.op q
theorem de_neg {a : M} {l : Expr} {pos : Pos} (ha : DE X nm l (wE C a)) : DE X nm (.UnaryOp .USub l pos) (wE C (.neg a)) := by
  refine PE.imp (pe_un (r := L1 X nm fun x h1 Q => intOf x fun i => Q (.int (-i)) h1) (fun pins s σ H x v Q I rx hq => ?_) ha) fun σ H Q q => ?_
  · obtain ⟨m, h, d, Qa, r, rh, w, fin⟩ := hq
    cases r with
    | int i => exact un_neg pins s σ H _ v Q I rx ⟨i, rfl, fin _ _ _ _ _ (.int _) rh .refl w⟩
    | _ => exact w.elim
  · have e : wE C (.neg a) = fun s h Q E => wE C a s h (fun x h1 => intOf x fun i => Q (.int (-i)) h1) E := by funext s h Q E; simp only [wE]
    rw [e] at q
    exact LE.un q
theorem nm_ok {op : CmpOp} {b : Expr} (h : notSet b = true) : behindInMarks op b = false := by
  cases b <;> simp [notSet] at h <;> simp [behindInMarks]
theorem de_cmp {op : Cop} {a b : M} {l r : Expr} {pos : Pos} (c : Ct X nm G C) (hn : notSet r = true) (ha : DE X nm l (wE C a)) (hb : DE X nm r (wE C b)) : DE X nm (.Compare l [op.op] [r] pos) (wE C (.cmp op a b)) := by
  refine PE.imp (pe_cmpR (op_cmp (nm := nm) op c.hu) ha hb (nm_ok hn)) fun σ H Q q => ?_
  have e : wE C (.cmp op a b) = fun s h Q E => wE C a s h (fun x h1 => wE C b s h1 (fun y h2 => cmpB op x y h2 Q) E) E := by funext s h Q E; simp only [wE]
  rw [e] at q
  exact LE.op q

/-! ### the others -/
theorem LE.imp {w w' : Sa → AH → QD → EK → Prop} (h : ∀ s a Q E, w s a Q E → w' s a Q E) {σ : L2.St} {H : Hp} {Q : VK} (q : LE X nm w σ H Q) : LE X nm w' σ H Q := by
  obtain ⟨sa, m, h', Qa, Ea, rs, rh, w1, tk, fin⟩ := q
  exact ⟨sa, m, h', Qa, Ea, rs, rh, h _ _ _ _ w1, tk, fin⟩
theorem ch_read {o1 o2 : Cop} {a b c : M} {σ : L2.St} {H : Hp} {sa : Sa} {m : List Addr} {h : AH} {Qa : QD} {Ea : EK} {Q : VK} (rs : RS X.K H m σ sa) (rh : RH X.K nm H m h)
    (w : wE C a sa h (fun x h1 => wE C b sa h1 (fun y h2 => cmpW o1 x y h2 fun k => if k = true then wE C c sa h2 (fun z h3 => cmpW o2 y z h3 fun k' => Qa (.bl k') h3) Ea else Qa (.bl false) h2) Ea) Ea) (tk : TKs X nm H m Ea)
    (fin : ∀ v H' m' d h', RV X.K H' m' v d → RH X.K nm H' m' h' → Ext H m H' m' → Qa d h' → Q v H') :
    tChain (L2' X nm (cmpB o1)) (L2' X nm (cmpB o2)) (LE X nm (wE C a)) (LE X nm (wE C b)) (LE X nm (wE C c)) σ H Q := by
  refine ⟨sa, m, h, _, Ea, rs, rh, w, tk, fun v H1 m1 d1 h1 rv rh1 ex1 q1 => ⟨sa, m1, h1, _, Ea, rs.ext ex1, rh1, q1, tk_ext tk ex1, fun v2 H2 m2 d2 h2 rv2 rh2 ex2 q2 => ?_⟩⟩
  refine ⟨m2, h2, d1, d2, fun d h3 => h3 = h2 ∧ ∃ b, d = .bl b ∧ (if b = true then wE C c sa h2 (fun z h3 => cmpW o2 d2 z h3 fun k' => Qa (.bl k') h3) Ea else Qa (.bl false) h2), rv.ext ex2, rv2, rh2, ?_, ?_⟩
  · revert q2
    generalize hK : (fun k => if k = true then wE C c sa h2 (fun z h3 => cmpW o2 d2 z h3 fun k' => Qa (.bl k') h3) Ea else Qa (.bl false) h2) = K
    intro q2
    have mono : ∀ (x y : D) (P P' : Bool → Prop), (∀ b, P b → P' b) → cmpW o1 x y h2 P → cmpW o1 x y h2 P' := fun x y P P' hp => by
      cases o1 <;> cases x <;> cases y <;> simp only [cmpW, eqW, inW] <;> first
        | exact hp _
        | exact fun z => z
        | exact fun z => ⟨z.1, z.2.1, hp _ z.2.2⟩
        | (rintro ⟨ys, a1, a2, a3, a4⟩; exact ⟨ys, a1, a2, a3, hp _ a4⟩)
        | skip
      all_goals (split <;> first | exact hp _ | exact fun z => z | (rintro ⟨ys, a1, a2, a3, a4⟩; exact ⟨ys, a1, a2, a3, hp _ a4⟩))
    refine mono _ _ _ _ (fun b hb => ⟨rfl, b, rfl, ?_⟩) q2
    rw [← hK] at hb
    exact hb
  · intro v3 H3 m3 d3 h3 rv3 rh3 ex3 ⟨e3, b, e4, q3⟩
    subst e3 e4
    cases rv3
    refine ⟨b, rfl, ?_⟩
    cases b with
    | false =>
      simp only [Bool.false_eq_true, if_false] at q3 ⊢
      exact fin _ _ _ _ _ (.bl _) rh3 ((ex1.trans ex2).trans ex3) q3
    | true =>
      simp only [if_true] at q3 ⊢
      refine ⟨sa, m3, h3, _, Ea, ((rs.ext ex1).ext ex2).ext ex3, rh3, q3, tk_ext (tk_ext (tk_ext tk ex1) ex2) ex3, fun v4 H4 m4 d4 h4 rv4 rh4 ex4 q4 => ?_⟩
      exact ⟨m4, h4, d2, d4, fun d h5 => Qa d h5, (rv2.ext ex3).ext ex4, rv4, rh4, q4, fun v5 H5 m5 d5 h5 r5 rh5 ex5 q5 => fin _ _ _ _ _ r5 rh5 ((((ex1.trans ex2).trans ex3).trans ex4).trans ex5) q5⟩
theorem de_ch {o1 o2 : Cop} {a b c : M} {l r t : Expr} {pos : Pos} (k : Ct X nm G C) (hn : notSet t = true) (ha : DE X nm l (wE C a)) (hb : DE X nm r (wE C b)) (hc : DE X nm t (wE C c)) : DE X nm (.Compare l [o1.op, o2.op] [r, t] pos) (wE C (.ch o1 o2 a b c)) := by
  refine PE.imp (pe_chain (op_cmp (nm := nm) o1 k.hu) (op_cmp (nm := nm) o2 k.hu) ha hb hc (by show behindInMarks o2.op t = false; exact nm_ok hn)) fun σ H Q q => ?_
  obtain ⟨sa, m, h, Qa, Ea, rs, rh, w, tk, fin⟩ := q
  simp only [wE] at w
  exact ch_read rs rh w tk fin
theorem de_and {a b : M} {x : Expr} {y : Expr} {rest : List Expr} {pos : Pos} (ha : DE X nm x (wE C a)) (hb : DE X nm (.BoolOp .And (y :: rest) pos) (wE C b)) : DE X nm (.BoolOp .And (x :: y :: rest) pos) (wE C (.and a b)) := by
  refine PE.imp (pe_and ha hb) fun σ H Q q => ?_
  obtain ⟨sa, m, h, Qa, Ea, rs, rh, w, tk, fin⟩ := q
  simp only [wE] at w
  refine ⟨sa, m, h, _, Ea, rs, rh, w, tk, fun v H1 m1 d1 h1 rv rh1 ex1 q1 => ?_⟩
  cases rv with
  | bl t =>
    simp only [boolOf] at q1
    refine ⟨t, rfl, ?_⟩
    cases t with
    | false => simp only [Bool.false_eq_true, if_false] at q1 ⊢; exact fin _ _ _ _ _ (.bl _) rh1 ex1 q1
    | true =>
      simp only [if_true] at q1 ⊢
      exact ⟨sa, m1, h1, _, Ea, rs.ext ex1, rh1, q1, tk_ext tk ex1, fun v2 H2 m2 d2 h2 rv2 rh2 ex2 q2 => fin _ _ _ _ _ rv2 rh2 (ex1.trans ex2) q2⟩
  | _ => exact q1.elim
theorem de_or {a b : M} {x : Expr} {y : Expr} {rest : List Expr} {pos : Pos} (ha : DE X nm x (wE C a)) (hb : DE X nm (.BoolOp .Or (y :: rest) pos) (wE C b)) : DE X nm (.BoolOp .Or (x :: y :: rest) pos) (wE C (.or a b)) := by
  refine PE.imp (pe_or ha hb) fun σ H Q q => ?_
  obtain ⟨sa, m, h, Qa, Ea, rs, rh, w, tk, fin⟩ := q
  simp only [wE] at w
  refine ⟨sa, m, h, _, Ea, rs, rh, w, tk, fun v H1 m1 d1 h1 rv rh1 ex1 q1 => ?_⟩
  cases rv with
  | bl t =>
    simp only [boolOf] at q1
    refine ⟨t, rfl, ?_⟩
    cases t with
    | true => simp only [if_true] at q1 ⊢; exact fin _ _ _ _ _ (.bl _) rh1 ex1 q1
    | false =>
      simp only [Bool.false_eq_true, if_false] at q1 ⊢
      exact ⟨sa, m1, h1, _, Ea, rs.ext ex1, rh1, q1, tk_ext tk ex1, fun v2 H2 m2 d2 h2 rv2 rh2 ex2 q2 => fin _ _ _ _ _ rv2 rh2 (ex1.trans ex2) q2⟩
  | _ => exact q1.elim
theorem de_not {a : M} {x : Expr} {pos : Pos} (ha : DE X nm x (wE C a)) : DE X nm (.UnaryOp .Not x pos) (wE C (.not a)) := by
  refine PE.imp (pe_not ha) fun σ H Q q => ?_
  obtain ⟨sa, m, h, Qa, Ea, rs, rh, w, tk, fin⟩ := q
  simp only [wE] at w
  refine ⟨sa, m, h, _, Ea, rs, rh, w, tk, fun v H1 m1 d1 h1 rv rh1 ex1 q1 => ?_⟩
  cases rv with
  | bl t => exact ⟨t, rfl, fin _ _ _ _ _ (.bl _) rh1 ex1 q1⟩
  | _ => exact q1.elim
theorem de_ite {c a b : M} {t x y : Expr} {pos : Pos} (hc : PT X t (LT X nm (wT C c))) (ha : DE X nm x (wE C a)) (hb : DE X nm y (wE C b)) : DE X nm (.IfExp t x y pos) (wE C (.ite c a b)) := by
  refine PE.imp (pe_ifExp hc ha hb) fun σ H Q q => ?_
  obtain ⟨sa, m, h, Qa, Ea, rs, rh, w, tk, fin⟩ := q
  simp only [wE] at w
  refine ⟨sa, m, h, _, Ea, rs, rh, w, tk, fun t H1 m1 h1 rh1 ex1 q1 => ?_⟩
  cases t with
  | true =>
    simp only [if_true] at q1 ⊢
    exact ⟨sa, m1, h1, _, Ea, rs.ext ex1, rh1, q1, tk_ext tk ex1, fun v2 H2 m2 d2 h2 rv2 rh2 ex2 q2 => fin _ _ _ _ _ rv2 rh2 (ex1.trans ex2) q2⟩
  | false =>
    simp only [Bool.false_eq_true, if_false] at q1 ⊢
    exact ⟨sa, m1, h1, _, Ea, rs.ext ex1, rh1, q1, tk_ext tk ex1, fun v2 H2 m2 d2 h2 rv2 rh2 ex2 q2 => fin _ _ _ _ _ rv2 rh2 (ex1.trans ex2) q2⟩
theorem da_nil : PA X [] (LA X nm (wA C .nil)) := by
  refine PA.imp pa_nil fun σ H Q q => ?_
  obtain ⟨sa, m, h, Qa, Ea, rs, rh, w, tk, fin⟩ := q
  simp only [wA] at w
  exact fin _ _ _ _ _ .nil rh .refl w
theorem da_cons {a r : M} {e : Expr} {es : List Expr} (ha : DE X nm e (wE C a)) (hr : PA X es (LA X nm (wA C r))) (hs : starEach (e :: es) X.env = (false, eval e X.env) :: starEach es X.env) : PA X (e :: es) (LA X nm (wA C (.cons a r))) := by
  refine PA.imp (pa_cons ha hr hs) fun σ H Q q => ?_
  obtain ⟨sa, m, h, Qa, Ea, rs, rh, w, tk, fin⟩ := q
  simp only [wA] at w
  exact ⟨sa, m, h, _, Ea, rs, rh, w, tk, fun v H1 m1 d1 h1 rv rh1 ex1 q1 => ⟨sa, m1, h1, _, Ea, rs.ext ex1, rh1, q1, tk_ext tk ex1, fun vs H2 m2 ds h2 rvs rh2 ex2 q2 => fin _ _ _ _ _ (.cons (rv.ext ex2) rvs) rh2 (ex1.trans ex2) q2⟩⟩
theorem pe_tupF {es : List Expr} {t : TA} {pos : Pos} {x1 : Nat} (h : PA X es t) : PE X (.Tuple es x1 pos) (fun σ H Q => t σ H fun xs H1 => xs.length ≤ sizeLine ∧ ∀ p its, H1 p = none → Q (.ref p) (upd H1 p (.frz (tO its) (.tup xs)))) := by
  refine ⟨fun pins s σ H Q I hq => ?_⟩
  refine wpAny_Tuple_spliced (thn (h.run pos pins s σ H _ I hq) fun us s1 ⟨xs, H1, I1, r, z, q⟩ => ⟨by rw [← r.length]; exact z, ?_⟩)
  have hf : H1 s1.heap.objs.size = none := I1.hok.fresh (Nat.le_refl _)
  refine ⟨.ref s1.heap.objs.size, upd H1 s1.heap.objs.size (.frz (tO us) (.tup xs)), I1.laid (t' := s1.toks) (fun b u e => Heap.get?_push_of_some _ e) (Nat.le_refl _) ?_, rfl, q _ _ hf⟩
  exact ⟨Heap.get?_push_size _ rfl, z, us, r, ⟨_, Heap.get?_push_size _ rfl, rfl, _, rfl⟩⟩
theorem de_tup {as : M} {es : List Expr} {k : Nat} {pos : Pos} (ha : PA X es (LA X nm (wA C as))) : DE X nm (.Tuple es k pos) (wE C (.tup as)) := by
  refine PE.imp (pe_tupF ha) fun σ H Q q => ?_
  obtain ⟨sa, m, h, Qa, Ea, rs, rh, w, tk, fin⟩ := q
  simp only [wE] at w
  refine ⟨sa, m, h, _, Ea, rs, rh, w, tk, fun vs H1 m1 ds h1 rvs rh1 ex1 q1 => ⟨by rw [rvs.length, ← SZ_line]; exact q1.1, fun p its hp => ?_⟩⟩
  obtain ⟨a1, a2, a3⟩ := new_tup its rh1 hp rvs
  exact fin _ _ _ _ _ a1 a2 (ex1.trans a3) q1.2
theorem de_lst {as : M} {es : List Expr} {pos : Pos} (ha : PA X es (LA X nm (wA C as))) : DE X nm (.List es pos) (wE C (.lst as)) := by
  refine PE.imp (pe_lst ha) fun σ H Q q => ?_
  obtain ⟨sa, m, h, Qa, Ea, rs, rh, w, tk, fin⟩ := q
  simp only [wE] at w
  refine ⟨sa, m, h, _, Ea, rs, rh, w, tk, fun vs H1 m1 ds h1 rvs rh1 ex1 q1 => ⟨by rw [rvs.length, ← SZ_line]; exact q1.1, fun p hp => ?_⟩⟩
  obtain ⟨a1, a2, a3⟩ := new_lst rh1 hp rvs
  exact fin _ _ _ _ _ a1 a2 (ex1.trans a3) q1.2
theorem de_idx {a i : M} {x y : Expr} {pos : Pos} (ha : DE X nm x (wE C a)) (hi : DE X nm y (wE C i)) (hn : notSlice y = true) : DE X nm (.Subscript x y pos) (wE C (.idx a i)) := by
  have hp : PlainIx y := by cases y <;> first | (intro o i; rfl) | simp [notSlice] at hn
  refine PE.imp (pe_ix (ix_ok (nm := nm)) ha hi hp) fun σ H Q q => ?_
  have e : wE C (.idx a i) = fun s h Q E => wE C a s h (fun x h1 => wE C i s h1 (fun y h2 => idxW h2 x y fun d => Q d h2) E) E := by funext s h Q E; simp only [wE]
  rw [e] at q
  exact LE.op (r := fun x y h Q => idxW h x y fun d => Q d h) q
theorem do_nil : PO X none (LO X nm (wO C .nil)) := by
  refine ⟨fun pins s σ H Q I q => po_none.run pins s σ H Q I ?_⟩
  obtain ⟨sa, m, h, Qa, Ea, rs, rh, w, tk, fin⟩ := q
  simp only [wO] at w
  exact fin _ _ _ _ rh .refl w
theorem do_some {a r : M} {e : Expr} (ha : DE X nm e (wE C a)) : PO X (some e) (LO X nm (wO C (.cons a r))) := by
  refine ⟨fun pins s σ H Q I q => (po_some ha).run pins s σ H Q I ?_⟩
  obtain ⟨sa, m, h, Qa, Ea, rs, rh, w, tk, fin⟩ := q
  simp only [wO] at w
  refine ⟨sa, m, h, _, Ea, rs, rh, w, tk, fun v H1 m1 d1 h1 rv rh1 ex1 q1 => ?_⟩
  cases rv with
  | int i => exact ⟨i, rfl, fin _ _ _ _ rh1 ex1 q1⟩
  | _ => exact q1.elim
theorem de_slc {a lo hi : M} {x : Expr} {l u : Option Expr} {p pos : Pos} (ha : DE X nm x (wE C a)) (hl : PO X l (LO X nm (wO C lo))) (hu : PO X u (LO X nm (wO C hi))) : DE X nm (.Subscript x (.Slice l u none p) pos) (wE C (.slc a lo hi)) := by
  refine PE.imp (pe_slice (sl_ok (nm := nm)) ha hl hu) fun σ H Q q => ?_
  obtain ⟨sa, m, h, Qa, Ea, rs, rh, w, tk, fin⟩ := q
  simp only [wE] at w
  refine ⟨sa, m, h, _, Ea, rs, rh, w, tk, fun v H1 m1 d1 h1 rv rh1 ex1 q1 => ⟨sa, m1, h1, _, Ea, rs.ext ex1, rh1, q1, tk_ext tk ex1, fun o2 H2 m2 h2 rh2 ex2 q2 => ⟨sa, m2, h2, _, Ea, (rs.ext ex1).ext ex2, rh2, q2, tk_ext (tk_ext tk ex1) ex2, fun o3 H3 m3 h3 rh3 ex3 q3 => ?_⟩⟩⟩
  exact ⟨m3, h3, d1, Qa, (rv.ext ex2).ext ex3, rh3, q3, fun v4 H4 m4 d4 h4 r4 rh4 ex4 q4 => fin _ _ _ _ _ r4 rh4 (((ex1.trans ex2).trans ex3).trans ex4) q4⟩
end
end Rf

namespace Rf
open PySem PySem.Spec PyProof.Rows L2
section
variable {X : Cx} {nm : Nm} {G : Gi} {C : CT}
/-! ### calls -/
theorem de_call {f : Nat} {y x : Str} {as : M} {e : Expr} {es : List Expr} {p pos : Pos} (k : Ct X nm G C) (hf : G.fn[f]? = some y) (hn : nameB X.env.scope y x = true) (ha : PA X (e :: es) (LA X nm (wA C as)))
    (he : starEach (e :: es) X.env = (false, eval e X.env) :: starEach es X.env) (hpl : (backTo pos (starEach es X.env)).any (·.1) = false) : DE X nm (.Call (.Name x p) (e :: es) [] pos) (wE C (.call f as)) := by
  obtain ⟨rfl, hg, ho⟩ := nameB_ok hn
  obtain ⟨hdb, _, _⟩ := okN_d ho
  obtain ⟨a, fd, ps, lv, F, hr, hm, hk, hb⟩ := k.call f _ hf
  refine ⟨fun pins s σ H Q I q => ?_⟩
  obtain ⟨sa, m, h, Qa, Ea, rs, rh, w, tk, fin⟩ := q
  simp only [wE] at w
  refine wpAny_Call_Name_kw (ld_glob I hg hm ?_ hdb)
  refine PySem.W.callWith_K (h₀ := X.base) I.ok.mod.kin hk (thn (ha.run pos pins s σ H (fun vs H1 => ∃ m1 ds h1, RVs X.K H1 m1 vs ds ∧ RH X.K nm H1 m1 h1 ∧ Ext H m H1 m1 ∧ C f ds h1 Qa fun x h' => Ea x sa h') I ⟨sa, m, h, _, Ea, rs, rh, w, tk, fun vs H1 m1 ds h1 rvs rh1 ex1 q1 => ⟨m1, ds, h1, rvs, rh1, ex1, q1⟩⟩)
    fun us s1 ⟨vs, H1, I1, r1, m1, ds, h1, rvs, rh1, ex1, q1⟩ => ⟨I1.kIn, ?_⟩) he hpl
  have sp : spC X.K nm C f vs H1 Q (fun cls d H' => ∃ x m' h', RX X.K nm H' m' cls d x ∧ RH X.K nm H' m' h' ∧ Ext H1 m1 H' m' ∧ Ea x sa h') :=
    ⟨ds, m1, h1, Qa, _, rvs, rh1, q1, fun v H' m' d h' rv rh' ex q => fin v H' m' d h' rv rh' (ex1.trans ex) q, fun cls dx x H' m' h' rx rh' ex q => ⟨x, m', h', rx, rh', ex, q⟩⟩
  have hl : us.length = ps.length := by
    rw [← r1.length]
    exact F.len _ _ _ _ sp
  refine wpAny_call (codeAny_mono (F.run X.A X.stack s1 H1 ⟨us, []⟩ us vs Q _ hr I1.env0 (by simpa using hb s1 us I1.kIn (by simpa using hl)) r1 sp) fun r s' hq => ?_)
  cases r with
  | error e =>
    refine tk e s' (XE.of_call I1 (W := LW X.K nm H m Ea) (fun cls d H' ⟨x, m', h', rx, rh', ex, q⟩ => ?_) hq)
    exact ⟨x, sa, m', h', rx, (rs.ext ex1).ext ex, rh', ex1.trans ex, q⟩
  | ok fl =>
    cases fl with
    | ret u => exact I1.after hq
    | next => exact False.elim hq
    | brk => exact False.elim hq
    | cont => exact False.elim hq

/-! ### built-in functions -/
theorem LA.bf {as : M} {r : List D → AH → QD → Prop} {σ : L2.St} {H : Hp} {Q : VK}
    (q : LE X nm (fun s h Q E => wA C as s h (fun ds h1 => r ds h1 Q) E) σ H Q) : tCB (LB X nm r) (LA X nm (wA C as)) σ H Q := by
  obtain ⟨sa, m, h, Qa, Ea, rs, rh, w, tk, fin⟩ := q
  exact ⟨sa, m, h, _, Ea, rs, rh, w, tk, fun vs H1 m1 ds h1 rvs rh1 ex1 q1 => ⟨m1, h1, ds, Qa, rvs, rh1, q1, fun v H' m' d h' rv rh' ex q => fin _ _ _ _ _ rv rh' (ex1.trans ex) q⟩⟩
theorem mem_blt {x : Str} (k : Ct X nm G C) (h : x ∈ bltS) : X.mg x = none := k.blt x h
def bfTy : Bf → Bool
  | .int => true
  | .str => true
  | .tuple => true
  | .list => true
  | .dnew => true
  | _ => false
theorem de_bf {f : Bf} {x : Str} {as : M} {e : Expr} {es : List Expr} {p pos : Pos} (k : Ct X nm G C) (hd : bfDone f = true) (hn : nameB X.env.scope (bfN f) x = true) (ha : PA X (e :: es) (LA X nm (wA C as)))
    (he : starEach (e :: es) X.env = (false, eval e X.env) :: starEach es X.env) (hpl : (backTo pos (starEach es X.env)).any (·.1) = false) : DE X nm (.Call (.Name x p) (e :: es) [] pos) (wE C (.bf f as)) := by
  obtain ⟨rfl, hg, ho⟩ := nameB_ok hn
  obtain ⟨hdb, _, hnn⟩ := okN_d ho
  have eq : wE C (.bf f as) = fun s h Q E => wA C as s h (fun ds h1 => bfW h1 f ds Q) E := by funext s h Q E; simp only [wE]
  have hm : X.mg (bfN f) = none := mem_blt k (by cases f <;> first | (cases hd; done) | (simp only [bfN, bltS]; simp))
  cases f with
  | len => exact PE.imp (pe_callB (bf_len (nm := nm)) hg hm PySem.boot_len ha hnn hdb he hpl) fun σ H Q q => LA.bf (r := fun ds h Q => bfW h .len ds Q) (eq ▸ q)
  | abs => exact PE.imp (pe_callB (bf_abs (nm := nm)) hg hm (by decide +kernel) ha hnn hdb he hpl) fun σ H Q q => LA.bf (r := fun ds h Q => bfW h .abs ds Q) (eq ▸ q)
  | min2 => exact PE.imp (pe_callB (bf_min2 (nm := nm) k.calm) hg hm (by decide +kernel) ha hnn hdb he hpl) fun σ H Q q => LA.bf (r := fun ds h Q => bfW h .min2 ds Q) (eq ▸ q)
  | max2 => exact PE.imp (pe_callB (bf_max2 (nm := nm) k.calm) hg hm (by decide +kernel) ha hnn hdb he hpl) fun σ H Q q => LA.bf (r := fun ds h Q => bfW h .max2 ds Q) (eq ▸ q)
  | minl => exact PE.imp (pe_callB (bf_minl (nm := nm) k.calm) hg hm (by decide +kernel) ha hnn hdb he hpl) fun σ H Q q => LA.bf (r := fun ds h Q => bfW h .minl ds Q) (eq ▸ q)
  | maxl => exact PE.imp (pe_callB (bf_maxl (nm := nm) k.calm) hg hm (by decide +kernel) ha hnn hdb he hpl) fun σ H Q q => LA.bf (r := fun ds h Q => bfW h .maxl ds Q) (eq ▸ q)
  | int => exact PE.imp (pe_callTy (bf_int (nm := nm)) hg hm (by decide +kernel) ha hnn hdb he hpl) fun σ H Q q => LA.bf (r := fun ds h Q => bfW h .int ds Q) (eq ▸ q)
  | tuple => exact PE.imp (pe_callTy (bf_tuple (nm := nm)) hg hm (by decide +kernel) ha hnn hdb he hpl) fun σ H Q q => LA.bf (r := fun ds h Q => bfW h .tuple ds Q) (eq ▸ q)
  | list => exact PE.imp (pe_callTy (bf_list (nm := nm)) hg hm (by decide +kernel) ha hnn hdb he hpl) fun σ H Q q => LA.bf (r := fun ds h Q => bfW h .list ds Q) (eq ▸ q)
  | all => exact PE.imp (pe_callB (bf_all (nm := nm) k.calm) hg hm (by decide +kernel) ha hnn hdb he hpl) fun σ H Q q => LA.bf (r := fun ds h Q => bfW h .all ds Q) (eq ▸ q)
  | any => exact PE.imp (pe_callB (bf_any (nm := nm) k.calm) hg hm (by decide +kernel) ha hnn hdb he hpl) fun σ H Q q => LA.bf (r := fun ds h Q => bfW h .any ds Q) (eq ▸ q)
  | sum => exact PE.imp (pe_callB (bf_sum (nm := nm) k.calm) hg hm (by decide +kernel) ha hnn hdb he hpl) fun σ H Q q => LA.bf (r := fun ds h Q => bfW h .sum ds Q) (eq ▸ q)
  | str => cases hd
  | sorted => cases hd
  | dnew => cases hd
theorem de_isi {t : Ty1} {x z : Str} {a : M} {y : Expr} {p pz pos : Pos} (k : Ct X nm G C) (hn : nameB X.env.scope (Str.ofString "isinstance") x = true) (hz : nameB X.env.scope t.s z = true) (ha : DE X nm y (wE C a))
    (he : starEach [y, .Name z pz] X.env = (false, eval y X.env) :: starEach [.Name z pz] X.env) (he2 : starEach [.Name z pz] X.env = (false, eval (.Name z pz) X.env) :: starEach [] X.env) (hpl : (backTo pos (starEach [.Name z pz] X.env)).any (·.1) = false) :
    DE X nm (.Call (.Name x p) [y, .Name z pz] [] pos) (wE C (.isi t a)) := by
  obtain ⟨rfl, hg, ho⟩ := nameB_ok hn
  obtain ⟨rfl, hg2, ho2⟩ := nameB_ok hz
  obtain ⟨hdb, _, hnn⟩ := okN_d ho
  obtain ⟨hdb2, _, hnn2⟩ := okN_d ho2
  have hm : X.mg (Str.ofString "isinstance") = none := mem_blt k (by simp [bltS])
  have hm2 : X.mg t.s = none := mem_blt k (by cases t <;> simp [bltS, Ty1.s, Ty1.tn])
  have hb : bootBuiltins t.s = some (.type t.tn) := by cases t <;> decide +kernel
  have pz' : PE X (.Name t.s pz) (tC (.ty t.tn)) := pe_bltn hg2 hm2 hb rfl hnn2 hdb2
  have ci : CallR X (.builtin "isinstance") (fun xs H Q => ∃ (v : V) (m : List Addr) (h : AH) (d : D) (b : Bool), xs = [v, .ty t.tn] ∧ RV X.K H m v d ∧ D.isTy t d = some b ∧ Q (.bl b) H) := by
    intro pins s σ H xs us Q I rv hq
    obtain ⟨v, m, h, d, b, rfl, r, e, q⟩ := hq
    obtain ⟨u, u2, rfl, r1, r2⟩ := vals2 rv
    cases r2
    exact isi_ok (h := h) t I r1 r e fun tk => ⟨.bl b, H, I.tok _, rfl, q⟩
  refine PE.imp (pe_callB ci hg hm (by decide +kernel) (pa_cons ha (pa_cons pz' pa_nil he2) he) hnn hdb he hpl) fun σ H Q q => ?_
  obtain ⟨sa, m, h, Qa, Ea, rs, rh, w, tk, fin⟩ := q
  simp only [wE] at w
  refine ⟨sa, m, h, _, Ea, rs, rh, w, tk, fun v H1 m1 d1 h1 rv rh1 ex1 q1 => ?_⟩
  obtain ⟨b, e, q⟩ := q1
  exact ⟨v, m1, h1, d1, b, rfl, rv, e, fin _ _ _ _ _ (.bl _) rh1 ex1 q⟩

/-! ### built-in methods -/
def bmId : Bm → D → String
  | .append, _ => "list.append"
  | .extend, _ => "list.extend"
  | .pop, _ => "list.pop"
  | .remove, _ => "list.remove"
  | .index, d => ixId d
def bmTy : Bm → D → String
  | .index, .tup _ => "tuple"
  | _, _ => "list"
/-- the object, where its method is looked up -/
theorem bm_on {f : Bm} {pins : List (Addr × Obj)} {s : Shared} {σ : L2.St} {H : Hp} {m : List Addr} {h : AH} {d : D} {x : V} {v : Value} (I : Inv X pins σ H s) (rh : RH X.K nm H m h) (r : RV X.K H m x d) (rx : RelV x v) (t : bmT h f d) :
    PlainAttrs (bmTy f d) ∧ Slot (bmTy f d) (bmN f) (bmId f d) ∧ typeOf (.builtin (bmId f d)) = pure (.type "method_descriptor") ∧ s.TypeIs v (bmTy f d) ∧ ∀ a, v = .ref a → ∃ ob, s.heap.get? a = some ob ∧ ob.dict = none := by
  have lst : ∀ {a : Addr} {xs : List V}, SqL X.K H a xs → s.TypeIs (.ref a) "list" ∧ ∀ b, Value.ref a = .ref b → ∃ ob, s.heap.get? b = some ob ∧ ob.dict = none := by
    intro a xs hs
    obtain ⟨its, _, ⟨o, n, ho, hc, hdn, _⟩, _⟩ := I.list hs
    exact ⟨⟨o, ho, hc⟩, fun b e => by cases e; exact ⟨o, ho, hdn⟩⟩
  have ref : ∀ n, d = .ref n → (∃ xs, h[n]? = some (.lst xs)) → s.TypeIs v "list" ∧ ∀ b, v = .ref b → ∃ ob, s.heap.get? b = some ob ∧ ob.dict = none := by
    rintro n rfl ⟨xs, e⟩
    obtain ⟨a, ws, rfl, hm, hH, rz⟩ := the_lst rh r e
    cases rx
    exact lst (SqL.of hH)
  cases f with
  | append =>
    cases d with
    | ref n => exact ⟨PySem.F.plainAttrs_list, PySem.F.slot_list_append, PySem.F.type_list_append, ref n rfl t⟩
    | _ => exact t.elim
  | extend =>
    cases d with
    | ref n => exact ⟨PySem.F.plainAttrs_list, PySem.F.slot_list_extend, PySem.F.type_list_extend, ref n rfl t⟩
    | _ => exact t.elim
  | pop =>
    cases d with
    | ref n => exact ⟨PySem.F.plainAttrs_list, PySem.F.slot_list_pop, PySem.F.type_list_pop, ref n rfl t⟩
    | _ => exact t.elim
  | remove =>
    cases d with
    | ref n => exact ⟨PySem.F.plainAttrs_list, PySem.F.slot_list_remove, PySem.F.type_list_remove, ref n rfl t⟩
    | _ => exact t.elim
  | index =>
    obtain ⟨zs, e⟩ := t
    cases d with
    | tup xs =>
      refine ⟨PySem.F.plainAttrs_tuple, PySem.F.slot_tuple_index, PySem.F.type_tuple_index, ?_⟩
      cases r with
      | @tup a ws _ hs rs =>
        cases rx
        rcases hs with ⟨o, hH, hd⟩ | ⟨o, its, n, hk, hc, hd, _⟩
        · obtain ⟨ho, _, its, _, ⟨o', ho', hc, _⟩⟩ := I.hok a _ hH
          rw [ho] at ho'; cases ho'
          exact ⟨⟨o, ho, hc⟩, fun b e => by cases e; exact ⟨o, ho, hd⟩⟩
        · exact ⟨⟨o, I.kIn a o hk, hc⟩, fun b e => by cases e; exact ⟨o, I.kIn a o hk, hd⟩⟩
    | rol xs =>
      refine ⟨PySem.F.plainAttrs_list, PySem.F.slot_list_index, PySem.F.type_list_index, ?_⟩
      cases r with
      | rol hs rs => cases rx; exact lst hs.sq
    | ref n =>
      refine ⟨PySem.F.plainAttrs_list, PySem.F.slot_list_index, PySem.F.type_list_index, ref n rfl ?_⟩
      cases q2 : h[n]? with
      | none => simp [itemsOf, q2] at e
      | some ob =>
        cases ob with
        | lst zs => exact ⟨zs, rfl⟩
        | _ => simp [itemsOf, q2] at e
    | _ => simp [itemsOf] at e
theorem bm_call {f : Bm} (hu : X.A.units + 65 < cLine) {pins : List (Addr × Obj)} {s : Shared} {σ : L2.St} {H : Hp} {m : List Addr} {h : AH} {d : D} {x : V} {v : Value} {xs : List V} {us : List Value} {ds : List D} {Q : VK} {Qa : QD} (I : Inv X pins σ H s) (rh : RH X.K nm H m h) (r : RV X.K H m x d) (rx : RelV x v)
    (rs : RVs X.K H m xs ds) (rv : Vals xs us) (w : bmW h f d ds Qa) (fin : ∀ v H' m' d' h', RV X.K H' m' v d' → RH X.K nm H' m' h' → Ext H m H' m' → Qa d' h' → Q v H') :
    wpAny (model X.prog X.w) X.A (call (.builtin (bmId f d)) (v :: us)) (EP X pins σ Q) X.xe s := by
  cases f with
  | append => exact bm_append pins s σ H x xs v us Q I rx rv ⟨m, h, d, ds, Qa, r, rs, rh, w, fin⟩
  | extend => exact bm_extend pins s σ H x xs v us Q I rx rv ⟨m, h, d, ds, Qa, r, rs, rh, w, fin⟩
  | pop => exact bm_pop pins s σ H x xs v us Q I rx rv ⟨m, h, d, ds, Qa, r, rs, rh, w, fin⟩
  | remove => exact bm_remove pins s σ H x xs v us Q I rx rv ⟨m, h, d, ds, Qa, r, rs, rh, w, fin⟩
  | index =>
    match ds, w with
    | [y], w =>
      obtain ⟨zs, e, oy, od, j, hj, q⟩ := w
      obtain ⟨yv, rfl, ry⟩ := rvs1 rs
      obtain ⟨u, rfl, ru⟩ := vals1 rv
      exact bm_index (nm := nm) hu I rh r rx e ry ru oy od hj (fin _ _ _ _ _ (.int _) rh .refl q)
theorem de_bm {f : Bm} {o as : M} {x : Expr} {e : Expr} {es : List Expr} {apos cpos : Pos} (k : Ct X nm G C) (ho : DE X nm x (wE C o)) (ha : PA X (e :: es) (LA X nm (wA C as)))
    (hbase : attributeBase x (bmN f) X.env (eval x X.env) = eval x X.env)
    (hfew : ((backTo cpos (starEach (e :: es) X.env)).all (fun x => !x.1) && (backToKw cpos (keywordEach [] X.env)).all (fun x => x.1.isSome)
      && decide ((e :: es).length + ([] : List Keyword).length + (if ([] : List Keyword).isEmpty then 0 else 1) < 30)) = true)
    (hline : (apos.endLine == cpos.line) = true) (hs : starEach (e :: es) X.env = (false, eval e X.env) :: starEach es X.env) (hplain : (backTo cpos (starEach es X.env)).any (·.1) = false) :
    DE X nm (.Call (.Attribute x (bmN f) apos) (e :: es) [] cpos) (wE C (.bm f o as)) := by
  refine ⟨fun pins s σ H Q I q => ?_⟩
  obtain ⟨sa, m, h, Qa, Ea, rs, rh, w, tk, fin⟩ := q
  simp only [wE] at w
  refine wpAny_Call_method_late hbase hfew hline rfl (thn (ho.run pins s σ H (fun v H1 => ∃ m1 d h1, RV X.K H1 m1 v d ∧ RH X.K nm H1 m1 h1 ∧ Ext H m H1 m1 ∧ bmT h1 f d ∧ wA C as sa h1 (fun ds h2 => bmW h2 f d ds Qa) Ea) I
    ⟨sa, m, h, _, Ea, rs, rh, w, tk, fun v H1 m1 d h1 rv rh1 ex1 q1 => ⟨m1, d, h1, rv, rh1, ex1, q1⟩⟩) fun v s1 ⟨xv, H1, I1, r1, m1, d, h1, rv, rh1, ex1, t1, q1⟩ => ?_)
  obtain ⟨b1, b2, b3, b4, b5⟩ := bm_on I1 rh1 rv r1 t1
  refine ⟨bmTy f d, bmId f d, b1, b2, b3, b4, b5, ?_⟩
  have hA := ha.run cpos pins s1 σ H1 (fun vs H2 => ∃ m2 ds h2, RVs X.K H2 m2 vs ds ∧ RH X.K nm H2 m2 h2 ∧ Ext H1 m1 H2 m2 ∧ bmW h2 f d ds Qa) I1 ⟨sa, m1, h1, _, Ea, rs.ext ex1, rh1, q1, tk_ext tk ex1, fun vs H2 m2 ds h2 rvs rh2 ex2 q2 => ⟨m2, ds, h2, rvs, rh2, ex2, q2⟩⟩
  rw [hs] at hA ⊢
  refine Calls.callWith_builtin (by show (false || (backTo cpos (starEach es X.env)).any (·.1)) = false; rw [hplain] <;> rfl) (Calls.evalArgs_plain ?_)
  exact thn hA fun us s2 ⟨vs, H2, I2, r2, m2, ds, h2, rvs, rh2, ex2, q2⟩ => bm_call k.hu I2 rh2 (rv.ext ex2) r1 rvs r2 q2 fun v' H' m' d' h' r' rh' ex' q' => fin _ _ _ _ _ r' rh' ((ex1.trans ex2).trans ex') q'
theorem de_bm0 {f : Bm} {o : M} {x : Expr} {apos cpos : Pos} (k : Ct X nm G C) (ho : DE X nm x (wE C o))
    (hbase : attributeBase x (bmN f) X.env (eval x X.env) = eval x X.env) (hline : (apos.endLine == cpos.line) = true) :
    DE X nm (.Call (.Attribute x (bmN f) apos) [] [] cpos) (wE C (.bm f o .nil)) := by
  refine ⟨fun pins s σ H Q I q => ?_⟩
  obtain ⟨sa, m, h, Qa, Ea, rs, rh, w, tk, fin⟩ := q
  simp only [wE, wA] at w
  refine wpAny_Call_method0_late hbase hline (thn (ho.run pins s σ H (fun v H1 => ∃ m1 d h1, RV X.K H1 m1 v d ∧ RH X.K nm H1 m1 h1 ∧ Ext H m H1 m1 ∧ bmT h1 f d ∧ bmW h1 f d [] Qa) I
    ⟨sa, m, h, _, Ea, rs, rh, w, tk, fun v H1 m1 d h1 rv rh1 ex1 q1 => ⟨m1, d, h1, rv, rh1, ex1, q1⟩⟩) fun v s1 ⟨xv, H1, I1, r1, m1, d, h1, rv, rh1, ex1, t1, q1⟩ => ?_)
  obtain ⟨b1, b2, b3, b4, b5⟩ := bm_on I1 rh1 rv r1 t1
  refine ⟨bmTy f d, bmId f d, b1, b2, b3, b4, b5, Calls.callWith_builtin rfl (PySem.evalArgs_none ?_)⟩
  exact bm_call k.hu I1 rh1 rv r1 .nil .nil q1 fun v' H' m' d' h' r' rh' ex' q' => fin _ _ _ _ _ r' rh' (ex1.trans ex') q'
end
end Rf

namespace Rf
open PySem PySem.Spec PyProof.Rows L2
section
variable {X : Cx} {nm : Nm} {G : Gi} {C : CT}
/-! ### tests -/
theorem tru_V {H : Hp} {m : List Addr} {h : AH} {v : V} {d : D} {Q : Bool → Prop} (rh : RH X.K nm H m h) (r : RV X.K H m v d) (w : truW h d Q) : ∃ k, TruV X.K v H k ∧ Q k := by
  cases r with
  | non => exact ⟨false, rfl, w⟩
  | bl b => exact ⟨b, rfl, w⟩
  | int i => exact ⟨_, rfl, w⟩
  | str x =>
    refine ⟨_, ⟨by rw [mkS_len, ← SZ_line]; exact w.1, rfl⟩, ?_⟩
    have e : (((mkS x).length : Int) != 0) = !x.isEmpty := by rw [mkS_len]; cases x <;> simp [bne]; omega
    rw [e]; exact w.2
  | @tup a xs ds h1 h2 =>
    have e : (!xs.isEmpty) = !ds.isEmpty := by cases h2 <;> rfl
    exact ⟨_, .inr (.inl ⟨xs, h1.sqT, rfl⟩), by rw [e]; exact w⟩
  | @rol a xs ds h1 h2 =>
    have e : (!xs.isEmpty) = !ds.isEmpty := by cases h2 <;> rfl
    exact ⟨_, .inl ⟨xs, h1.sq, rfl⟩, by rw [e]; exact w⟩
  | wtup _ _ => exact w.elim
  | @ref a n hm =>
    simp only [truW] at w
    split at w
    · rename_i xs e
      obtain ⟨a', vs, e1, _, e2, rz⟩ := the_lst rh (.ref hm) e
      cases e1
      have e3 : (!vs.isEmpty) = !xs.isEmpty := by cases rz <;> rfl
      exact ⟨_, .inl ⟨vs, SqL.of e2, rfl⟩, by rw [e3]; exact w⟩
    · exact w.elim
theorem LT.tv {a : M} {e : Expr} (ha : DE X nm e (wE C a)) (he : ∀ whole, isTrue e X.env whole = (do let v ← whole; standAt e.pos; holding [v] (truthy v))) : PT X e (LT X nm (wT C (.tv a))) := by
  refine PT.imp (pt_truth ha he) fun σ H Q q => ?_
  obtain ⟨sa, m, h, Qa, Ea, rs, rh, w, tk, fin⟩ := q
  simp only [wT] at w
  refine ⟨sa, m, h, _, Ea, rs, rh, w, tk, fun v H1 m1 d1 h1 rv rh1 ex1 q1 => ?_⟩
  obtain ⟨k, t, q⟩ := tru_V rh1 rv q1
  exact ⟨k, t, fin _ _ _ _ rh1 ex1 q⟩
theorem dt_cmp {op : Cop} {a b : M} {l r : Expr} {pos : Pos} (c : Ct X nm G C) (hn : notSet r = true) (ha : DE X nm l (wE C a)) (hb : DE X nm r (wE C b)) : PT X (.Compare l [op.op] [r] pos) (LT X nm (wT C (.cmp op a b))) := by
  refine PT.imp (pt_cmpR (op_cmp (nm := nm) op c.hu) ha hb (nm_ok hn)) fun σ H Q q => ?_
  obtain ⟨sa, m, h, Qa, Ea, rs, rh, w, tk, fin⟩ := q
  simp only [wT] at w
  refine LE.op (X := X) (nm := nm) (r := cmpB op) ⟨sa, m, h, fun d h' => boolOf d fun b => Qa b h', Ea, rs, rh, w, tk, fun v H1 m1 d1 h1 rv rh1 ex1 q1 => ?_⟩
  cases rv with
  | bl b => exact ⟨b, rfl, fin _ _ _ _ rh1 ex1 q1⟩
  | _ => exact q1.elim
theorem dt_ch {o1 o2 : Cop} {a b c : M} {l r t : Expr} {pos : Pos} (k : Ct X nm G C) (hn : notSet t = true) (ha : DE X nm l (wE C a)) (hb : DE X nm r (wE C b)) (hc : DE X nm t (wE C c)) : PT X (.Compare l [o1.op, o2.op] [r, t] pos) (LT X nm (wT C (.ch o1 o2 a b c))) := by
  refine PT.imp (pt_chain (op_cmp (nm := nm) o1 k.hu) (op_cmp (nm := nm) o2 k.hu) ha hb hc (by show behindInMarks o2.op t = false; exact nm_ok hn)) fun σ H Q q => ?_
  obtain ⟨sa, m, h, Qa, Ea, rs, rh, w, tk, fin⟩ := q
  simp only [wT] at w
  refine ch_read (Qa := fun d h' => boolOf d fun b => Qa b h') rs rh w tk fun v H1 m1 d1 h1 rv rh1 ex1 q1 => ?_
  cases rv with
  | bl b => exact ⟨b, rfl, fin _ _ _ _ rh1 ex1 q1⟩
  | _ => exact q1.elim
theorem dt_not {a : M} {x : Expr} {pos : Pos} (ha : PT X x (LT X nm (wT C a))) : PT X (.UnaryOp .Not x pos) (LT X nm (wT C (.not a))) := by
  refine PT.imp (pt_not ha) fun σ H Q q => ?_
  obtain ⟨sa, m, h, Qa, Ea, rs, rh, w, tk, fin⟩ := q
  simp only [wT] at w
  exact ⟨sa, m, h, _, Ea, rs, rh, w, tk, fun t H1 m1 h1 rh1 ex1 q1 => fin _ _ _ _ rh1 ex1 q1⟩
theorem tand {a b : M} {σ : L2.St} {H : Hp} {Q : Bool → Hp → Prop} (q : LT X nm (wT C (.and a b)) σ H Q) : tAnd (LT X nm (wT C a)) (LT X nm (wT C b)) σ H Q := by
  obtain ⟨sa, m, h, Qa, Ea, rs, rh, w, tk, fin⟩ := q
  simp only [wT] at w
  refine ⟨sa, m, h, _, Ea, rs, rh, w, tk, fun t H1 m1 h1 rh1 ex1 q1 => ?_⟩
  cases t with
  | true =>
    simp only [if_true] at q1 ⊢
    exact ⟨sa, m1, h1, _, Ea, rs.ext ex1, rh1, q1, tk_ext tk ex1, fun t2 H2 m2 h2 rh2 ex2 q2 => fin _ _ _ _ rh2 (ex1.trans ex2) q2⟩
  | false => simp only [Bool.false_eq_true, if_false] at q1 ⊢; exact fin _ _ _ _ rh1 ex1 q1
theorem tor {a b : M} {σ : L2.St} {H : Hp} {Q : Bool → Hp → Prop} (q : LT X nm (wT C (.or a b)) σ H Q) : tOr (LT X nm (wT C a)) (LT X nm (wT C b)) σ H Q := by
  obtain ⟨sa, m, h, Qa, Ea, rs, rh, w, tk, fin⟩ := q
  simp only [wT] at w
  refine ⟨sa, m, h, _, Ea, rs, rh, w, tk, fun t H1 m1 h1 rh1 ex1 q1 => ?_⟩
  cases t with
  | false =>
    simp only [Bool.false_eq_true, if_false] at q1 ⊢
    exact ⟨sa, m1, h1, _, Ea, rs.ext ex1, rh1, q1, tk_ext tk ex1, fun t2 H2 m2 h2 rh2 ex2 q2 => fin _ _ _ _ rh2 (ex1.trans ex2) q2⟩
  | true => simp only [if_true] at q1 ⊢; exact fin _ _ _ _ rh1 ex1 q1
theorem dt_and {a b : M} {x y : Expr} {rest : List Expr} {pos : Pos} (ha : PT X x (LT X nm (wT C a))) (hb : PW X (.BoolOp .And (y :: rest) pos) (LT X nm (wT C b))) : PW X (.BoolOp .And (x :: y :: rest) pos) (LT X nm (wT C (.and a b))) := PW.imp (pw_and ha hb) fun _ _ _ q => tand q
theorem dt_or {a b : M} {x y : Expr} {rest : List Expr} {pos : Pos} (ha : PT X x (LT X nm (wT C a))) (hb : PW X (.BoolOp .Or (y :: rest) pos) (LT X nm (wT C b))) : PW X (.BoolOp .Or (x :: y :: rest) pos) (LT X nm (wT C (.or a b))) := PW.imp (pw_or ha hb) fun _ _ _ q => tor q

/-! ### what is walked -/
/-- a value's walk, whatever it is -/
theorem pi_any {tg l : Expr} {tl : TE} (hl : PE X l tl) : PI X tg l (fun σ H R => tl σ H fun x H1 => (∃ a, x = .ref a ∧ (∃ xs, SqL X.K H1 a xs) ∧ R (Itl X.K a) H1) ∨ (∃ a, x = .ref a ∧ (∃ xs, SqT X.K H1 a xs) ∧ R (Itt X.K a) H1) ∨ ∃ z, x = .str z ∧ R (Its z) H1) := by
  refine ⟨fun pins s σ H R I h => ?_⟩
  refine thn (hl.run pins s σ H _ I h) fun v s1 ⟨x, H1, I1, r1, q1⟩ => ?_
  rcases q1 with ⟨a, rfl, ⟨xs, hq⟩, q⟩ | ⟨a, rfl, ⟨xs, hq⟩, q⟩ | ⟨z, rfl, q⟩
  · cases r1
    obtain ⟨its, rv, p, hz⟩ := I1.list hq
    refine wpAny_pyIter_list p.isList ?_
    refine ⟨s1.heap.objs.size, [s1.heap.objs.size], _, _, H1, rfl, I1.kept (t' := s1.toks) fun b o e => Heap.get?_push_of_some _ e, turn_list a _, ⟨_, Heap.get?_push_size _ rfl, rfl, rfl⟩, fun b hb => ?_, q⟩
    have e : b = s1.heap.objs.size := by simpa using hb
    subst e
    exact I1.fpOk (Nat.le_refl _) (I1.hok.fresh (Nat.le_refl _))
  · cases r1
    obtain ⟨its, rv, p, hz⟩ := I1.tuple hq
    refine wpAny_pyIter_tuple (show s1.heap.IsTuple a its.toArray from p) ?_
    refine ⟨s1.heap.objs.size, [s1.heap.objs.size], _, _, H1, rfl, I1.kept (t' := s1.toks) fun b o e => Heap.get?_push_of_some _ e, turn_tuple a _, ⟨_, Heap.get?_push_size _ rfl, rfl, rfl⟩, fun b hb => ?_, q⟩
    have e : b = s1.heap.objs.size := by simpa using hb
    subst e
    exact I1.fpOk (Nat.le_refl _) (I1.hok.fresh (Nat.le_refl _))
  · obtain ⟨t, rfl⟩ := r1
    cases ha : z.cps.all (· < 128)
    · exact wpAny_pyIter_wide ha (pi_one (tk := s1.toks) I1 _ (turn_str _ z t "str_iterator" (.inr rfl)) ⟨_, Heap.get?_push_size _ rfl, rfl, rfl⟩ q)
    · exact wpAny_pyIter_ascii ha (pi_one (tk := s1.toks) I1 _ (turn_str _ z t "str_ascii_iterator" (.inl rfl)) ⟨_, Heap.get?_push_size _ rfl, rfl, rfl⟩ q)
theorem di_itv {tg e : Expr} {a : M} (ha : DE X nm e (wE C a)) : PI X tg e (LI X nm (wI C (.itv a))) := by
  refine PI.imp (pi_any ha) fun σ H R q => ?_
  obtain ⟨sa, m, h, Qa, Ea, rs, rh, w, tk, fin⟩ := q
  simp only [wI] at w
  refine ⟨sa, m, h, _, Ea, rs, rh, w, tk, fun v H1 m1 d1 h1 rv rh1 ex1 q1 => ?_⟩
  cases rv with
  | @tup a xs ds h1' h2 => exact .inr (.inl ⟨a, rfl, ⟨xs, h1'.sqT⟩, fin _ _ _ _ _ (rit_tup h1'.sqT h2) rh1 ex1 q1⟩)
  | @rol a xs ds h1' h2 => exact .inl ⟨a, rfl, ⟨xs, h1'.sq⟩, fin _ _ _ _ _ (rit_rol h1' h2) rh1 ex1 q1⟩
  | str x => exact .inr (.inr ⟨_, rfl, fin _ _ _ _ _ rit_str rh1 ex1 q1⟩)
  | @ref a n hm =>
    simp only [itW] at q1
    split at q1
    · rename_i xs e
      obtain ⟨a', e1, hx, ri⟩ := rit_lst rh1 (.ref hm) e
      cases e1
      exact .inl ⟨a, rfl, hx, fin _ _ _ _ _ ri rh1 ex1 q1⟩
    · exact q1.elim
  | _ => exact q1.elim
theorem di_rng1 {tg y : Expr} {x : Str} {p pos : Pos} {a : M} (k : Ct X nm G C) (hn : nameB X.env.scope (Str.ofString "range") x = true) (ha : DE X nm y (wE C a)) (hs : starEach [y] X.env = [(false, eval y X.env)]) :
    PI X tg (.Call (.Name x p) [y] [] pos) (LI X nm (wI C (.rng1 a))) := by
  obtain ⟨rfl, hg, _⟩ := nameB_ok hn
  refine PI.imp (pi_range1 hg (k.blt _ (by simp [bltS])) (pa_cons ha pa_nil (by rw [hs]; rfl)) hs) fun σ H R q => ?_
  obtain ⟨sa, m, h, Qa, Ea, rs, rh, w, tk, fin⟩ := q
  simp only [wI] at w
  refine ⟨sa, m, h, _, Ea, rs, rh, w, tk, fun v H1 m1 d1 h1 rv rh1 ex1 q1 => ?_⟩
  cases rv with
  | int i => exact ⟨i, rfl, q1.1.1, q1.1.2, fin _ _ _ _ _ (rit_range 0 _) rh1 ex1 q1.2⟩
  | _ => exact q1.elim
theorem di_rng2 {tg y z : Expr} {x : Str} {p pos : Pos} {a b : M} (k : Ct X nm G C) (hn : nameB X.env.scope (Str.ofString "range") x = true) (ha : DE X nm y (wE C a)) (hb : DE X nm z (wE C b)) (hs : starEach [y, z] X.env = [(false, eval y X.env), (false, eval z X.env)]) (hs2 : starEach [z] X.env = [(false, eval z X.env)]) :
    PI X tg (.Call (.Name x p) [y, z] [] pos) (LI X nm (wI C (.rng2 a b))) := by
  obtain ⟨rfl, hg, _⟩ := nameB_ok hn
  refine PI.imp (pi_range2 hg (k.blt _ (by simp [bltS])) (pa_cons ha (pa_cons hb pa_nil (by rw [hs2]; rfl)) (by rw [hs, hs2])) hs hs2) fun σ H R q => ?_
  obtain ⟨sa, m, h, Qa, Ea, rs, rh, w, tk, fin⟩ := q
  simp only [wI] at w
  refine ⟨sa, m, h, _, Ea, rs, rh, w, tk, fun v H1 m1 d1 h1 rv rh1 ex1 q1 => ⟨sa, m1, h1, _, Ea, rs.ext ex1, rh1, q1, tk_ext tk ex1, fun v2 H2 m2 d2 h2 rv2 rh2 ex2 q2 => ?_⟩⟩
  cases rv with
  | int i => cases rv2 with
    | int j => exact ⟨i, j, rfl, q2.1, fin _ _ _ _ _ (rit_range i _) rh2 (ex1.trans ex2) q2.2⟩
    | _ => exact q2.elim
  | _ => exact q2.elim
end
end Rf

namespace Rf
open PySem PySem.Spec PyProof.Rows L2
section
variable {X : Cx} {nm : Nm} {G : Gi} {C : CT}
/-- a sequence as a source -/
structure SrcIs (K : PySem.W.Frag) (nm : Nm) (H : Hp) (m : List Addr) (c : Src) (it : It) : Prop where
  at_ : ∀ (H2 : Hp) (m2 : List Addr) (h2 : AH), Ext H m H2 m2 → RH K nm H2 m2 h2 → it.ck h2 → ∃ xs, c.sq K H2 xs ∧ RVs K H2 m2 xs it.xs
theorem src_of {H : Hp} {m : List Addr} {h : AH} {v : V} {d : D} {Q : It → Prop} (rh : RH X.K nm H m h) (r : RV X.K H m v d) (w : seqW h d Q) : ∃ c it, v = .ref (Src.a c) ∧ SrcIs X.K nm H m c it ∧ it.ck h ∧ Q it := by
  cases r with
  | @tup a xs ds h1 h2 => exact ⟨.tup a, _, rfl, ⟨fun H2 m2 h2' ex rh2 _ => ⟨xs, ex.sqT h1.sqT, h2.ext ex⟩⟩, trivial, w⟩
  | @rol a xs ds h1 h2 => exact ⟨.lst a, _, rfl, ⟨fun H2 m2 h2' ex rh2 _ => ⟨xs, (ex.sqF h1).sq, h2.ext ex⟩⟩, trivial, w⟩
  | @ref a n hm =>
    simp only [seqW] at w
    split at w
    · rename_i xs e
      refine ⟨.lst a, _, rfl, ⟨fun H2 m2 h2' ex rh2 ck => ?_⟩, e, w⟩
      obtain ⟨a', ws, e1, _, e2, rw'⟩ := the_lst rh2 (.ref (ex.get hm)) ck
      cases e1
      exact ⟨ws, SqL.of e2, rw'⟩
    · exact w.elim
  | _ => exact w.elim
theorem rit_enum {H : Hp} {m : List Addr} {c : Src} {it : It} (s : SrcIs X.K nm H m c it) : RIt X.K nm H m (IteG X.K c) ⟨enumL it.xs, it.ck⟩ := by
  refine ⟨fun H2 m2 h2 ex rh2 ck => ?_⟩
  obtain ⟨xs, hq, rx⟩ := s.at_ H2 m2 h2 ex rh2 ck
  have hl := rx.length
  refine ⟨fun i d hd => ?_, ⟨xs, hq, by simp [enumL, hl]⟩⟩
  have hi : i < it.xs.length := by
    have := (List.getElem?_eq_some_iff.mp hd).1
    simpa [enumL] using this
  have hd2 : it.xs[i]? = some it.xs[i] := List.getElem?_eq_getElem hi
  obtain ⟨w, e3, rw2⟩ := rx.get hd2
  have ed : d = .wtup [.int (i : Int), it.xs[i]] := by
    simp only [enumL, List.getElem?_map, List.getElem?_zipIdx, hd2] at hd
    simpa using hd.symm
  subst ed
  refine ⟨⟨xs, w, hq, e3⟩, fun x H3 y => ?_⟩
  obtain ⟨T, x', rfl, hT, rfl, y⟩ := y
  have := y xs hq
  rw [e3] at this
  cases this
  exact new_wtup rh2 hT (.cons (.int _) (.cons rw2 .nil))
theorem rit_zip {H : Hp} {m : List Addr} {a b : Src} {i1 i2 : It} (s : SrcIs X.K nm H m a i1) (t : SrcIs X.K nm H m b i2) : RIt X.K nm H m (ItzG X.K a b) ⟨zipL i1.xs i2.xs, fun h => i1.ck h ∧ i2.ck h⟩ := by
  refine ⟨fun H2 m2 h2 ex rh2 ck => ?_⟩
  obtain ⟨xs, hq, rx⟩ := s.at_ H2 m2 h2 ex rh2 ck.1
  obtain ⟨ys, hq2, ry⟩ := t.at_ H2 m2 h2 ex rh2 ck.2
  have hl := rx.length
  have hl2 := ry.length
  refine ⟨fun i d hd => ?_, ⟨xs, ys, hq, hq2, by simp [zipL, hl, hl2]⟩⟩
  have hi : i < min i1.xs.length i2.xs.length := by
    have := (List.getElem?_eq_some_iff.mp hd).1
    simpa [zipL] using this
  have hd1 : i1.xs[i]? = some i1.xs[i] := List.getElem?_eq_getElem (by omega)
  have hd2 : i2.xs[i]? = some i2.xs[i] := List.getElem?_eq_getElem (by omega)
  obtain ⟨w, e3, rw2⟩ := rx.get hd1
  obtain ⟨w', e4, rw3⟩ := ry.get hd2
  have ed : d = .wtup [i1.xs[i], i2.xs[i]] := by
    simp only [zipL, List.getElem?_map, List.getElem?_zip_eq_some, List.zip, List.getElem?_zipWith, hd1, hd2] at hd
    simpa using hd.symm
  subst ed
  refine ⟨⟨xs, ys, w, w', hq, hq2, e3, e4⟩, fun x H3 y => ?_⟩
  obtain ⟨T, x', y', rfl, hT, rfl, y1, y2⟩ := y
  have e5 := y1 xs hq
  have e6 := y2 ys hq2
  rw [e3] at e5
  rw [e4] at e6
  cases e5
  cases e6
  exact new_wtup rh2 hT (.cons rw2 (.cons rw3 .nil))
theorem di_enum {elts : List Expr} {kk : Nat} {tpos : Pos} {y : Expr} {x : Str} {p pos : Pos} {a : M} (k : Ct X nm G C) (hn : nameB X.env.scope (Str.ofString "enumerate") x = true) (ha : DE X nm y (wE C a)) (hs : starEach [y] X.env = [(false, eval y X.env)]) :
    PI X (.Tuple elts kk tpos) (.Call (.Name x p) [y] [] pos) (LI X nm (wI C (.enum a))) := by
  obtain ⟨rfl, hg, _⟩ := nameB_ok hn
  refine PI.imp (pi_enumG hg (k.blt _ (by simp [bltS])) (pa_cons ha pa_nil (by rw [hs]; rfl)) hs) fun σ H R q => ?_
  obtain ⟨sa, m, h, Qa, Ea, rs, rh, w, tk, fin⟩ := q
  simp only [wI] at w
  refine ⟨sa, m, h, _, Ea, rs, rh, w, tk, fun v H1 m1 d1 h1 rv rh1 ex1 q1 => ?_⟩
  obtain ⟨c, it, rfl, si, ck, q⟩ := src_of rh1 rv q1
  obtain ⟨xs, hq, _⟩ := si.at_ H1 m1 h1 .refl rh1 ck
  exact ⟨c, xs, rfl, hq, fin _ _ _ _ _ (rit_enum si) rh1 ex1 q⟩
theorem di_zip {elts : List Expr} {kk : Nat} {tpos : Pos} {y z : Expr} {x : Str} {p pos : Pos} {a b : M} (k : Ct X nm G C) (hn : nameB X.env.scope (Str.ofString "zip") x = true) (ha : DE X nm y (wE C a)) (hb : DE X nm z (wE C b)) (hs : starEach [y, z] X.env = (false, eval y X.env) :: starEach [z] X.env) (hs2 : starEach [z] X.env = (false, eval z X.env) :: starEach [] X.env)
    (hpl : (backTo pos (starEach [z] X.env)).any (·.1) = false) : PI X (.Tuple elts kk tpos) (.Call (.Name x p) [y, z] [] pos) (LI X nm (wI C (.zip a b))) := by
  obtain ⟨rfl, hg, _⟩ := nameB_ok hn
  refine PI.imp (pi_zipG hg (k.blt _ (by simp [bltS])) (pa_cons ha (pa_cons hb pa_nil hs2) hs) hs hpl) fun σ H R q => ?_
  obtain ⟨sa, m, h, Qa, Ea, rs, rh, w, tk, fin⟩ := q
  simp only [wI] at w
  refine ⟨sa, m, h, _, Ea, rs, rh, w, tk, fun v H1 m1 d1 h1 rv rh1 ex1 q1 => ⟨sa, m1, h1, _, Ea, rs.ext ex1, rh1, q1, tk_ext tk ex1, fun v2 H2 m2 d2 h2 rv2 rh2 ex2 q2 => ?_⟩⟩
  obtain ⟨c, it, rfl, si, ck, q3⟩ := src_of rh2 (rv.ext ex2) q2
  obtain ⟨c2, it2, rfl, si2, ck2, q4⟩ := src_of rh2 rv2 q3
  obtain ⟨xs, hq, _⟩ := si.at_ H2 m2 h2 .refl rh2 ck
  obtain ⟨ys, hq2, _⟩ := si2.at_ H2 m2 h2 .refl rh2 ck2
  exact ⟨c, c2, xs, ys, rfl, hq, hq2, fin _ _ _ _ _ (rit_zip si si2) rh2 (ex1.trans ex2) q4⟩

/-! ### targets -/
/-- a target's slot that may be stored -/
structure StOk (X : Cx) (i : Nat) (x : Str) : Prop where
  ix : X.N[i]? = some x
  loc : L2.Loc X.env.scope x
  fn : X.fn x = true ∨ X.env.scope.names.lookup x = some .local
/-- what stays of the slots -/
def Only' (is : List Nat) (σ σ' : L2.St) : Prop := ∀ vs, (∀ i ∈ is, i ∈ vs) → wipe σ' vs = wipe σ vs
def LG (X : Cx) (nm : Nm) (tg : Tg) : TG := fun v σ H Q =>
  ∃ sa m h d Qa, RS X.K H m σ sa ∧ RH X.K nm H m h ∧ RV X.K H m v d ∧ tgW tg d sa Qa ∧ ∀ σ' sa', RS X.K H m σ' sa' → Only' (tgSlots tg) σ σ' → Qa sa' → Q σ' H
theorem PG.imp {X : Cx} {e : Expr} {t t' : TG} (h : PG X e t) (i : ∀ v σ H Q, t' v σ H Q → t v σ H Q) : PG X e t' := ⟨fun pins s σ H v u Q I r q => h.run pins s σ H v u Q I r (i v σ H Q q)⟩
theorem wipe_set {σ : L2.St} {i : Nat} {x : Option V} : ∀ {vs : List Nat}, i ∈ vs → wipe (σ.set i x) vs = wipe σ vs
  | v :: vs, h => by
    unfold wipe
    by_cases e : i = v
    · subst e
      by_cases hm : i ∈ vs
      · rw [wipe_set hm]
      · have gen : ∀ (ws : List Nat) (τ : L2.St), i ∉ ws → wipe (τ.set i x) ws = (wipe τ ws).set i x := by
          intro ws
          induction ws with
          | nil => intro τ _; rfl
          | cons w ws ih =>
            intro τ hn
            unfold wipe
            rw [ih τ (fun z => hn (List.mem_cons_of_mem _ z)), List.set_comm _ _ (fun z => hn (by rw [z]; exact List.mem_cons_self))]
        rw [gen vs σ hm, List.set_set]
    · rw [wipe_set (List.mem_of_ne_of_mem e h)]
theorem dg_one {i : Nat} {x : Str} {p : Pos} (nd : X.N.Nodup) (o : StOk X i x) : PG X (.Name x p) (LG X nm (.one i)) := by
  refine PG.imp (pg_name nd o.ix o.loc o.fn) fun v σ H Q q => ?_
  obtain ⟨sa, m, h, d, Qa, rs, rh, rv, w, fin⟩ := q
  exact fin _ _ (rs.set rv) (fun vs hv => wipe_set (hv i (by simp [tgSlots]))) w
/-- several names -/
inductive NamesOk (X : Cx) : List Nat → List Expr → Prop
  | nil : NamesOk X [] []
  | cons {i : Nat} {x : Str} {p : Pos} {is : List Nat} {es : List Expr} : StOk X i x → NamesOk X is es → NamesOk X (i :: is) (.Name x p :: es)
theorem names_len : ∀ {is : List Nat} {es : List Expr}, NamesOk X is es → (assignEach es X.env).length = is.length ∧ (assignEach es X.env).findIdx? (·.1) = none
  | _, _, .nil => ⟨rfl, rfl⟩
  | _, _, .cons (i := i) (x := x) (p := p) (is := is) (es := es) _ r => by
    obtain ⟨h1, h2⟩ := names_len r
    have e : assignEach (.Name x p :: es) X.env = (false, assign (.Name x p) X.env) :: assignEach es X.env := rfl
    rw [e, List.length_cons, h1, List.findIdx?_cons, h2]
    exact ⟨rfl, rfl⟩
theorem dg_names (nd : X.N.Nodup) : ∀ {is : List Nat} {es : List Expr}, NamesOk X is es →
    PGs X es (fun xs σ H Q => ∃ (sa : Sa) (m : List Addr) (ds : List D) (Qa : Sa → Prop), RS X.K H m σ sa ∧ RVs X.K H m xs ds ∧ ds.length = is.length ∧ Qa (setAll sa is ds) ∧ ∀ σ' sa', RS X.K H m σ' sa' → Only' is σ σ' → Qa sa' → Q σ' H)
  | _, _, .nil => ⟨fun pins s σ H vs us Q I r h => by
      obtain ⟨sa, m, ds, Qa, rs, rv, hl, q, fin⟩ := h
      cases ds with
      | nil =>
        cases rv
        exact pgs_nil.run pins s σ H _ us Q I r ⟨rfl, fin _ _ rs (fun _ _ => rfl) q⟩
      | cons _ _ => simp at hl⟩
  | _, _, .cons (i := i) (x := x) (p := p) (is := is) (es := es) o rr => ⟨fun pins s σ H vs us Q I r h => by
      obtain ⟨sa, m, ds, Qa, rs, rv, hl, q, fin⟩ := h
      cases rv with
      | nil => simp at hl
      | @cons v vs d ds r1 r2 =>
        refine (pgs_cons (pg_name nd o.ix o.loc o.fn) (dg_names nd rr) rfl).run pins s σ H _ us Q I r ⟨v, vs, rfl, ?_⟩
        refine ⟨sa.set i (some d), m, ds, Qa, rs.set r1, r2, by simpa using hl, q, fun σ' sa' rs' on qa => fin σ' sa' rs' (fun ws hw => ?_) qa⟩
        rw [on ws (fun j hj => hw j (List.mem_cons_of_mem _ hj))]
        exact wipe_set (hw i List.mem_cons_self)⟩
theorem dg_many {is : List Nat} {es : List Expr} {kk : Nat} {p : Pos} (k : Ct X nm G C) (o : NamesOk X is es) : PG X (.Tuple es kk p) (LG X nm (.many is)) := by
  obtain ⟨h1, h2⟩ := names_len o
  refine PG.imp (pg_tup k.calm (dg_names k.nd o) h1 h2) fun v σ H Q q => ?_
  obtain ⟨sa, m, h, d, Qa, rs, rh, rv, w, fin⟩ := q
  cases rv with
  | @tup a xs ds hs r => exact ⟨a, xs, rfl, hs.sqT, by rw [r.length]; exact w.1, sa, m, ds, Qa, rs, r, w.1, w.2, fin⟩
  | @wtup a xs ds hs r => exact ⟨a, xs, rfl, hs, by rw [r.length]; exact w.1, sa, m, ds, Qa, rs, r, w.1, w.2, fin⟩
  | _ => exact w.elim
end
end Rf

namespace Rf
open PySem PySem.Spec PyProof.Rows L2
section
variable {X : Cx} {nm : Nm} {G : Gi} {C : CT}
/-! ### list comprehensions -/
def LTn (K : PySem.W.Frag) (nm : Nm) (w : Sa → AH → (Bool → AH → Prop) → Prop) : TT := fun σ H Q =>
  ∃ sa m h Qa, RS K H m σ sa ∧ RH K nm H m h ∧ w sa h Qa ∧ ∀ b H' m' h', RH K nm H' m' h' → Ext H m H' m' → Qa b h' → Q b H'
def LEn (K : PySem.W.Frag) (nm : Nm) (w : Sa → AH → QD → Prop) : TE := fun σ H Q =>
  ∃ sa m h Qa, RS K H m σ sa ∧ RH K nm H m h ∧ w sa h Qa ∧ ∀ v H' m' d h', RV K H' m' v d → RH K nm H' m' h' → Ext H m H' m' → Qa d h' → Q v H'
def LGn (K : PySem.W.Frag) (nm : Nm) (tg : Tg) : TG := fun v σ H Q =>
  ∃ sa m h d Qa, RS K H m σ sa ∧ RH K nm H m h ∧ RV K H m v d ∧ tgW tg d sa Qa ∧ ∀ σ' sa', RS K H m σ' sa' → Only' (tgSlots tg) σ σ' → Qa sa' → Q σ' H
theorem wipe_wipe {σ : L2.St} {vs : List Nat} : wipe (wipe σ vs) vs = wipe σ vs := by
  have key : ∀ (ws : List Nat) (τ : L2.St), (∀ i ∈ ws, i ∈ vs) → wipe (wipe τ ws) vs = wipe τ vs := by
    intro ws
    induction ws with
    | nil => intro τ _; rfl
    | cons w ws ih =>
      intro τ hw
      show wipe ((wipe τ ws).set w none) vs = wipe τ vs
      rw [wipe_set (hw w List.mem_cons_self), ih τ (fun i hi => hw i (List.mem_cons_of_mem _ hi))]
  exact key vs σ fun _ hi => hi
theorem RS.wipe {K : PySem.W.Frag} {H : Hp} {m : List Addr} {σ : L2.St} {s : Sa} (r : RS K H m σ s) : ∀ (vs : List Nat), RS K H m (L2.wipe σ vs) (wipeA s vs)
  | [] => r
  | v :: vs => by
    have ih := RS.wipe r vs
    unfold L2.wipe wipeA
    refine ⟨by simp [ih.1], fun i d e => ?_⟩
    by_cases hi : v = i
    · subst hi
      by_cases hv : v < (wipeA s vs).length
      · rw [List.getElem?_set_self hv] at e; cases e
      · rw [List.getElem?_eq_none (by simpa using hv)] at e; cases e
    · rw [List.getElem?_set_ne hi] at e
      obtain ⟨w, h1, h2⟩ := ih.2 i d e
      exact ⟨w, by rw [List.getElem?_set_ne hi]; exact h1, h2⟩
theorem lc_read {e : M} {tg : Tg} {src c : M} {own : List Nat} {σ : L2.St} {H : Hp} {Q : VK} (hsub : ∀ i ∈ tgSlots tg, i ∈ own) (q : LE X nm (wE C (.lc e tg src c own)) σ H Q) :
    tLc (LI X nm (wI C src)) (LGn X.K nm tg) (LTn X.K nm (fun s1 h2 Q1 => wT C c s1 h2 Q1 noE)) (LEn X.K nm (fun s1 h2 Q1 => wE C e s1 h2 Q1 noE)) own σ H Q := by
  obtain ⟨sa, m, h, Qa, Ea, rs, rh, w, tk, fin⟩ := q
  simp only [wE] at w
  refine ⟨sa, m, h, _, Ea, rs, rh, w, tk, fun J it H1 m1 h1 ri rh1 ex1 q1 D hD => ?_⟩
  have hDm : D ∉ m1 := rh1.fresh hD
  obtain ⟨W, hW⟩ : ∃ W : Nat → Nat → Hp → Prop, ∀ i n H', W i n H' ↔ (n = it.xs.length - i ∧ i ≤ it.xs.length ∧ ∃ m' h' acc vs, RH X.K nm H' m' h' ∧ Ext H1 m1 H' m' ∧ D ∉ m' ∧ H' D = some (.lst vs) ∧ RVs X.K H' m' vs acc ∧
    lcW it.ck tg (fun s1 h2 Q1 => wT C c s1 h2 Q1 noE) (fun s1 h2 Q1 => wE C e s1 h2 Q1 noE) (it.xs.drop i) acc (wipeA sa own) h' (fun ds h3 => Qa (.ref h3.length) (h3 ++ [.lst ds]))) := ⟨_, fun _ _ _ => Iff.rfl⟩
  refine ⟨W, ⟨it.xs.length, (hW _ _ _).mpr ⟨by simp, Nat.zero_le _, m1, h1, [], [], rh1.upd hD, Ext.side .refl hD, hDm, upd_same, .nil, by simpa using q1⟩⟩, ?_⟩
  intro i n H' w0
  obtain ⟨rfl, hi, m', h', acc, vs, rh', ex', hDm', hDv, rvs, lw⟩ := (hW _ _ _).mp w0
  by_cases hlt : i < it.xs.length
  · rw [List.drop_eq_getElem_cons hlt] at lw
    simp only [lcW] at lw
    obtain ⟨ck, tw⟩ := lw
    obtain ⟨ga, _⟩ := ri.at_ H' m' h' ex' rh' ck
    obtain ⟨go, yl⟩ := ga i _ (List.getElem?_eq_getElem hlt)
    refine .inr ⟨go, W (i + 1) (it.xs.length - (i + 1)), fun H2 w2 => ⟨it.xs.length - (i + 1), by omega, w2⟩, fun x H2 y => ?_⟩
    obtain ⟨rx, rh2, ex2⟩ := yl x H2 y
    have hDv2 : H2 D = some (.lst vs) := ex2.keep D _ hDm' hDv
    have rs2 : RS X.K H2 m' (wipe σ own) (wipeA sa own) := ((rs.ext ex1).ext (ex'.trans ex2)).wipe own
    refine ⟨wipeA sa own, m', h', _, _, rs2, rh2, rx, tw, fun σ' sa' rs' on qa => ⟨by rw [on own hsub, wipe_wipe], sa', m', h', _, rs', rh2, qa, fun b H4 m4 h4 rh4 ex4 q4 => ?_⟩⟩
    have hD4 : D ∉ m4 := by
      obtain ⟨t, e, ht⟩ := ex4.pre
      rw [e]
      intro z
      rcases List.mem_append.mp z with z | z
      · exact hDm' z
      · rw [ht D z] at hDv2; cases hDv2
    have hDv4 : H4 D = some (.lst vs) := ex4.keep D _ hDm' hDv2
    cases b with
    | false =>
      simp only [Bool.false_eq_true, if_false] at q4 ⊢
      exact (hW _ _ _).mpr ⟨rfl, hlt, m4, h4, acc, vs, rh4, (ex'.trans ex2).trans ex4, hD4, hDv4, rvs.ext (ex2.trans ex4), q4⟩
    | true =>
      simp only [if_true] at q4 ⊢
      refine ⟨sa', m4, h4, _, rs'.ext ex4, rh4, q4, fun y' H5 m5 d5 h5 rv5 rh5 ex5 ⟨hz, q5⟩ => ?_⟩
      have hD5 : D ∉ m5 := by
        obtain ⟨t, e, ht⟩ := ex5.pre
        rw [e]
        intro z
        rcases List.mem_append.mp z with z | z
        · exact hD4 z
        · rw [ht D z] at hDv4; cases hDv4
      have hDv5 : H5 D = some (.lst vs) := ex5.keep D _ hD4 hDv4
      have rvs5 := rvs.ext ((ex2.trans ex4).trans ex5)
      have x0 : Ext0 H5 m5 (upd H5 D (.lst (vs ++ [y']))) m5 := Ext0.side hDv5 (fun _ z => nomatch z) (fun _ _ z => nomatch z)
      refine ⟨vs, hDv5, by rw [rvs.length, ← SZ_line]; exact hz, (hW _ _ _).mpr ⟨rfl, hlt, m5, h5, acc ++ [d5], vs ++ [y'], rh5.side hD5 hDv5 (fun _ z => nomatch z) (fun _ _ z => nomatch z), (((ex'.trans ex2).trans ex4).trans ex5).side hD, hD5, upd_same, (rvs5.append (.cons rv5 .nil)).ext0 x0, q5⟩⟩
  · have e1 : i = it.xs.length := by omega
    subst e1
    rw [List.drop_length] at lw
    simp only [lcW] at lw
    obtain ⟨ck, qf⟩ := lw
    obtain ⟨_, st⟩ := ri.at_ H' m' h' ex' rh' ck
    refine .inl ⟨st, ?_⟩
    have hD0 : H D = none := ex1.alive D hD
    refine fin _ _ (m' ++ [D]) _ _ (.ref ?_) (rh'.join hDm' hDv rvs) ((ex1.trans ex').join hD0) qf
    rw [← rh'.len, List.getElem?_append_right (Nat.le_refl _)]
    simp
theorem de_lc {el x it t : Expr} {e : M} {tg : Tg} {src c : M} {own : List Nat} {ifs : List Expr} {scope : Scope} {pos : Pos} {ow : List (Str × Nat)} (k : Ct X nm G C) (how : ow.map (·.2) = own) (ok : BlkOk X.N X.env.scope scope ow) (hsub : ∀ i ∈ tgSlots tg, i ∈ own)
    (hi : PI X t it (LI X nm (wI C src))) (hs : ∀ x, foldedSetIterable it X.env x = pure x)
    (hg : ∀ (s : Shared) (H : Hp) (C : Addr) (cl : List (Str × Addr)) (fp : List Addr), PG (X.blk s H scope (compEnvC scope cl C X.env) fp) t (LG (X.blk s H scope (compEnvC scope cl C X.env) fp) nm tg))
    (ht : ∀ (s : Shared) (H : Hp) (C' : Addr) (cl : List (Str × Addr)) (fp : List Addr), PTs (X.blk s H scope (compEnvC scope cl C' X.env) fp) ifs (LT (X.blk s H scope (compEnvC scope cl C' X.env) fp) nm (wT C c)))
    (he : ∀ (s : Shared) (H : Hp) (C' : Addr) (cl : List (Str × Addr)) (fp : List Addr), DE (X.blk s H scope (compEnvC scope cl C' X.env) fp) nm el (wE C e)) :
    DE X nm (.ListComp el [⟨t, it, ifs, 0⟩] scope pos) (wE C (.lc e tg src c own)) := by
  subst how
  refine PE.imp (pe_lc (g := LGn X.K nm tg) (tt := LTn X.K nm (fun s1 h2 Q1 => wT C c s1 h2 Q1 noE)) (te := LEn X.K nm (fun s1 h2 Q1 => wE C e s1 h2 Q1 noE)) k.calm k.nd hi ok (fun s H C cl fp => hg s H C cl fp)
    (fun s H C' cl fp => ⟨fun pins s1 σ H1 Q I q => (ht s H C' cl fp).run pins s1 σ H1 Q I ?_⟩) (fun s H C' cl fp => PE.imp (he s H C' cl fp) fun σ H1 Q q => ?_) hs) fun σ H Q q => lc_read hsub q
  · obtain ⟨sa, m, h, Qa, rs, rh, w, fin⟩ := q
    exact ⟨sa, m, h, Qa, noE, rs, rh, w, tk_no, fin⟩
  · obtain ⟨sa, m, h, Qa, rs, rh, w, fin⟩ := q
    exact ⟨sa, m, h, Qa, noE, rs, rh, w, tk_no, fin⟩
/-- name = [..], stored by the comprehension itself -/
theorem ds_setLc {i : Nat} {y : Str} {py : Pos} {el it t : Expr} {e : M} {tg : Tg} {src c : M} {own : List Nat} {ifs : List Expr} {scope : Scope} {pos spos : Pos} {ow : List (Str × Nat)} (k : Ct X nm G C) (how : ow.map (·.2) = own) (ok : BlkOk X.N X.env.scope scope ow) (hsub : ∀ i ∈ tgSlots tg, i ∈ own)
    (hy : X.N[i]? = some y) (hyl : X.env.scope.names.lookup y = some .local) (hsw : swapsWith (.ListComp el [⟨t, it, ifs, 0⟩] scope pos) (some (.Name y py)) spos.line X.env = pure true)
    (hi : PI X t it (LI X nm (wI C src))) (hs : ∀ x, foldedSetIterable it X.env x = pure x)
    (hg : ∀ (s : Shared) (H : Hp) (C : Addr) (cl : List (Str × Addr)) (fp : List Addr), PG (X.blk s H scope (compEnvC scope cl C X.env) fp) t (LG (X.blk s H scope (compEnvC scope cl C X.env) fp) nm tg))
    (ht : ∀ (s : Shared) (H : Hp) (C' : Addr) (cl : List (Str × Addr)) (fp : List Addr), PTs (X.blk s H scope (compEnvC scope cl C' X.env) fp) ifs (LT (X.blk s H scope (compEnvC scope cl C' X.env) fp) nm (wT C c)))
    (he : ∀ (s : Shared) (H : Hp) (C' : Addr) (cl : List (Str × Addr)) (fp : List Addr), DE (X.blk s H scope (compEnvC scope cl C' X.env) fp) nm el (wE C e)) :
    PS X (.Assign [.Name y py] (.ListComp el [⟨t, it, ifs, 0⟩] scope pos) spos) (tAsg (LE X nm (wE C (.lc e tg src c own))) (gName i)) := by
  subst how
  refine PS.imp (ps_setLc (g := LGn X.K nm tg) (tt := LTn X.K nm (fun s1 h2 Q1 => wT C c s1 h2 Q1 noE)) (te := LEn X.K nm (fun s1 h2 Q1 => wE C e s1 h2 Q1 noE)) k.calm k.nd hy hyl hsw hi ok (fun s H C cl fp => hg s H C cl fp)
    (fun s H C' cl fp => ⟨fun pins s1 σ H1 Q I q => (ht s H C' cl fp).run pins s1 σ H1 Q I ?_⟩) (fun s H C' cl fp => PE.imp (he s H C' cl fp) fun σ H1 Q q => ?_) hs) fun D σ H q => lc_read hsub q
  · obtain ⟨sa, m, h, Qa, rs, rh, w, fin⟩ := q
    exact ⟨sa, m, h, Qa, noE, rs, rh, w, tk_no, fin⟩
  · obtain ⟨sa, m, h, Qa, rs, rh, w, fin⟩ := q
    exact ⟨sa, m, h, Qa, noE, rs, rh, w, tk_no, fin⟩
end
end Rf

namespace Rf
open PySem PySem.Spec PyProof.Rows L2
section
variable {X : Cx} {nm : Nm} {G : Gi} {C : CT}
/-! ### statements -/
structure LEnd (X : Cx) (nm : Nm) (H : Hp) (m : List Addr) (Z : En) (D : Ends) : Prop where
  nx : ∀ σ' sa' H' m' h', RS X.K H' m' σ' sa' → RH X.K nm H' m' h' → Ext H m H' m' → Z.nx sa' h' → D.nx σ' H'
  rt : ∀ v H' m' d h', RV X.K H' m' v d → RH X.K nm H' m' h' → Ext H m H' m' → Z.rt d h' → D.rt v H'
  bk : ∀ σ' sa' H' m' h', RS X.K H' m' σ' sa' → RH X.K nm H' m' h' → Ext H m H' m' → Z.bk sa' h' → D.bk σ' H'
  ct : ∀ σ' sa' H' m' h', RS X.K H' m' σ' sa' → RH X.K nm H' m' h' → Ext H m H' m' → Z.ct sa' h' → D.ct σ' H'
theorem LEnd.ext {H H' : Hp} {m m' : List Addr} {Z : En} {D : Ends} (l : LEnd X nm H m Z D) (x : Ext H m H' m') : LEnd X nm H' m' Z D :=
  ⟨fun σ' sa' H2 m2 h2 a b e q => l.nx σ' sa' H2 m2 h2 a b (x.trans e) q, fun v H2 m2 d h2 a b e q => l.rt v H2 m2 d h2 a b (x.trans e) q, fun σ' sa' H2 m2 h2 a b e q => l.bk σ' sa' H2 m2 h2 a b (x.trans e) q, fun σ' sa' H2 m2 h2 a b e q => l.ct σ' sa' H2 m2 h2 a b (x.trans e) q⟩
def LS (X : Cx) (nm : Nm) (w : Sa → AH → En → EK → Prop) : TS := fun D σ H =>
  ∃ sa m h Z Ea, RS X.K H m σ sa ∧ RH X.K nm H m h ∧ w sa h Z Ea ∧ TKs X nm H m Ea ∧ LEnd X nm H m Z D
theorem ds_nil : PSs X [] (LS X nm (wS C .nil)) := PSs.imp pss_nil fun D σ H q => by
  obtain ⟨sa, m, h, Z, Ea, rs, rh, w, tk, l⟩ := q
  simp only [wS] at w
  exact l.nx _ _ _ _ _ rs rh .refl w
theorem ds_seq {a r : MS} {st : Stmt} {sts : List Stmt} (ha : PS X st (LS X nm (wS C a))) (hr : PSs X sts (LS X nm (wS C r))) : PSs X (st :: sts) (LS X nm (wS C (.seq a r))) := PSs.imp (pss_cons ha hr) fun D σ H q => by
  obtain ⟨sa, m, h, Z, Ea, rs, rh, w, tk, l⟩ := q
  simp only [wS] at w
  exact ⟨sa, m, h, _, Ea, rs, rh, w, tk, fun σ' sa' H' m' h' rs' rh' ex q => ⟨sa', m', h', Z, Ea, rs', rh', q, tk_ext tk ex, l.ext ex⟩, l.rt, l.bk, l.ct⟩
theorem noComp_sw {v : Expr} (h : noComp v = true) (t : Option Expr) (l : Nat) (env : Env) : swapsWith v t l env = pure false := by
  cases v <;> first | (cases h; done) | rfl
theorem set_read {i : Nat} {e : M} {D : Ends} {σ : L2.St} {H : Hp} (q : LS X nm (wS C (.set i e)) D σ H) : tAsg (LE X nm (wE C e)) (gName i) D σ H := by
  obtain ⟨sa, m, h, Z, Ea, rs, rh, w, tk, l⟩ := q
  simp only [wS] at w
  exact ⟨sa, m, h, _, Ea, rs, rh, w, tk, fun v H1 m1 d h1 rv rh1 ex q1 => l.nx _ _ _ _ _ ((rs.ext ex).set rv) rh1 ex q1⟩
theorem ds_set {i : Nat} {e : M} {x : Str} {v : Expr} {p pos : Pos} (k : Ct X nm G C) (o : StOk X i x) (he : DE X nm v (wE C e)) (hs : swapsWith v (some (.Name x p)) pos.line X.env = pure false) : PS X (.Assign [.Name x p] v pos) (LS X nm (wS C (.set i e))) :=
  PS.imp (ps_set k.nd o.ix o.loc he hs o.fn) fun D σ H q => set_read q
theorem ds_setT {is : List Nat} {e : M} {es : List Expr} {v : Expr} {kk : Nat} {p pos : Pos} (k : Ct X nm G C) (o : NamesOk X is es) (he : DE X nm v (wE C e)) (hc : noComp v = true) (hw : swappedStores [.Tuple es kk p] v X.env = pure none) : PS X (.Assign [.Tuple es kk p] v pos) (LS X nm (wS C (.setT is e))) :=
  PS.imp (ps_asg he (dg_many (nm := nm) k o) (by show swapsWith v (some (.Tuple es kk p)) pos.line X.env = pure false; exact noComp_sw hc _ _ _) hw rfl) fun D σ H q => by
    obtain ⟨sa, m, h, Z, Ea, rs, rh, w, tk, l⟩ := q
    simp only [wS] at w
    exact ⟨sa, m, h, _, Ea, rs, rh, w, tk, fun v H1 m1 d h1 rv rh1 ex q1 => ⟨sa, m1, h1, d, _, rs.ext ex, rh1, rv, q1, fun σ' sa' rs' _ q2 => l.nx _ _ _ _ _ rs' rh1 ex q2⟩⟩
theorem ds_expr {e : M} {v : Expr} {pos : Pos} (he : DE X nm v (wE C e)) (hc : noComp v = true) : PS X (.Expr v pos) (LS X nm (wS C (.expr e))) :=
  PS.imp (ps_expr he (noComp_sw hc _ _ _)) fun D σ H q => by
    obtain ⟨sa, m, h, Z, Ea, rs, rh, w, tk, l⟩ := q
    simp only [wS] at w
    exact ⟨sa, m, h, _, Ea, rs, rh, w, tk, fun v H1 m1 d h1 rv rh1 ex q1 => l.nx _ _ _ _ _ (rs.ext ex) rh1 ex q1⟩
theorem ds_ret {e : M} {v : Expr} {pos : Pos} (he : DE X nm v (wE C e)) : PS X (.Return (some v) pos) (LS X nm (wS C (.ret e))) :=
  PS.imp (ps_ret he) fun D σ H q => by
    obtain ⟨sa, m, h, Z, Ea, rs, rh, w, tk, l⟩ := q
    simp only [wS] at w
    exact ⟨sa, m, h, _, Ea, rs, rh, w, tk, l.rt⟩
theorem ds_ret0 {pos : Pos} : PS X (.Return none pos) (LS X nm (wS C .ret0)) :=
  PS.imp ps_retN fun D σ H q => by
    obtain ⟨sa, m, h, Z, Ea, rs, rh, w, tk, l⟩ := q
    simp only [wS] at w
    exact l.rt _ _ _ _ _ .non rh .refl w
theorem ds_pass {pos : Pos} : PS X (.Pass pos) (LS X nm (wS C .pass_)) :=
  PS.imp ps_pass fun D σ H q => by
    obtain ⟨sa, m, h, Z, Ea, rs, rh, w, tk, l⟩ := q
    simp only [wS] at w
    exact l.nx _ _ _ _ _ rs rh .refl w
theorem ds_brk {pos : Pos} : PS X (.Break pos) (LS X nm (wS C .brk)) :=
  PS.imp ps_break fun D σ H q => by
    obtain ⟨sa, m, h, Z, Ea, rs, rh, w, tk, l⟩ := q
    simp only [wS] at w
    exact l.bk _ _ _ _ _ rs rh .refl w
theorem ds_cont {pos : Pos} : PS X (.Continue pos) (LS X nm (wS C .cont)) :=
  PS.imp ps_continue fun D σ H q => by
    obtain ⟨sa, m, h, Z, Ea, rs, rh, w, tk, l⟩ := q
    simp only [wS] at w
    exact l.ct _ _ _ _ _ rs rh .refl w
theorem ds_cond {c : M} {a b : MS} {t : Expr} {x y : List Stmt} {pos : Pos} (hc : PT X t (LT X nm (wT C c))) (ha : PSs X x (LS X nm (wS C a))) (hb : PSs X y (LS X nm (wS C b))) : PS X (.If t x y pos) (LS X nm (wS C (.cond c a b))) :=
  PS.imp (ps_if hc ha hb) fun D σ H q => by
    obtain ⟨sa, m, h, Z, Ea, rs, rh, w, tk, l⟩ := q
    simp only [wS] at w
    refine ⟨sa, m, h, _, Ea, rs, rh, w, tk, fun t H1 m1 h1 rh1 ex q1 => ?_⟩
    cases t with
    | true => simp only [if_true] at q1 ⊢; exact ⟨sa, m1, h1, Z, Ea, rs.ext ex, rh1, q1, tk_ext tk ex, l.ext ex⟩
    | false => simp only [Bool.false_eq_true, if_false] at q1 ⊢; exact ⟨sa, m1, h1, Z, Ea, rs.ext ex, rh1, q1, tk_ext tk ex, l.ext ex⟩
theorem ip_bop (op : Bop) (hop : op = .add ∨ op = .sub) : PIp X op.op (L2' X nm (fun x y h Q => (∃ i j, x = .int i ∧ y = .int j) ∧ bopW op x y h Q)) := by
  intro pins s σ H x y v u Q I rx ry hq
  obtain ⟨m, h, d, e, Qa, r1, r2, rh, ⟨⟨i, j, rfl, rfl⟩, w⟩, fin⟩ := hq
  cases r1
  cases r2
  rcases hop with rfl | rfl
  · exact ip_add pins s σ H _ _ v u Q I rx ry ⟨i, j, rfl, rfl, fin _ _ _ _ _ (.int _) rh .refl w⟩
  · exact ip_sub pins s σ H _ _ v u Q I rx ry ⟨i, j, rfl, rfl, fin _ _ _ _ _ (.int _) rh .refl w⟩
theorem ds_aug {i : Nat} {op : Bop} {e : M} {x : Str} {v : Expr} {p pos : Pos} (k : Ct X nm G C) (o : StOk X i x) (he : DE X nm v (wE C e)) (hop : op = .add ∨ op = .sub) : PS X (.AugAssign (.Name x p) op.op v pos) (LS X nm (wS C (.aug i op e))) :=
  PS.imp (ps_aug k.nd o.ix o.loc he (ip_bop (nm := nm) op hop) o.fn) fun D σ H q => by
    obtain ⟨sa, m, h, Z, Ea, rs, rh, w, tk, l⟩ := q
    simp only [wS, slot] at w
    split at w
    · rename_i d e1
      obtain ⟨v0, e2, rv0⟩ := rs.2 i d e1
      refine ⟨v0, e2, sa, m, h, _, Ea, rs, rh, w, tk, fun v H1 m1 d1 h1 rv rh1 ex1 q1 => ⟨m1, h1, d, d1, _, rv0.ext ex1, rv, rh1, q1, fun z H2 m2 d2 h2 rz rh2 ex2 q2 => ?_⟩⟩
      exact l.nx _ _ _ _ _ (((rs.ext ex1).ext ex2).set rz) rh2 (ex1.trans ex2) q2
    · exact w.elim
theorem ds_while {c : M} {b : MS} {t : Expr} {x : List Stmt} {pos : Pos} (hp : PassesOwn (model X.prog X.w) X.A X.env X.xe) (hc : PT X t (LT X nm (wT C c))) (hb : PSs X x (LS X nm (wS C b))) : PS X (.While t x [] pos) (LS X nm (wS C (.while_ c b))) :=
  PS.imp (ps_while hp hc hb) fun D σ H q => by
    obtain ⟨sa, m, h, Z, Ea, rs, rh, w, tk, l⟩ := q
    simp only [wS] at w
    obtain ⟨n0, w⟩ := w
    obtain ⟨W, hW⟩ : ∃ W : Nat → L2.St → Hp → Prop, ∀ n σ' H', W n σ' H' ↔ ∃ sa' m' h', RS X.K H' m' σ' sa' ∧ RH X.K nm H' m' h' ∧ Ext H m H' m' ∧ whileW (wT C c) (wS C b) n sa' h' Z Ea := ⟨_, fun _ _ _ => Iff.rfl⟩
    refine ⟨W, ⟨n0, (hW _ _ _).mpr ⟨sa, m, h, rs, rh, .refl, w⟩⟩, fun n σ' H' w0 => ?_⟩
    obtain ⟨sa', m', h', rs', rh', ex, w1⟩ := (hW _ _ _).mp w0
    cases n with
    | zero => exact w1.elim
    | succ n =>
      simp only [whileW] at w1
      refine ⟨sa', m', h', _, Ea, rs', rh', w1, tk_ext tk ex, fun b H2 m2 h2 rh2 ex2 q2 => ?_⟩
      cases b with
      | false => simp only [Bool.false_eq_true, if_false] at q2 ⊢; exact l.nx _ _ _ _ _ (rs'.ext ex2) rh2 (ex.trans ex2) q2
      | true =>
        simp only [if_true] at q2 ⊢
        refine ⟨W n, fun σ3 H3 w3 => ⟨n, Nat.lt_succ_self _, w3⟩, sa', m2, h2, _, Ea, rs'.ext ex2, rh2, q2, tk_ext (tk_ext tk ex) ex2, ?_⟩
        refine ⟨fun σ3 sa3 H3 m3 h3 rs3 rh3 ex3 q3 => (hW _ _ _).mpr ⟨sa3, m3, h3, rs3, rh3, (ex.trans ex2).trans ex3, q3⟩, (l.ext (ex.trans ex2)).rt, (l.ext (ex.trans ex2)).nx, fun σ3 sa3 H3 m3 h3 rs3 rh3 ex3 q3 => (hW _ _ _).mpr ⟨sa3, m3, h3, rs3, rh3, (ex.trans ex2).trans ex3, q3⟩⟩
theorem ds_for {tg : Tg} {src : M} {b : MS} {t it : Expr} {x : List Stmt} {pos : Pos} (k : Ct X nm G C) (hp : PassesOwn (model X.prog X.w) X.A X.env X.xe) (hi : PI X t it (LI X nm (wI C src))) (hg : PG X t (LG X nm tg)) (hb : PSs X x (LS X nm (wS C b)))
    (hs : ∀ x, foldedSetIterable it X.env x = pure x) : PS X (.For t it x [] pos) (LS X nm (wS C (.for_ tg src b))) :=
  PS.imp (ps_for hp k.calm hi hg hb hs) fun D σ H q => by
    obtain ⟨sa, m, h, Z, Ea, rs, rh, w, tk, l⟩ := q
    simp only [wS] at w
    refine ⟨sa, m, h, _, Ea, rs, rh, w, tk, fun J itv H1 m1 h1 ri rh1 ex1 q1 => ?_⟩
    obtain ⟨W, hW⟩ : ∃ W : Nat → Nat → L2.St → Hp → Prop, ∀ i n σ' H', W i n σ' H' ↔ (n = itv.xs.length - i ∧ i ≤ itv.xs.length ∧ ∃ sa' m' h', RS X.K H' m' σ' sa' ∧ RH X.K nm H' m' h' ∧ Ext H1 m1 H' m' ∧ forW itv.ck tg (wS C b) (itv.xs.drop i) sa' h' Z Ea) := ⟨_, fun _ _ _ _ => Iff.rfl⟩
    refine ⟨W, ⟨itv.xs.length, (hW _ _ _ _).mpr ⟨by simp, Nat.zero_le _, sa, m1, h1, rs.ext ex1, rh1, .refl, by simpa using q1⟩⟩, fun i n σ' H' w0 => ?_⟩
    obtain ⟨rfl, hi, sa', m', h', rs', rh', ex', w1⟩ := (hW _ _ _ _).mp w0
    by_cases hlt : i < itv.xs.length
    · rw [List.drop_eq_getElem_cons hlt] at w1
      simp only [forW] at w1
      obtain ⟨ck, tw⟩ := w1
      obtain ⟨ga, _⟩ := ri.at_ H' m' h' ex' rh' ck
      obtain ⟨go, yl⟩ := ga i _ (List.getElem?_eq_getElem hlt)
      refine .inr ⟨go, W (i + 1) (itv.xs.length - (i + 1)), fun σ2 H2 w2 => ⟨itv.xs.length - (i + 1), by omega, w2⟩, fun x H2 y => ?_⟩
      obtain ⟨rx, rh2, ex2⟩ := yl x H2 y
      refine ⟨sa', m', h', _, _, rs'.ext ex2, rh2, rx, tw, fun σ3 sa3 rs3 on q3 => ⟨sa3, m', h', _, Ea, rs3, rh2, q3, tk_ext tk ((ex1.trans ex').trans ex2), ?_⟩⟩
      have e0 := (ex1.trans ex').trans ex2
      exact ⟨fun σ4 sa4 H4 m4 h4 rs4 rh4 ex4 q4 => (hW _ _ _ _).mpr ⟨rfl, hlt, sa4, m4, h4, rs4, rh4, (ex'.trans ex2).trans ex4, q4⟩, (l.ext e0).rt, (l.ext e0).nx, fun σ4 sa4 H4 m4 h4 rs4 rh4 ex4 q4 => (hW _ _ _ _).mpr ⟨rfl, hlt, sa4, m4, h4, rs4, rh4, (ex'.trans ex2).trans ex4, q4⟩⟩
    · have e1 : i = itv.xs.length := by omega
      subst e1
      rw [List.drop_length] at w1
      simp only [forW] at w1
      obtain ⟨_, st⟩ := ri.at_ H' m' h' ex' rh' w1.1
      exact .inl ⟨st, l.nx _ _ _ _ _ rs' rh' (ex1.trans ex') w1.2⟩
theorem ds_raise {c : Nat} {y x mm : Str} {j : Nat} {p p2 p3 pos : Pos} (k : Ct X nm G C) (hc : G.cl[c]? = some y) (hn : nameB X.env.scope y x = true) : PS X (.Raise (some (.Call (.Name x p) [.Constant (.str mm) j p2] [] p3)) none pos) (LS X nm (wS C (.raise_ c .nil))) := by
  obtain ⟨rfl, hg, ho⟩ := nameB_ok hn
  obtain ⟨hdb, _, _⟩ := okN_d ho
  obtain ⟨h1, h2, h3, h4, h5⟩ := k.exc c _ hc
  refine ⟨fun pins s σ H D I q => ?_⟩
  obtain ⟨sa, m, h, Z, Ea, rs, rh, w, tk, l⟩ := q
  simp only [wS, wA] at w
  exact (ps_raise k.calm tk (pmk_own PySem.F.excBase_ValueError h2 h1 h3 (raises_own h4 h5) hg hdb)).run pins s σ H D I ⟨⟨c, []⟩, sa, m, h, ⟨rfl, .inl ⟨rfl, rfl⟩⟩, rs, rh, .refl, w⟩
end
end Rf

namespace Rf
open PySem PySem.Spec PyProof.Rows L2
section
variable {X : Cx} {nm : Nm} {G : Gi} {C : CT}
/-! ### the others -/
theorem de_glb {i : Nat} {d : D} {y x : Str} {pos : Pos} (k : Ct X nm G C) (hg : G.gl[i]? = some (y, d)) (hn : nameB X.env.scope y x = true) : DE X nm (.Name x pos) (wE C (.glb i d)) := by
  obtain ⟨rfl, hs, ho⟩ := nameB_ok hn
  obtain ⟨hdb, _, _⟩ := okN_d ho
  obtain ⟨u, v, hm, r, hr⟩ := k.glb i _ d hg
  exact de_const (pe_glob hs hm r hdb) hr _ fun _ _ _ _ w => by simpa only [wE] using w
theorem set_ok : PSet X (fun o i v H Q => ∃ m h x y z Qa, RV X.K H m o x ∧ RV X.K H m i y ∧ RV X.K H m v z ∧ RH X.K nm H m h ∧ setIW h x y z Qa ∧ ∀ H' m' h', RH X.K nm H' m' h' → Ext H m H' m' → Qa h' → Q H') := by
  intro pins s σ H o i v ov iv u Q I ro ri rv hq
  obtain ⟨m, h, x, y, z, Qa, r1, r2, r3, rh, w, fin⟩ := hq
  cases r1 with
  | @ref a n hm =>
    cases r2 with
    | int k =>
      obtain ⟨xs, j, e, hj, q⟩ := w
      obtain ⟨a', vs, e1, hm', e2, rz⟩ := the_lst rh (.ref hm) e
      cases e1
      refine set_list pins s σ H _ _ v ov iv u Q I ro ri rv ⟨a, vs, k, j, rfl, rfl, e2, by rw [rz.length]; exact hj, ?_⟩
      obtain ⟨rh2, ex2⟩ := set_lst rh hm (rz.set r3 j)
      exact fin _ _ _ rh2 ex2 q
    | _ => exact w.elim
  | _ => exact w.elim
theorem ds_setI {o i e : M} {x y v : Expr} {p pos : Pos} (he : DE X nm v (wE C e)) (ho : DE X nm x (wE C o)) (hi : DE X nm y (wE C i)) (hc : noComp v = true)
    (ha : ∀ v, assign (.Subscript x y p) X.env v = (do
      let ov ← holding [v] (eval x X.env)
      let iv ← holding [v, ov] (eval y X.env)
      standAt p
      holding [v, ov, iv] (setItem ov iv v)
      release [v, ov, iv] [])) : PS X (.Assign [.Subscript x y p] v pos) (LS X nm (wS C (.setI o i e))) :=
  PS.imp (ps_asg he (pg_sub ho hi (set_ok (nm := nm)) ha) (by show swapsWith v (some (.Subscript x y p)) pos.line X.env = pure false; exact noComp_sw hc _ _ _) (by cases v <;> rfl) rfl) fun D σ H q => by
    obtain ⟨sa, m, h, Z, Ea, rs, rh, w, tk, l⟩ := q
    simp only [wS] at w
    refine ⟨sa, m, h, _, Ea, rs, rh, w, tk, fun v H1 m1 d1 h1 rv rh1 ex1 q1 => ⟨sa, m1, h1, _, Ea, rs.ext ex1, rh1, q1, tk_ext tk ex1, fun v2 H2 m2 d2 h2 rv2 rh2 ex2 q2 => ⟨sa, m2, h2, _, Ea, (rs.ext ex1).ext ex2, rh2, q2, tk_ext (tk_ext tk ex1) ex2, fun v3 H3 m3 d3 h3 rv3 rh3 ex3 q3 => ?_⟩⟩⟩
    exact ⟨m3, h3, d2, d3, d1, _, rv2.ext ex3, rv3, (rv.ext ex2).ext ex3, rh3, q3, fun H4 m4 h4 rh4 ex4 q4 => l.nx _ _ _ _ _ (((rs.ext ex1).ext ex2).ext ex3 |>.ext ex4) rh4 (((ex1.trans ex2).trans ex3).trans ex4) q4⟩
/-! ### several names = a tuple -/
theorem sw_none {es vs : List Expr} {k k2 : Nat} {p p2 : Pos} {env : Env} (h : swNone es vs = true) : swappedStores [.Tuple es k p] (.Tuple vs k2 p2) env = pure none := by
  unfold swNone at h
  simp only [Bool.or_eq_true, Bool.not_eq_true', decide_eq_false_iff_not] at h
  unfold swappedStores
  simp only []
  by_cases h1 : (!(es.length == 2 || es.length == 3) || vs.length != es.length || env.blockKind != .function) = true
  · rw [if_pos h1]
  · rw [if_neg h1]
    have hv : vs.all (foldedForSure 8) = true := by
      rcases h with h | h | h
      · exact absurd (by simp only [Bool.or_eq_true, Bool.not_eq_true']; exact .inl (.inl h)) h1
      · exact absurd (by simp only [Bool.or_eq_true]; exact .inl (.inr (by simpa using h))) h1
      · exact h
    rw [hv]
    simp only [if_true]
    split <;> first | rfl | (split <;> rfl)
theorem swLoc_ok {sc : Scope} {l : Nat} {e : Expr} (h : swLoc sc l e = true) : ∃ x p, e = .Name x p ∧ sc.names.lookup x = some .local ∧ p.line = l := by
  cases e <;> simp only [swLoc] at h <;> first | (cases h; done) | skip
  simp only [Bool.and_eq_true, decide_eq_true_eq] at h
  exact ⟨_, _, rfl, h.1, h.2⟩
theorem blk_fn {env : Env} (h : env.blockKind = .function) : (env.blockKind != ScopeKind.function) = false := by rw [h]; rfl
theorem sw_two {env : Env} {x y : Str} {a b : Expr} {k k2 : Nat} {p p2 px py : Pos} (hk : env.blockKind = .function) (hxy : x ≠ y) (hx : env.scope.names.lookup x = some .local) (hy : env.scope.names.lookup y = some .local) (hl : py.line = px.line)
    (ha : notStar a = true) (hb : notStar b = true) (h1 : [a, b].all (foldedForSure 8) = false) (h2 : [a, b].all (constantsAlone 8) = false) :
    swappedStores [.Tuple [.Name x px, .Name y py] k p] (.Tuple [a, b] k2 p2) env = pure (some [x, y]) := by
  have e0 : (env.blockKind != ScopeKind.function) = false := blk_fn hk
  have e1 : (env.kindOf x == some .local) = true := by show (env.scope.names.lookup x == some .local) = true; rw [hx]; rfl
  have e2 : (env.kindOf y == some .local) = true := by show (env.scope.names.lookup y == some .local) = true; rw [hy]; rfl
  have hxy' : (y == x) = false := beq_eq_false_iff_ne.mpr (Ne.symm hxy)
  unfold swappedStores
  simp only []
  rw [if_neg (by rw [e0]; simp), if_neg (by cases a <;> cases b <;> first | (intro z; exact Bool.noConfusion z) | (cases ha; done) | (cases hb; done))]
  simp only [List.filterMap_cons, List.filterMap_nil, e1, e2, Expr.pos, List.head?_cons, Option.map_some, Option.getD_some, hl, beq_self_eq_true, Bool.and_self, if_true]
  simp [List.eraseDups_cons, hxy', h1, h2]
theorem sw_three {env : Env} {x y z : Str} {a b c : Expr} {k k2 : Nat} {p p2 px py pz : Pos} (hk : env.blockKind = .function) (hxy : x ≠ y) (hxz : x ≠ z) (hyz : y ≠ z) (hx : env.scope.names.lookup x = some .local) (hy : env.scope.names.lookup y = some .local) (hz : env.scope.names.lookup z = some .local) (hl : py.line = px.line) (hl2 : pz.line = px.line)
    (hn : [a, b, c].all notStar = true) (h1 : [a, b, c].all (foldedForSure 8) = false) (h2 : [a, b, c].all (constantsAlone 8) = false) :
    swappedStores [.Tuple [.Name x px, .Name y py, .Name z pz] k p] (.Tuple [a, b, c] k2 p2) env = pure (some [x, y, z]) := by
  have e0 : (env.blockKind != ScopeKind.function) = false := blk_fn hk
  have e1 : (env.kindOf x == some .local) = true := by show (env.scope.names.lookup x == some .local) = true; rw [hx]; rfl
  have e2 : (env.kindOf y == some .local) = true := by show (env.scope.names.lookup y == some .local) = true; rw [hy]; rfl
  have e3 : (env.kindOf z == some .local) = true := by show (env.scope.names.lookup z == some .local) = true; rw [hz]; rfl
  have hxy' : (y == x) = false := beq_eq_false_iff_ne.mpr (Ne.symm hxy)
  have hxz' : (z == x) = false := beq_eq_false_iff_ne.mpr (Ne.symm hxz)
  have hyz' : (z == y) = false := beq_eq_false_iff_ne.mpr (Ne.symm hyz)
  have n2 : ∀ f : Expr → Bool, (∀ e, notStar e = true → f e = false) → [a, b, c].any f = false := fun f hf => by
    simp only [List.all_cons, List.all_nil, Bool.and_true, Bool.and_eq_true] at hn
    simp [hf a hn.1, hf b hn.2.1, hf c hn.2.2]
  unfold swappedStores
  simp only []
  rw [if_neg (by rw [e0]; simp), if_neg (by rw [n2 _ (fun e he => by cases e <;> first | rfl | (cases he; done))]; exact Bool.noConfusion)]
  simp only [List.filterMap_cons, List.filterMap_nil, e1, e2, e3, Expr.pos, List.head?_cons, Option.map_some, Option.getD_some, hl, hl2, beq_self_eq_true, Bool.and_self, if_true]
  simp [List.eraseDups_cons, hxy', hxz', hyz', h1, h2]
theorem NamesOk.two {i j : Nat} {es : List Expr} (o : NamesOk X [i, j] es) : ∃ x y px py, es = [.Name x px, .Name y py] ∧ X.N[i]? = some x ∧ X.N[j]? = some y := by
  cases o with
  | cons a o => cases o with
    | cons b o => cases o; exact ⟨_, _, _, _, rfl, a.ix, b.ix⟩
theorem NamesOk.three {i j l : Nat} {es : List Expr} (o : NamesOk X [i, j, l] es) : ∃ x y z px py pz, es = [.Name x px, .Name y py, .Name z pz] ∧ X.N[i]? = some x ∧ X.N[j]? = some y ∧ X.N[l]? = some z := by
  cases o with
  | cons a o => cases o with
    | cons b o => cases o with
      | cons c o => cases o; exact ⟨_, _, _, _, _, _, rfl, a.ix, b.ix, c.ix⟩
theorem NamesOk.len : ∀ {is : List Nat} {es : List Expr}, NamesOk X is es → es.length = is.length
  | _, _, .nil => rfl
  | _, _, .cons _ r => by simp [NamesOk.len r]
theorem nd_ix {N : List Str} {i j : Nat} {x y : Str} (hi : N[i]? = some x) (hj : N[j]? = some y) (h : i ≠ j) (nd : N.Nodup) : x ≠ y := fun e => by
  subst e
  exact h (nodup_ix nd hi hj)
theorem len_two {α : Type} : ∀ {xs : List α}, xs.length = 2 → ∃ a b, xs = [a, b]
  | [a, b], _ => ⟨a, b, rfl⟩
theorem len_three {α : Type} : ∀ {xs : List α}, xs.length = 3 → ∃ a b c, xs = [a, b, c]
  | [a, b, c], _ => ⟨a, b, c, rfl⟩
theorem ds_par {is : List Nat} {as : M} {es vs : List Expr} {kk k2 : Nat} {p p2 pos : Pos} (k : Ct X nm G C) (hk : X.env.blockKind = .function) (o : NamesOk X is es) (ha : PA X vs (LA X nm (wA C as))) (hw : swSome X.env.scope is es vs = true) (hl : es.length = 2 ∨ es.length = 3) (hv : vs.length = es.length) :
    PS X (.Assign [.Tuple es kk p] (.Tuple vs k2 p2) pos) (LS X nm (wS C (.setT is (.tup as)))) := by
  simp only [swSome, Bool.and_eq_true, decide_eq_true_eq, Bool.not_eq_true', List.all_eq_true] at hw
  obtain ⟨nd, hloc, hst, hf, hc⟩ := hw
  have nl := o.len
  rcases hl with hl | hl
  · obtain ⟨i, j, rfl⟩ := len_two (nl.symm.trans hl)
    · obtain ⟨x, y, px, py, rfl, ix, iy⟩ := o.two
      obtain ⟨a, b, rfl⟩ := len_two (hv.trans hl)
      · obtain ⟨_, _, e1, l1, _⟩ := swLoc_ok (hloc _ (List.mem_cons_self))
        cases e1
        obtain ⟨_, _, e2, l2, q2⟩ := swLoc_ok (hloc _ (List.mem_cons_of_mem _ List.mem_cons_self))
        cases e2
        have hij : i ≠ j := by simpa using nd
        refine PS.imp (ps_par k.calm k.nd ix iy hij l1 l2 ha (sw_two hk (nd_ix ix iy hij k.nd) l1 l2 q2 (hst _ (by simp)) (hst _ (by simp)) hf hc) rfl) fun D σ H q => ?_
        obtain ⟨sa, m, h, Z, Ea, rs, rh, w, tk, l⟩ := q
        simp only [wS, wE] at w
        refine ⟨sa, m, h, _, Ea, rs, rh, w, tk, fun us H1 m1 ds h1 rvs rh1 ex1 q1 => ?_⟩
        obtain ⟨_, q1⟩ := q1
        obtain ⟨d, e, rfl⟩ := len_two q1.1
        · have q2 := q1.2
          obtain ⟨v, w, rfl, rv1, rv2⟩ := rvs2 rvs
          exact ⟨v, w, rfl, l.nx _ _ _ _ _ (((rs.ext ex1).set rv1).set rv2) rh1 ex1 q2⟩
  · obtain ⟨i, j, n, rfl⟩ := len_three (nl.symm.trans hl)
    · obtain ⟨x, y, z, px, py, pz, rfl, ix, iy, iz⟩ := o.three
      obtain ⟨a, b, c, rfl⟩ := len_three (hv.trans hl)
      · obtain ⟨_, _, e1, l1, _⟩ := swLoc_ok (hloc _ (List.mem_cons_self))
        cases e1
        obtain ⟨_, _, e2, l2, q2⟩ := swLoc_ok (hloc _ (List.mem_cons_of_mem _ List.mem_cons_self))
        cases e2
        obtain ⟨_, _, e3, l3, q3⟩ := swLoc_ok (hloc _ (List.mem_cons_of_mem _ (List.mem_cons_of_mem _ List.mem_cons_self)))
        cases e3
        have hij : i ≠ j := fun e => by subst e; simp at nd
        have hin : i ≠ n := fun e => by subst e; simp at nd
        have hjn : j ≠ n := fun e => by subst e; simp at nd
        refine PS.imp (ps_par3 k.calm k.nd ix iy iz hij hin hjn l1 l2 l3 ha (sw_three hk (nd_ix ix iy hij k.nd) (nd_ix ix iz hin k.nd) (nd_ix iy iz hjn k.nd) l1 l2 l3 q2 q3 (List.all_eq_true.mpr hst) hf hc) rfl) fun D σ H q => ?_
        obtain ⟨sa, m, h, Z, Ea, rs, rh, w, tk, l⟩ := q
        simp only [wS, wE] at w
        refine ⟨sa, m, h, _, Ea, rs, rh, w, tk, fun us H1 m1 ds h1 rvs rh1 ex1 q1 => ?_⟩
        obtain ⟨_, q1⟩ := q1
        obtain ⟨d, e, f, rfl⟩ := len_three q1.1
        · have q2 := q1.2
          cases rvs with
          | cons rv1 rvs =>
            obtain ⟨v, w, rfl, rv2, rv3⟩ := rvs2 rvs
            exact ⟨_, v, w, rfl, l.nx _ _ _ _ _ ((((rs.ext ex1).set rv1).set rv2).set rv3) rh1 ex1 q2⟩
/-! ### xs[::1], xs[::-1] -/
theorem pick_one (items : Array Value) : slicePick items none none (some 1) = items := by
  have e : slicePick items none none (some 1) = slicePick items.toList.toArray none none none := rfl
  rw [e, slicePick_cut]
  simp [HT.sIx]
  rw [List.take_of_length_le (by simp)]
theorem pick_step (items : Array Value) {k : Int} (hk : k = 1 ∨ k = -1) : slicePick items none none (some k) = (stepL items.toList k).toArray := by
  rcases hk with rfl | rfl
  · rw [pick_one]; simp [stepL]
  · rw [PySem.W.krv_pick]; simp [stepL]
theorem stepL_len {α : Type} (xs : List α) {k : Int} (hk : k = 1 ∨ k = -1) : (stepL xs k).length = xs.length := by
  rcases hk with rfl | rfl <;> simp [stepL]
theorem vals_step {xs : List V} {us : List Value} (r : Vals xs us) {k : Int} (hk : k = 1 ∨ k = -1) : Vals (stepL xs k) (stepL us k) := by
  rcases hk with rfl | rfl
  · simpa [stepL] using r
  · simpa [stepL] using r.reverse
theorem RVs.step {K : PySem.W.Frag} {H : Hp} {m : List Addr} {vs : List V} {ds : List D} (r : RVs K H m vs ds) {k : Int} (hk : k = 1 ∨ k = -1) : RVs K H m (stepL vs k) (stepL ds k) := by
  rcases hk with rfl | rfl
  · simpa [stepL] using r
  · simpa [stepL] using r.reverse
section
variable {prog : Program} {w : World} {A : Around} {E : Value → Shared → Prop} {s : Shared}
theorem rev_pick (xs : Array Value) : ((List.range xs.size).filterMap fun (m : Nat) => xs[(((xs.size : Int) - 1) + (m : Int) * (-1)).toNat]?).toArray = xs.toList.reverse.toArray := by
  have e : (List.range xs.size).filterMap (fun (m : Nat) => xs[(((xs.size : Int) - 1) + (m : Int) * (-1)).toNat]?) = (List.range xs.size).filterMap (fun (m : Nat) => xs[xs.size - 1 - m]?) := by
    have gen : ∀ (l : List Nat), (∀ m ∈ l, m < xs.size) → l.filterMap (fun (m : Nat) => xs[(((xs.size : Int) - 1) + (m : Int) * (-1)).toNat]?) = l.filterMap (fun (m : Nat) => xs[xs.size - 1 - m]?) := by
      intro l
      induction l with
      | nil => intro _; rfl
      | cons m l ih =>
        intro h
        have hm := h m List.mem_cons_self
        have e3 : (((xs.size : Int) - 1) + (m : Int) * (-1)).toNat = xs.size - 1 - m := by omega
        simp only [List.filterMap_cons, e3, ih fun z hz => h z (List.mem_cons_of_mem _ hz)]
    exact gen _ fun m hm => List.mem_range.mp hm
  rw [e]
  have e2 : (List.range xs.size).filterMap (fun (m : Nat) => xs[xs.size - 1 - m]?) = ((List.range xs.size).map fun k => xs.size - 1 - k).filterMap (xs[·]?) := by
    rw [List.filterMap_map]; rfl
  rw [e2, PySem.W.krv_range, List.filterMap_reverse, PySem.W.krv_all]
theorem sliceApplied_rev {sl : Addr} {vs : Value} {n : Nat} {Q : Int × Int × Nat → Shared → Prop} (hs : s.heap.IsSliceOf sl .none .none vs) (ps : IsPart vs (some (-1)))
    (h : Q ((n : Int) - 1, -1, n) s) : wpAny (model prog w) A (Builtin.Slice.sliceApplied (.ref sl) (pure (n : Int))) Q E s := by
  obtain ⟨os, hos, hcs, hds⟩ := id hs
  unfold Builtin.Slice.sliceApplied Builtin.Slice.sliceFields
  refine wpAny_bind (wpAny_bind (wpAny_field hos hds (x := .none) rfl (wpAny_bind (wpAny_field hos hds (x := .none) rfl (wpAny_bind (wpAny_field hos hds (x := vs) rfl (wpAny_pure ?_)))))))
  refine wpAny_bind (HT.slicePart_ ps ?_)
  show wpAny _ _ (if ((-1 : Int) == 0) = true then _ else _) _ _ s
  rw [if_neg (by decide)]
  refine wpAny_bind (HT.slicePart_ .none (wpAny_bind (HT.slicePart_ .none (wpAny_bind (wpAny_pure ?_)))))
  show wpAny _ _ (match Builtin.Slice.sliceAdjust none none (-1) (n : Int) with | (lo, hi) => pure (lo, (-1 : Int), Builtin.Slice.slicePlaces lo hi (-1))) _ _ s
  have e1 : Builtin.Slice.sliceAdjust none none (-1) (n : Int) = ((n : Int) - 1, -1) := rfl
  rw [e1]
  show wpAny _ _ (pure ((n : Int) - 1, (-1 : Int), Builtin.Slice.slicePlaces ((n : Int) - 1) (-1) (-1))) _ _ s
  have e2 : Builtin.Slice.slicePlaces ((n : Int) - 1) (-1) (-1) = n := by
    unfold Builtin.Slice.slicePlaces
    rw [if_neg (by decide)]
    split <;> simp <;> omega
  rw [e2]
  exact wpAny_pure h
end
section
variable {prog : Program} {w : World} {A : Around} {E : Value → Shared → Prop} {s : Shared}
theorem sliceApplied_one {sl : Addr} {vs : Value} {n : Nat} {Q : Int × Int × Nat → Shared → Prop} (hs : s.heap.IsSliceOf sl .none .none vs) (ps : IsPart vs (some 1))
    (h : Q (0, 1, n) s) : wpAny (model prog w) A (Builtin.Slice.sliceApplied (.ref sl) (pure (n : Int))) Q E s := by
  obtain ⟨os, hos, hcs, hds⟩ := id hs
  unfold Builtin.Slice.sliceApplied Builtin.Slice.sliceFields
  refine wpAny_bind (wpAny_bind (wpAny_field hos hds (x := .none) rfl (wpAny_bind (wpAny_field hos hds (x := .none) rfl (wpAny_bind (wpAny_field hos hds (x := vs) rfl (wpAny_pure ?_)))))))
  refine wpAny_bind (HT.slicePart_ ps ?_)
  show wpAny _ _ (if ((1 : Int) == 0) = true then _ else _) _ _ s
  rw [if_neg (by decide)]
  refine wpAny_bind (HT.slicePart_ .none (wpAny_bind (HT.slicePart_ .none (wpAny_bind (wpAny_pure ?_)))))
  show wpAny _ _ (match Builtin.Slice.sliceAdjust none none 1 (n : Int) with | (lo, hi) => pure (lo, (1 : Int), Builtin.Slice.slicePlaces lo hi 1)) _ _ s
  have e1 : Builtin.Slice.sliceAdjust none none 1 (n : Int) = (0, (n : Int)) := rfl
  rw [e1]
  show wpAny _ _ (pure ((0 : Int), (1 : Int), Builtin.Slice.slicePlaces 0 (n : Int) 1)) _ _ s
  have e2 : Builtin.Slice.slicePlaces 0 (n : Int) 1 = n := by
    have := HT.places_gen 0 n
    simpa using this
  rw [e2]
  exact wpAny_pure h
theorem getItem_tuple_one {t sl : Addr} {items : Array Value} {vs : Value} {Q : Value → Shared → Prop} (ht : IsTup s.heap t items) (hs : s.heap.IsSliceOf sl .none .none vs) (ps : IsPart vs (some 1))
    (h : Q (.ref t) s) : wpAny (model prog w) A (getItem (.ref t) (.ref sl)) Q E s := by
  obtain ⟨os, hos, hcs, hds⟩ := id hs
  have hTs : s.TypeIs (.ref sl) "slice" := ⟨os, hos, hcs⟩
  unfold getItem
  try with_reducible refine wpAny_holding ?_
  first | refine wpAny_bind (wpAny_pure ?_) | skip
  refine wpAny_bind (wpAny_sequenceKey ht.typeIs (by decide) ?_)
  refine wpAny_bind (wpAny_callSpecial?_slot (name := Str.ofString "__getitem__") ht.typeIs PyProof.Rows.slot_tuple_getitem
    (wpAny_call_entry PyProof.Rows.slot_tuple_getitem ht.typeIs entry_tuple_getitem ?_ (args_tuple_getitem _ _)))
  show wpAny _ _ (Builtin.Tuple.tupleItemsOf (.ref t) >>= _) _ _ s
  refine wpAny_bind (tupleItemsOf_ ht ?_)
  refine wpAny_bind (wpAny_typeOf hTs ?_)
  rw [if_pos (by decide)]
  refine wpAny_bind (sliceApplied_one hs ps ?_)
  have hyes : ((0 : Int) == 0 && (1 : Int) == 1 && items.size == items.size) = true := by simp
  show wpAny _ _ (if ((0 : Int) == 0 && (1 : Int) == 1 && items.size == items.size) = true then _ else _) _ _ s
  rw [if_pos hyes]
  refine wpAny_bind ?_
  show wpAny _ _ (typeOf (.ref t) >>= fun T => pure (T == .type "tuple")) _ _ s
  refine wpAny_bind (wpAny_typeOf ht.typeIs (wpAny_pure ?_))
  first
    | rw [if_pos (by decide)]
    | simp only [beq_self_eq_true, if_true]
  first
    | exact wpAny_bind (wpAny_rule (wpAny_pure ⟨_, rfl, wpAny_pure h⟩))
    | exact wpAny_bind (wpAny_rule (wpAny_bind (wpAny_pure (wpAny_pure ⟨_, rfl, wpAny_pure h⟩))))
theorem getItem_tuple_rev {t sl : Addr} {items : Array Value} {vs : Value} {Q : Value → Shared → Prop} (ht : IsTup s.heap t items) (hs : s.heap.IsSliceOf sl .none .none vs) (ps : IsPart vs (some (-1)))
    (h : Q (.ref s.heap.objs.size) { s with heap := s.heap.push { cls := .type "tuple", data := .seq items.toList.reverse.toArray } }) (hsz : items.size ≤ sizeLine) : wpAny (model prog w) A (getItem (.ref t) (.ref sl)) Q E s := by
  have htake : sizeOk (.seq items.toList.reverse.toArray) := by
    show items.toList.reverse.toArray.size ≤ sizeLine
    simpa using hsz
  obtain ⟨os, hos, hcs, hds⟩ := id hs
  have hTs : s.TypeIs (.ref sl) "slice" := ⟨os, hos, hcs⟩
  unfold getItem
  try with_reducible refine wpAny_holding ?_
  first | refine wpAny_bind (wpAny_pure ?_) | skip
  refine wpAny_bind (wpAny_sequenceKey ht.typeIs (by decide) ?_)
  refine wpAny_bind (wpAny_callSpecial?_slot (name := Str.ofString "__getitem__") ht.typeIs PyProof.Rows.slot_tuple_getitem
    (wpAny_call_entry PyProof.Rows.slot_tuple_getitem ht.typeIs entry_tuple_getitem ?_ (args_tuple_getitem _ _)))
  show wpAny _ _ (Builtin.Tuple.tupleItemsOf (.ref t) >>= _) _ _ s
  refine wpAny_bind (tupleItemsOf_ ht ?_)
  refine wpAny_bind (wpAny_typeOf hTs ?_)
  rw [if_pos (by decide)]
  refine wpAny_bind (sliceApplied_rev hs ps ?_)
  have hno : ¬ ((((items.size : Int) - 1) == 0 && (-1 : Int) == 1 && items.size == items.size) = true) := by
    intro q
    rw [Bool.and_eq_true, Bool.and_eq_true] at q
    exact absurd q.1.2 (by decide)
  show wpAny _ _ (if (((items.size : Int) - 1) == 0 && (-1 : Int) == 1 && items.size == items.size) = true then _ else _) _ _ s
  rw [if_neg hno, rev_pick]
  first
    | exact wpAny_bind (m := Builtin.Tuple.tupleExact _) (wpAny_newObj_type (wpAny_pure ⟨_, rfl, wpAny_pure h⟩) htake)
    | exact wpAny_bind (m := Builtin.Tuple.tupleExact _) (wpAny_newObj_type (wpAny_bind (wpAny_pure (wpAny_pure ⟨_, rfl, wpAny_pure h⟩))) htake)
    | exact wpAny_bind (wpAny_bind (m := Builtin.Tuple.tupleExact _) (wpAny_newObj_type (wpAny_pure (wpAny_pure ⟨_, rfl, wpAny_pure h⟩)) htake))
    | exact wpAny_bind (wpAny_bind (m := Builtin.Tuple.tupleExact _) (wpAny_newObj_type (wpAny_pure ⟨_, rfl, wpAny_pure h⟩) htake))
end
theorem pe_step {e st : Expr} {te ts : TE} {p3 pos : Pos} (he : PE X e te) (hst : PE X st ts) :
    PE X (.Subscript e (.Slice none none (some st) p3) pos) (fun σ H Q => te σ H fun x H1 => tPart ts σ H1 fun y H2 => ∃ k : Int, y = some k ∧ (k = 1 ∨ k = -1) ∧ ((∃ a xs, x = .ref a ∧ SqL X.K H2 a xs ∧ ∀ p, H2 p = none → Q (.ref p) (upd H2 p (.lst (stepL xs k)))) ∨
      (∃ a xs, x = .ref a ∧ SqT X.K H2 a xs ∧ (k = 1 → Q (.ref a) H2) ∧ (k = -1 → ∀ p its, H2 p = none → Q (.ref p) (upd H2 p (.frz (tO its) (.tup xs.reverse))))))) := by
  refine ⟨fun pins s σ H Q I h => ?_⟩
  refine Subscript_ (thn (he.run pins s σ H _ I h) fun v s1 ⟨x, H1, I1, r1, q1⟩ => ?_)
  refine wpAny_Slice (thn (po_none.run pins s1 σ H1 (fun o H2 => o = none ∧ H2 = H1) I1 ⟨rfl, rfl⟩) fun vl s2 ⟨l, H2, I2, pl, el, e2⟩ => ?_)
  subst el e2
  refine thn (po_none.run pins s2 σ H2 (fun o H3 => o = none ∧ H3 = H2) I2 ⟨rfl, rfl⟩) fun vu s3 ⟨u, H3, I3, pu, eu, e3⟩ => ?_
  subst eu e3
  refine thn ((po_some hst).run pins s3 σ H3 (fun o H4 => ∃ k : Int, o = some k ∧ (k = 1 ∨ k = -1) ∧ ((∃ a xs, x = .ref a ∧ SqL X.K H4 a xs ∧ ∀ p, H4 p = none → Q (.ref p) (upd H4 p (.lst (stepL xs k)))) ∨
      (∃ a xs, x = .ref a ∧ SqT X.K H4 a xs ∧ (k = 1 → Q (.ref a) H4) ∧ (k = -1 → ∀ p its, H4 p = none → Q (.ref p) (upd H4 p (.frz (tO its) (.tup xs.reverse))))))) I3 q1) fun vs s4 ⟨o, H4, I4, ps, k, eo, hk, q⟩ => ?_
  subst eo
  have I5 : Inv X pins σ H4 { s4 with heap := s4.heap.push { cls := .type "slice", data := .fields #[vl, vu, vs] } } := I4.kept (t' := s4.toks) fun b ob q => Heap.get?_push_of_some _ q
  rcases q with ⟨a, xs, rfl, hx, q⟩ | ⟨a, xs, rfl, hx, qa, qb⟩
  · cases r1
    obtain ⟨its, r, ht, hz⟩ := I5.list hx
    have hlen := r.length
    show wpAny (model X.prog X.w) X.A (subscriptTail e (.Slice none none (some st) p3) (.ref a) (.ref s4.heap.objs.size)) (EP X pins σ Q) X.xe { s4 with heap := s4.heap.push { cls := .type "slice", data := .fields #[vl, vu, vs] } }
    refine tail_any (ops := [.ref a, .ref s4.heap.objs.size]) ht.isList.typeIs (PySem.slot_list_getitem.lookup) ?_ (by with_unfolding_all rfl)
    refine wpAny_getItem_list_slice ht.isList (Heap.IsSliceOf.new _ vl vu vs) pl pu ps (by rcases hk with rfl | rfl <;> decide) ?_ (by rw [List.size_toArray]; omega)
    rw [pick_step _ hk]
    refine ⟨.ref _, _, I5.laid (t' := s4.toks) (o := .lst (stepL xs k)) (fun b ob q => Heap.get?_push_of_some _ q) (Nat.le_refl _) ?_, rfl, q _ (I5.hok.fresh (Nat.le_refl _))⟩
    exact ⟨by rw [stepL_len _ hk]; exact hz, _, 0, vals_step r hk, Heap.get?_push_size _ rfl⟩
  · cases r1
    obtain ⟨its, r, ht, hz⟩ := I5.tuple hx
    have hlen := r.length
    cases pl
    cases pu
    show wpAny (model X.prog X.w) X.A (subscriptTail e (.Slice none none (some st) p3) (.ref a) (.ref s4.heap.objs.size)) (EP X pins σ Q) X.xe { s4 with heap := s4.heap.push { cls := .type "slice", data := .fields #[.none, .none, vs] } }
    refine tail_any (ops := [.ref a, .ref s4.heap.objs.size]) ht.typeIs (PyProof.Rows.slot_tuple_getitem.lookup) ?_ (by with_unfolding_all rfl)
    rcases hk with rfl | rfl
    · exact getItem_tuple_one ht (Heap.IsSliceOf.new _ .none .none vs) ps ⟨.ref a, _, I5, rfl, qa rfl⟩
    · refine getItem_tuple_rev ht (Heap.IsSliceOf.new _ .none .none vs) ps ?_ (by rw [List.size_toArray]; omega)
      refine ⟨.ref _, _, I5.laid (t' := s4.toks) (o := .frz (tO its.reverse) (.tup xs.reverse)) (fun b ob q => Heap.get?_push_of_some _ q) (Nat.le_refl _) ?_, rfl, qb rfl _ _ (I5.hok.fresh (Nat.le_refl _))⟩
      exact ⟨Heap.get?_push_size _ rfl, by rw [List.length_reverse]; exact hz, its.reverse, r.reverse, IsTup.new _ _⟩
theorem de_slst {a st : M} {x l : Expr} {p3 pos : Pos} (ha : DE X nm x (wE C a)) (hs : DE X nm l (wE C st)) : DE X nm (.Subscript x (.Slice none none (some l) p3) pos) (wE C (.slst a st)) := by
  refine PE.imp (pe_step ha hs) fun σ H Q q => ?_
  obtain ⟨sa, m, h, Qa, Ea, rs, rh, w, tk, fin⟩ := q
  simp only [wE] at w
  refine ⟨sa, m, h, _, Ea, rs, rh, w, tk, fun v H1 m1 d1 h1 rv rh1 ex1 q1 => ⟨sa, m1, h1, _, Ea, rs.ext ex1, rh1, q1, tk_ext tk ex1, fun v2 H2 m2 d2 h2 rv2 rh2 ex2 q2 => ?_⟩⟩
  cases rv2 with
  | int k =>
    obtain ⟨hk, q3⟩ := q2
    have ex := ex1.trans ex2
    refine ⟨k, rfl, k, rfl, hk, ?_⟩
    cases rv with
    | @tup a xs ds h1' h2' =>
      refine .inr ⟨a, xs, rfl, (ex2.sqU h1').sqT, fun e => ?_, fun e p its hp => ?_⟩
      · subst e
        exact fin _ _ _ _ _ (.tup (ex2.sqU h1') (h2'.ext ex2)) rh2 ex (by simpa [stepL] using q3)
      · subst e
        obtain ⟨a1, a2, a3⟩ := new_tup its rh2 hp (h2'.ext ex2).reverse
        exact fin _ _ _ _ _ a1 a2 (ex.trans a3) (by simpa [stepL] using q3)
    | @rol a xs ds h1' h2' =>
      refine .inl ⟨a, xs, rfl, (ex2.sqF h1').sq, fun p hp => ?_⟩
      obtain ⟨a1, a2, a3⟩ := new_lst rh2 hp ((h2'.ext ex2).step hk)
      exact fin _ _ _ _ _ a1 a2 (ex.trans a3) q3
    | @ref a n hm =>
      obtain ⟨xs, e1, q3⟩ := q3
      obtain ⟨a', vs, e2, _, e3, e4⟩ := the_lst rh2 ((RV.ref hm).ext ex2) e1
      cases e2
      refine .inl ⟨a, vs, rfl, SqL.of e3, fun p hp => ?_⟩
      obtain ⟨a1, a2, a3⟩ := new_lst rh2 hp (e4.step hk)
      exact fin _ _ _ _ _ a1 a2 (ex.trans a3) q3
    | _ => exact q3.elim
  | _ => exact q2.elim
theorem de_lrng {a : M} {x z : Str} {y : Expr} {p pz pc pos : Pos} (k : Ct X nm G C) (hn : nameB X.env.scope (Str.ofString "list") x = true) (hz : nameB X.env.scope (Str.ofString "range") z = true) (ha : DE X nm y (wE C a)) (hs : starEach [y] X.env = [(false, eval y X.env)]) :
    DE X nm (.Call (.Name x p) [.Call (.Name z pz) [y] [] pc] [] pos) (wE C (.lrng a)) := by
  obtain ⟨rfl, hg, _⟩ := nameB_ok hn
  obtain ⟨rfl, hg2, _⟩ := nameB_ok hz
  refine PE.imp (pe_listRg k.calm hg (k.blt _ (by simp [bltS])) (prg_1 hg2 (k.blt _ (by simp [bltS])) ha hs) rfl) fun σ H Q q => ?_
  obtain ⟨sa, m, h, Qa, Ea, rs, rh, w, tk, fin⟩ := q
  simp only [wE] at w
  refine ⟨sa, m, h, _, Ea, rs, rh, w, tk, fun v H1 m1 d1 h1 rv rh1 ex1 q1 => ?_⟩
  cases rv with
  | int n =>
    obtain ⟨⟨b1, b2⟩, q2⟩ := q1
    refine ⟨n, rfl, ⟨by omega, by omega, by omega, by omega, by omega⟩, fun p hp => ?_⟩
    have rz : RVs X.K H1 m1 (rgV 0 n) ((List.range n.toNat).map fun (i : Nat) => D.int (0 + (i : Int))) := by
      unfold rgV
      rw [Int.sub_zero]
      generalize List.range n.toNat = l
      induction l with
      | nil => exact .nil
      | cons i l ih => exact .cons (.int _) ih
    obtain ⟨a1, a2, a3⟩ := new_lst rh1 hp rz
    exact fin _ _ _ _ _ a1 a2 (ex1.trans a3) q2
  | _ => exact q1.elim
end
end Rf

namespace Rf
open PySem PySem.Spec PyProof.Rows L2
theorem chk_star {G : Gi} {N : List Str} {a : M} {sc : Scope} {e : Expr} (h : chkE G N a sc e = true) : notStar e = true := by
  cases e with
  | Starred => cases a <;> simp [chkE] at h
  | _ => rfl
theorem star_each {e : Expr} {es : List Expr} {env : Env} (h : notStar e = true) : starEach (e :: es) env = (false, eval e env) :: starEach es env := by
  cases e <;> first | rfl | (cases h; done)
theorem chkA_star {G : Gi} {N : List Str} {sc : Scope} : ∀ {as : M} {es : List Expr}, chkA G N as sc es = true → es.all notStar = true
  | .nil, es, h => by simp only [chkA, List.isEmpty_iff] at h; subst h; rfl
  | .cons a r, es, h => by
    cases es with
    | nil => simp [chkA] at h
    | cons e es =>
      simp only [chkA, Bool.and_eq_true] at h
      simp only [List.all_cons, Bool.and_eq_true]
      exact ⟨chk_star h.1, chkA_star h.2⟩
  | .var _, _, h | .k _, _, h | .glb _ _, _, h | .bin _ _ _, _, h | .neg _, _, h | .cmp _ _ _, _, h | .ch _ _ _ _ _, _, h | .and _ _, _, h | .or _ _, _, h | .not _, _, h | .ite _ _ _, _, h | .tup _, _, h | .lst _, _, h | .idx _ _, _, h | .slc _ _ _, _, h | .slst _ _, _, h | .call _ _, _, h | .bf _ _, _, h | .bm _ _ _, _, h | .isi _ _, _, h | .lrng _, _, h | .lc _ _ _ _ _, _, h | .rng1 _, _, h | .rng2 _ _, _, h | .enum _, _, h | .zip _ _, _, h | .tv _, _, h | .itv _, _, h => by simp [chkA] at h
theorem plain_any {env : Env} {pos : Pos} : ∀ {es : List Expr}, es.all notStar = true → (backTo pos (starEach es env)).any (·.1) = false
  | [], _ => rfl
  | e :: es, h => by
    simp only [List.all_cons, Bool.and_eq_true] at h
    rw [star_each h.1]
    have := plain_any (env := env) (pos := pos) h.2
    show (false || (backTo pos (starEach es env)).any (·.1)) = false
    rw [this]; rfl
theorem few_ok {env : Env} {pos : Pos} {es : List Expr} (h : es.all notStar = true) (hl : es.length < 30) : ((backTo pos (starEach es env)).all (fun x => !x.1) && (backToKw pos (keywordEach [] env)).all (fun x => x.1.isSome)
      && decide (es.length + ([] : List Keyword).length + (if ([] : List Keyword).isEmpty then 0 else 1) < 30)) = true := by
  have := plain_any (env := env) (pos := pos) h
  have e : (backTo pos (starEach es env)).all (fun x => !x.1) = true := by
    rw [List.all_eq_true]
    rw [List.any_eq_false] at this
    intro x hx
    have := this x hx
    simp at this
    simp [this]
  rw [e]
  simp [backToKw, keywordEach]
  exact hl
def isBool : Expr → Bool
  | .BoolOp .. => true
  | _ => false
structure Snd (nm : Nm) (G : Gi) (C : CT) (a : M) : Prop where
  E : ∀ (X : Cx) (e : Expr), Ct X nm G C → chkE G X.N a X.env.scope e = true → DE X nm e (wE C a)
  A : ∀ (X : Cx) (es : List Expr), Ct X nm G C → chkA G X.N a X.env.scope es = true → PA X es (LA X nm (wA C a))
  O : ∀ (X : Cx) (o : Option Expr), Ct X nm G C → chkO G X.N a X.env.scope o = true → PO X o (LO X nm (wO C a))
  T : ∀ (X : Cx) (e : Expr), Ct X nm G C → chkT G X.N a X.env.scope e = true → PT X e (LT X nm (wT C a)) ∧ (isBool e = true → PW X e (LT X nm (wT C a)))
  I : ∀ (X : Cx) (t e : Expr), Ct X nm G C → chkI G X.N a X.env.scope t e = true → PI X t e (LI X nm (wI C a))
theorem tgB1_ok {X : Cx} {i : Nat} {e : Expr} (h : tgB1 X.N X.env.scope i e = true) (hf : ∀ x, X.fn x = true) : ∃ x p, e = .Name x p ∧ StOk X i x := by
  cases e <;> simp only [tgB1] at h <;> first | (cases h; done) | skip
  simp only [Bool.and_eq_true, decide_eq_true_eq] at h
  exact ⟨_, _, rfl, h.1, locB_ok h.2.1, .inl (hf _)⟩
theorem tgBs_ok {X : Cx} (hf : ∀ x, X.fn x = true) : ∀ {is : List Nat} {es : List Expr}, tgBs X.N X.env.scope is es = true → NamesOk X is es
  | [], [], _ => .nil
  | [], _ :: _, h => by simp [tgBs] at h
  | _ :: _, [], h => by simp [tgBs] at h
  | i :: is, e :: es, h => by
    simp only [tgBs, Bool.and_eq_true] at h
    obtain ⟨x, p, rfl, o⟩ := tgB1_ok h.1 hf
    exact .cons o (tgBs_ok hf h.2)
theorem tgB_ok {X : Cx} {nm : Nm} {G : Gi} {C : CT} {tg : Tg} {t : Expr} (k : Ct X nm G C) (hf : ∀ x, X.fn x = true) (h : tgB X.N X.env.scope tg t = true) : PG X t (LG X nm tg) := by
  cases tg with
  | one i =>
    obtain ⟨x, p, rfl, o⟩ := tgB1_ok (e := t) h hf
    exact dg_one k.nd o
  | many is =>
    cases t <;> simp only [tgB] at h <;> first | (cases h; done) | skip
    exact dg_many k (tgBs_ok hf h)
/-! ### targets of a comprehension -/
theorem blk_st {X : Cx} {s : Shared} {H : Hp} {scope : Scope} {cl : List (Str × Addr)} {A : Addr} {fp : List Addr} {i : Nat} {x : Str} (hi : X.N[i]? = some x) (h : L2.Loc scope x) : StOk (X.blk s H scope (compEnvC scope cl A X.env) fp) i x := by
  have keep : ∀ {k : NameKind}, k ≠ .free → scope.names.lookup x = some k → (compEnvC scope cl A X.env).scope.names.lookup x = some k := fun hk e => lookup_relS_keep hk e
  rcases h with h | h
  · exact ⟨hi, .inl (keep (by decide) h), .inr (keep (by decide) h)⟩
  · exact ⟨hi, .inr (keep (by decide) h), .inl (by show (scope.names.lookup x == some .cell) = true; rw [h]; rfl)⟩
theorem blk_tgs {X : Cx} {s : Shared} {H : Hp} {scope : Scope} {cl : List (Str × Addr)} {A : Addr} {fp : List Addr} : ∀ {is : List Nat} {es : List Expr}, tgBs X.N scope is es = true → NamesOk (X.blk s H scope (compEnvC scope cl A X.env) fp) is es
  | [], [], _ => .nil
  | [], _ :: _, h => by simp [tgBs] at h
  | _ :: _, [], h => by simp [tgBs] at h
  | i :: is, e :: es, h => by
    simp only [tgBs, Bool.and_eq_true] at h
    obtain ⟨h1, h2⟩ := h
    cases e <;> simp only [tgB1] at h1 <;> first | (cases h1; done) | skip
    simp only [Bool.and_eq_true, decide_eq_true_eq] at h1
    exact .cons (blk_st h1.1 (locB_ok h1.2.1)) (blk_tgs h2)
theorem blk_tg {X : Cx} {nm : Nm} {G : Gi} {C : CT} {s : Shared} {H : Hp} {scope : Scope} {cl : List (Str × Addr)} {A : Addr} {fp : List Addr} {tg : Tg} {t : Expr} (k : Ct X nm G C) (h : tgB X.N scope tg t = true) :
    PG (X.blk s H scope (compEnvC scope cl A X.env) fp) t (LG (X.blk s H scope (compEnvC scope cl A X.env) fp) nm tg) := by
  cases tg with
  | one i =>
    simp only [tgB] at h
    cases t <;> simp only [tgB1] at h <;> first | (cases h; done) | skip
    simp only [Bool.and_eq_true, decide_eq_true_eq] at h
    exact dg_one k.nd (blk_st h.1 (locB_ok h.2.1))
  | many is =>
    cases t <;> simp only [tgB] at h <;> first | (cases h; done) | skip
    exact dg_many (k.blk _ _ _ _ _) (blk_tgs h)
theorem own_ix (N : List Str) (own : List Nat) : (ownOf N own).map (·.2) = own := by
  unfold ownOf
  rw [List.map_map]
  exact List.map_id own
section
variable {nm : Nm} {G : Gi} {C : CT}
/-- the parts of a comprehension -/
structure LcOk (nm : Nm) (G : Gi) (C : CT) (X : Cx) (el : M) (tg : Tg) (src c : M) (own : List Nat) (x t it : Expr) (ifs : List Expr) (s : Scope) : Prop where
  blk : BlkOk X.N X.env.scope s (ownOf X.N own)
  sub : ∀ i ∈ tgSlots tg, i ∈ own
  pit : PI X t it (LI X nm (wI C src))
  nset : ∀ v, foldedSetIterable it X.env v = pure v
  tg : ∀ (sh : Shared) (H : Hp) (A : Addr) (cl : List (Str × Addr)) (fp : List Addr), PG (X.blk sh H s (compEnvC s cl A X.env) fp) t (LG (X.blk sh H s (compEnvC s cl A X.env) fp) nm tg)
  ifs : ∀ (sh : Shared) (H : Hp) (A : Addr) (cl : List (Str × Addr)) (fp : List Addr), PTs (X.blk sh H s (compEnvC s cl A X.env) fp) ifs (LT (X.blk sh H s (compEnvC s cl A X.env) fp) nm (wT C c))
  el : ∀ (sh : Shared) (H : Hp) (A : Addr) (cl : List (Str × Addr)) (fp : List Addr), DE (X.blk sh H s (compEnvC s cl A X.env) fp) nm x (wE C el)
theorem pts_yes {X : Cx} : PTs X [] (LT X nm (wT C .nil)) := ⟨fun pins s σ H Q I q => pts_nil.run pins s σ H Q I (by
  obtain ⟨sa, m, h, Qa, Ea, rs, rh, w, tk, fin⟩ := q
  simp only [wT] at w
  exact fin _ _ _ _ rh .refl w)⟩
theorem set_no {it : Expr} {env : Env} (h : notSet it = true) (v : Value) : foldedSetIterable it env v = pure v := by
  cases it <;> first | rfl | (cases h; done)
theorem lc_ok {X : Cx} {el src c : M} {tg : Tg} {own : List Nat} {e : Expr} (k : Ct X nm G C) (hel : Snd nm G C el) (hsrc : Snd nm G C src) (hc : Snd nm G C c) (h : chkE G X.N (.lc el tg src c own) X.env.scope e = true) :
    ∃ x t it ifs s p, e = .ListComp x [⟨t, it, ifs, 0⟩] s p ∧ LcOk nm G C X el tg src c own x t it ifs s := by
  simp only [chkE] at h
  split at h
  · rename_i x t it ifs s p
    simp only [Bool.and_eq_true] at h
    obtain ⟨h1, h2, h3, h4, h5, h6⟩ := h
    have hset : notSet it = true := by
      cases it <;> first | rfl | (cases src <;> simp [chkI] at h4)
      all_goals (try (rename_i q; simp [notSet] at q))
      all_goals (try (simp [notSet] at h4))
    refine ⟨x, t, it, ifs, s, p, rfl, blkOk_by h1, fun i hi => ?_, hsrc.I X t it k h4, set_no hset, fun sh H A cl fp => blk_tg k h3, fun sh H A cl fp => ?_, fun sh H A cl fp => hel.E _ _ (k.blk _ _ _ _ _) h6⟩
    · have := List.all_eq_true.mp h2 i hi
      simpa using this
    · split at h5
      · split at h5
        · exact pts_yes
        · cases h5
      · rename_i f
        split at h5
        · cases h5
        · exact pts_one (hc.T _ _ (k.blk _ _ _ _ _) h5).1
      · cases h5
  · cases h
theorem Snd.A1 {a : M} (s : Snd nm G C (.cons a .nil)) {X : Cx} {y : Expr} (k : Ct X nm G C) (h : chkE G X.N a X.env.scope y = true) (ha : Snd nm G C a) : DE X nm y (wE C a) := ha.E X y k h
theorem base_ok {N : List Str} {sc : Scope} {o : M} {x : Expr} {n : Str} {env : Env} (h : chkE G N o sc x = true) : attributeBase x n env (eval x env) = eval x env := by
  unfold attributeBase
  split
  · cases o <;> simp [chkE] at h
  · rfl
theorem snd : ∀ a : M, Snd nm G C a := by
  intro a
  induction a with
  | nil   =>
    refine ⟨?_, ?_, ?_, ?_, ?_⟩
    · intro X e k h
      simp [chkE] at h
    · intro X es k h
      simp only [chkA, List.isEmpty_iff] at h
      subst h
      exact da_nil
    · intro X o k h
      simp only [chkO, Option.isNone_iff_eq_none] at h
      subst h
      exact do_nil
    · intro X e k h
      simp [chkT] at h
    · intro X t e k h
      simp [chkI] at h
  | cons a r iha ihr =>
    refine ⟨?_, ?_, ?_, ?_, ?_⟩
    · intro X e k h
      simp [chkE] at h
    · intro X es k h
      cases es with
      | nil => simp [chkA] at h
      | cons e es =>
        simp only [chkA, Bool.and_eq_true] at h
        exact da_cons (iha.E X e k h.1) (ihr.A X es k h.2) (star_each (chk_star h.1))
    · intro X o k h
      cases o with
      | none => simp [chkO] at h
      | some e =>
        simp only [chkO] at h
        exact do_some (iha.E X e k h)
    · intro X e k h
      simp [chkT] at h
    · intro X t e k h
      simp [chkI] at h
  | var i  =>
    refine ⟨?_, ?_, ?_, ?_, ?_⟩
    · intro X e k h
      simp only [chkE] at h
      split at h
      · exact de_var h
      · cases h
    · intro X es k h
      simp [chkA] at h
    · intro X o k h
      simp [chkO] at h
    · intro X e k h
      simp [chkT] at h
    · intro X t e k h
      simp [chkI] at h
  | k d  =>
    refine ⟨?_, ?_, ?_, ?_, ?_⟩
    · intro X e k h
      simp only [chkE] at h
      split at h
      · exact de_k h
      · cases h
    · intro X es k h
      simp [chkA] at h
    · intro X o k h
      simp [chkO] at h
    · intro X e k h
      simp [chkT] at h
    · intro X t e k h
      simp [chkI] at h
  | glb x d  =>
    refine ⟨?_, ?_, ?_, ?_, ?_⟩
    · intro X e k h
      simp only [chkE] at h
      split at h
      · split at h
        · rename_i y d' he
          simp only [Bool.and_eq_true] at h
          have := D.same_eq h.1
          subst this
          exact de_glb k he h.2
        · cases h
      · cases h
    · intro X es k h
      simp [chkA] at h
    · intro X o k h
      simp [chkO] at h
    · intro X e k h
      simp [chkT] at h
    · intro X t e k h
      simp [chkI] at h
  | bin op a b iha ihb =>
    refine ⟨?_, ?_, ?_, ?_, ?_⟩
    · intro X e k h
      simp only [chkE] at h
      split at h
      · simp only [Bool.and_eq_true, decide_eq_true_eq] at h
        obtain ⟨rfl, h1, h2⟩ := h
        exact de_bin k (iha.E X _ k h1) (ihb.E X _ k h2)
      · cases h
    · intro X es k h
      simp [chkA] at h
    · intro X o k h
      simp [chkO] at h
    · intro X e k h
      simp [chkT] at h
    · intro X t e k h
      simp [chkI] at h
  | neg a iha =>
    refine ⟨?_, ?_, ?_, ?_, ?_⟩
    · intro X e k h
      simp only [chkE] at h
      split at h
      · exact de_neg (iha.E X _ k h)
      · cases h
    · intro X es k h
      simp [chkA] at h
    · intro X o k h
      simp [chkO] at h
    · intro X e k h
      simp [chkT] at h
    · intro X t e k h
      simp [chkI] at h
  | cmp op a b iha ihb =>
    refine ⟨?_, ?_, ?_, ?_, ?_⟩
    · intro X e k h
      simp only [chkE] at h
      split at h
      · simp only [Bool.and_eq_true, decide_eq_true_eq] at h
        obtain ⟨rfl, h0, h1, h2⟩ := h
        exact de_cmp k h0 (iha.E X _ k h1) (ihb.E X _ k h2)
      · cases h
    · intro X es k h
      simp [chkA] at h
    · intro X o k h
      simp [chkO] at h
    · intro X e k h
      simp only [chkT] at h
      split at h
      · simp only [Bool.and_eq_true, decide_eq_true_eq] at h
        obtain ⟨rfl, h0, h1, h2⟩ := h
        exact ⟨dt_cmp k h0 (iha.E X _ k h1) (ihb.E X _ k h2), fun z => nomatch z⟩
      · cases h
    · intro X t e k h
      simp [chkI] at h
  | ch o1 o2 a b c iha ihb ihc =>
    refine ⟨?_, ?_, ?_, ?_, ?_⟩
    · intro X e k h
      simp only [chkE] at h
      split at h
      · simp only [Bool.and_eq_true, decide_eq_true_eq] at h
        obtain ⟨rfl, rfl, h0, h1, h2, h3⟩ := h
        exact de_ch k h0 (iha.E X _ k h1) (ihb.E X _ k h2) (ihc.E X _ k h3)
      · cases h
    · intro X es k h
      simp [chkA] at h
    · intro X o k h
      simp [chkO] at h
    · intro X e k h
      simp only [chkT] at h
      split at h
      · simp only [Bool.and_eq_true, decide_eq_true_eq] at h
        obtain ⟨rfl, rfl, h0, h1, h2, h3⟩ := h
        exact ⟨dt_ch k h0 (iha.E X _ k h1) (ihb.E X _ k h2) (ihc.E X _ k h3), fun z => nomatch z⟩
      · cases h
    · intro X t e k h
      simp [chkI] at h
  | and a b iha ihb =>
    refine ⟨?_, ?_, ?_, ?_, ?_⟩
    · intro X e k h
      simp only [chkE] at h
      split at h
      · simp only [Bool.and_eq_true] at h
        obtain ⟨h1, h2⟩ := h
        split at h2
        · exact de_and (iha.E X _ k h1) (pe_one (ihb.E X _ k h2))
        · exact de_and (iha.E X _ k h1) (ihb.E X _ k h2)
      · cases h
    · intro X es k h
      simp [chkA] at h
    · intro X o k h
      simp [chkO] at h
    · intro X e k h
      simp only [chkT] at h
      split at h
      · simp only [Bool.and_eq_true] at h
        obtain ⟨h1, h2⟩ := h
        split at h2
        · exact ⟨(dt_and (iha.T X _ k h1).1 (pw_and1 (ihb.T X _ k h2).1)).pt, fun _ => dt_and (iha.T X _ k h1).1 (pw_and1 (ihb.T X _ k h2).1)⟩
        · exact ⟨(dt_and (iha.T X _ k h1).1 ((ihb.T X _ k h2).2 rfl)).pt, fun _ => dt_and (iha.T X _ k h1).1 ((ihb.T X _ k h2).2 rfl)⟩
      · cases h
    · intro X t e k h
      simp [chkI] at h
  | or a b iha ihb =>
    refine ⟨?_, ?_, ?_, ?_, ?_⟩
    · intro X e k h
      simp only [chkE] at h
      split at h
      · simp only [Bool.and_eq_true] at h
        obtain ⟨h1, h2⟩ := h
        split at h2
        · exact de_or (iha.E X _ k h1) (pe_one (ihb.E X _ k h2))
        · exact de_or (iha.E X _ k h1) (ihb.E X _ k h2)
      · cases h
    · intro X es k h
      simp [chkA] at h
    · intro X o k h
      simp [chkO] at h
    · intro X e k h
      simp only [chkT] at h
      split at h
      · simp only [Bool.and_eq_true] at h
        obtain ⟨h1, h2⟩ := h
        split at h2
        · exact ⟨(dt_or (iha.T X _ k h1).1 (pw_or1 (ihb.T X _ k h2).1)).pt, fun _ => dt_or (iha.T X _ k h1).1 (pw_or1 (ihb.T X _ k h2).1)⟩
        · exact ⟨(dt_or (iha.T X _ k h1).1 ((ihb.T X _ k h2).2 rfl)).pt, fun _ => dt_or (iha.T X _ k h1).1 ((ihb.T X _ k h2).2 rfl)⟩
      · cases h
    · intro X t e k h
      simp [chkI] at h
  | not a iha =>
    refine ⟨?_, ?_, ?_, ?_, ?_⟩
    · intro X e k h
      simp only [chkE] at h
      split at h
      · exact de_not (iha.E X _ k h)
      · cases h
    · intro X es k h
      simp [chkA] at h
    · intro X o k h
      simp [chkO] at h
    · intro X e k h
      simp only [chkT] at h
      split at h
      · exact ⟨dt_not (iha.T X _ k h).1, fun z => nomatch z⟩
      · cases h
    · intro X t e k h
      simp [chkI] at h
  | ite c a b ihc iha ihb =>
    refine ⟨?_, ?_, ?_, ?_, ?_⟩
    · intro X e k h
      simp only [chkE] at h
      split at h
      · simp only [Bool.and_eq_true, decide_eq_true_eq] at h
        exact de_ite (ihc.T X _ k h.1).1 (iha.E X _ k h.2.1) (ihb.E X _ k h.2.2)
      · cases h
    · intro X es k h
      simp [chkA] at h
    · intro X o k h
      simp [chkO] at h
    · intro X e k h
      simp [chkT] at h
    · intro X t e k h
      simp [chkI] at h
  | tup as ihas =>
    refine ⟨?_, ?_, ?_, ?_, ?_⟩
    · intro X e k h
      simp only [chkE] at h
      split at h
      · exact de_tup (ihas.A X _ k h)
      · cases h
    · intro X es k h
      simp [chkA] at h
    · intro X o k h
      simp [chkO] at h
    · intro X e k h
      simp [chkT] at h
    · intro X t e k h
      simp [chkI] at h
  | lst as ihas =>
    refine ⟨?_, ?_, ?_, ?_, ?_⟩
    · intro X e k h
      simp only [chkE] at h
      split at h
      · exact de_lst (ihas.A X _ k h)
      · cases h
    · intro X es k h
      simp [chkA] at h
    · intro X o k h
      simp [chkO] at h
    · intro X e k h
      simp [chkT] at h
    · intro X t e k h
      simp [chkI] at h
  | idx a i iha ihi =>
    refine ⟨?_, ?_, ?_, ?_, ?_⟩
    · intro X e k h
      simp only [chkE] at h
      split at h
      · simp only [Bool.and_eq_true, decide_eq_true_eq] at h
        exact de_idx (iha.E X _ k h.2.1) (ihi.E X _ k h.2.2) h.1
      · cases h
    · intro X es k h
      simp [chkA] at h
    · intro X o k h
      simp [chkO] at h
    · intro X e k h
      simp [chkT] at h
    · intro X t e k h
      simp [chkI] at h
  | slc a lo hi iha ihlo ihhi =>
    refine ⟨?_, ?_, ?_, ?_, ?_⟩
    · intro X e k h
      simp only [chkE] at h
      split at h
      · simp only [Bool.and_eq_true, decide_eq_true_eq] at h
        exact de_slc (iha.E X _ k h.1) (ihlo.O X _ k h.2.1) (ihhi.O X _ k h.2.2)
      · cases h
    · intro X es k h
      simp [chkA] at h
    · intro X o k h
      simp [chkO] at h
    · intro X e k h
      simp [chkT] at h
    · intro X t e k h
      simp [chkI] at h
  | slst a st iha ihst =>
    refine ⟨?_, ?_, ?_, ?_, ?_⟩
    · intro X e k h
      simp only [chkE] at h
      split at h
      · simp only [Bool.and_eq_true, decide_eq_true_eq] at h
        exact de_slst (iha.E X _ k h.1) (ihst.E X _ k h.2)
      · cases h
    · intro X es k h
      simp [chkA] at h
    · intro X o k h
      simp [chkO] at h
    · intro X e k h
      simp [chkT] at h
    · intro X t e k h
      simp [chkI] at h
  | call f as ihas =>
    refine ⟨?_, ?_, ?_, ?_, ?_⟩
    · intro X e k h
      simp only [chkE] at h
      split at h
      · rename_i x p es pos
        simp only [Bool.and_eq_true] at h
        obtain ⟨h1, h0, h2⟩ := h
        split at h1
        · rename_i y hy
          cases es with
          | nil => cases h0
          | cons e es =>
            have hs := chkA_star h2
            simp only [List.all_cons, Bool.and_eq_true] at hs
            exact de_call k hy h1 (ihas.A X _ k h2) (star_each hs.1) (plain_any hs.2)
        · cases h1
      · cases h
    · intro X es k h
      simp [chkA] at h
    · intro X o k h
      simp [chkO] at h
    · intro X e k h
      simp [chkT] at h
    · intro X t e k h
      simp [chkI] at h
  | bf f as ihas =>
    refine ⟨?_, ?_, ?_, ?_, ?_⟩
    · intro X e k h
      simp only [chkE] at h
      split at h
      · rename_i x p es pos
        simp only [Bool.and_eq_true] at h
        obtain ⟨h1, h0, h2⟩ := h
        cases es with
        | nil => cases h2.1
        | cons e es =>
          have hs := chkA_star h2.2
          simp only [List.all_cons, Bool.and_eq_true] at hs
          exact de_bf k h0 h1 (ihas.A X _ k h2.2) (star_each hs.1) (plain_any hs.2)
      · cases h
    · intro X es k h
      simp [chkA] at h
    · intro X o k h
      simp [chkO] at h
    · intro X e k h
      simp [chkT] at h
    · intro X t e k h
      simp [chkI] at h
  | bm f o as iho ihas =>
    refine ⟨?_, ?_, ?_, ?_, ?_⟩
    · intro X e k h
      simp only [chkE] at h
      split at h
      · rename_i x n p es q
        simp only [Bool.and_eq_true, decide_eq_true_eq] at h
        obtain ⟨rfl, h1, h0, h2, h3⟩ := h
        have hb : attributeBase x (bmN f) X.env (eval x X.env) = eval x X.env := base_ok h2
        have hl : (p.endLine == q.line) = true := by rw [h1]; exact beq_self_eq_true _
        cases es with
        | nil =>
          cases as <;> first | (simp [chkA] at h3; done) | skip
          exact de_bm0 k (iho.E X _ k h2) hb hl
        | cons e es =>
          have hs := chkA_star h3
          have hs' := hs
          simp only [List.all_cons, Bool.and_eq_true] at hs
          exact de_bm k (iho.E X _ k h2) (ihas.A X _ k h3) hb (few_ok hs' h0) hl (star_each hs.1) (plain_any hs.2)
      · cases h
    · intro X es k h
      simp [chkA] at h
    · intro X o k h
      simp [chkO] at h
    · intro X e k h
      simp [chkT] at h
    · intro X t e k h
      simp [chkI] at h
  | isi t a iha =>
    refine ⟨?_, ?_, ?_, ?_, ?_⟩
    · intro X e k h
      simp only [chkE] at h
      split at h
      · simp only [Bool.and_eq_true] at h
        exact de_isi k h.1 h.2.1 (iha.E X _ k h.2.2) (star_each (chk_star h.2.2)) rfl rfl
      · cases h
    · intro X es k h
      simp [chkA] at h
    · intro X o k h
      simp [chkO] at h
    · intro X e k h
      simp [chkT] at h
    · intro X t e k h
      simp [chkI] at h
  | lrng a iha =>
    refine ⟨?_, ?_, ?_, ?_, ?_⟩
    · intro X e k h
      simp only [chkE] at h
      split at h
      · simp only [Bool.and_eq_true] at h
        exact de_lrng k h.1 h.2.1 (iha.E X _ k h.2.2) (star_each (chk_star h.2.2))
      · cases h
    · intro X es k h
      simp [chkA] at h
    · intro X o k h
      simp [chkO] at h
    · intro X e k h
      simp [chkT] at h
    · intro X t e k h
      simp [chkI] at h
  | lc e tg src c own ihe ihsrc ihc =>
    refine ⟨?_, ?_, ?_, ?_, ?_⟩
    · intro X e k h
      obtain ⟨x, t, it, ifs, s, p, rfl, ok⟩ := lc_ok k ihe ihsrc ihc h
      exact de_lc (x := x) k (own_ix _ _) ok.blk ok.sub ok.pit ok.nset ok.tg ok.ifs ok.el
    · intro X es k h
      simp [chkA] at h
    · intro X o k h
      simp [chkO] at h
    · intro X e k h
      simp [chkT] at h
    · intro X t e k h
      simp [chkI] at h
  | rng1 a iha =>
    refine ⟨?_, ?_, ?_, ?_, ?_⟩
    · intro X e k h
      simp [chkE] at h
    · intro X es k h
      simp [chkA] at h
    · intro X o k h
      simp [chkO] at h
    · intro X e k h
      simp [chkT] at h
    · intro X t e k h
      simp only [chkI] at h
      split at h
      · simp only [Bool.and_eq_true, decide_eq_true_eq] at h
        exact di_rng1 k h.1 (iha.E X _ k h.2) (star_each (chk_star h.2))
      · cases h
  | rng2 a b iha ihb =>
    refine ⟨?_, ?_, ?_, ?_, ?_⟩
    · intro X e k h
      simp [chkE] at h
    · intro X es k h
      simp [chkA] at h
    · intro X o k h
      simp [chkO] at h
    · intro X e k h
      simp [chkT] at h
    · intro X t e k h
      simp only [chkI] at h
      split at h
      · simp only [Bool.and_eq_true, decide_eq_true_eq] at h
        exact di_rng2 k h.1 (iha.E X _ k h.2.1) (ihb.E X _ k h.2.2) (by rw [star_each (chk_star h.2.1), star_each (chk_star h.2.2)]; rfl) (star_each (chk_star h.2.2))
      · cases h
  | enum a iha =>
    refine ⟨?_, ?_, ?_, ?_, ?_⟩
    · intro X e k h
      simp [chkE] at h
    · intro X es k h
      simp [chkA] at h
    · intro X o k h
      simp [chkO] at h
    · intro X e k h
      simp [chkT] at h
    · intro X t e k h
      simp only [chkI] at h
      simp only [Bool.and_eq_true] at h
      obtain ⟨h0, h⟩ := h
      cases t <;> first | (cases h0; done) | skip
      split at h
      · simp only [Bool.and_eq_true] at h
        exact di_enum k h.1 (iha.E X _ k h.2) (star_each (chk_star h.2))
      · cases h
  | zip a b iha ihb =>
    refine ⟨?_, ?_, ?_, ?_, ?_⟩
    · intro X e k h
      simp [chkE] at h
    · intro X es k h
      simp [chkA] at h
    · intro X o k h
      simp [chkO] at h
    · intro X e k h
      simp [chkT] at h
    · intro X t e k h
      simp only [chkI] at h
      simp only [Bool.and_eq_true] at h
      obtain ⟨h0, h⟩ := h
      cases t <;> first | (cases h0; done) | skip
      split at h
      · simp only [Bool.and_eq_true] at h
        have s2 := star_each (es := []) (env := X.env) (chk_star h.2.2)
        exact di_zip k h.1 (iha.E X _ k h.2.1) (ihb.E X _ k h.2.2) (star_each (chk_star h.2.1)) s2 (by rw [s2]; rfl)
      · cases h
  | tv a iha =>
    refine ⟨?_, ?_, ?_, ?_, ?_⟩
    · intro X e k h
      simp [chkE] at h
    · intro X es k h
      simp [chkA] at h
    · intro X o k h
      simp [chkO] at h
    · intro X e k h
      simp only [chkT] at h
      simp only [Bool.and_eq_true] at h
      obtain ⟨h1, h2⟩ := h
      split at h1
      · exact ⟨LT.tv (iha.E X _ k h2) fun _ => rfl, fun z => nomatch z⟩
      · exact ⟨LT.tv (iha.E X _ k h2) fun _ => rfl, fun z => nomatch z⟩
      · exact ⟨LT.tv (iha.E X _ k h2) fun _ => rfl, fun z => nomatch z⟩
      · exact ⟨LT.tv (iha.E X _ k h2) fun _ => rfl, fun z => nomatch z⟩
      · cases h1
    · intro X t e k h
      simp [chkI] at h
  | itv a iha =>
    refine ⟨?_, ?_, ?_, ?_, ?_⟩
    · intro X e k h
      simp [chkE] at h
    · intro X es k h
      simp [chkA] at h
    · intro X o k h
      simp [chkO] at h
    · intro X e k h
      simp [chkT] at h
    · intro X t e k h
      simp only [chkI] at h
      simp only [Bool.and_eq_true] at h
      exact di_itv (iha.E X _ k h.2)
end
end Rf

namespace Rf
open PySem PySem.Spec PyProof.Rows L2
/-- what holds within a def's body -/
structure StC (X : Cx) : Prop where
  hp : PassesOwn (model X.prog X.w) X.A X.env X.xe
  fn : ∀ x, X.fn x = true
  bk : X.env.blockKind = .function
theorem sw_swap {env : Env} {x : Str} {el : Expr} {gs : List Comprehension} {s : Scope} {p q vp : Pos} (hk : env.blockKind = .function) (h : swOf x env.scope p q (.ListComp el gs s vp) = .swap) :
    swapsWith (.ListComp el gs s vp) (some (.Name x p)) q.line env = pure true ∧ env.scope.names.lookup x = some .local := by
  unfold swOf at h
  simp only [] at h
  split at h
  · rename_i hc
    simp only [Bool.and_eq_true, decide_eq_true_eq, Bool.not_eq_true'] at hc
    obtain ⟨h1, h2, h3, h4⟩ := hc
    refine ⟨?_, h1⟩
    have e1 : (env.kindOf x == some .local) = true := by show (env.scope.names.lookup x == some .local) = true; rw [h1]; rfl
    have e0 : (env.blockKind == ScopeKind.function) = true := by rw [hk]; rfl
    have e4 : (s.names.any fun (n, k) => n == x && (k == .local || k == .cell)) = false := by
      rw [← h4]
      refine congrArg (fun f => s.names.any f) (funext fun ⟨n, k⟩ => ?_)
      have : (n == x) = decide (n = x) := by
        by_cases e : n = x
        · subst e; simp
        · simp [e]
      cases k <;> simp [this] <;> rfl
    unfold swapsWith
    simp only []
    show (pure (env.blockKind == .function && env.kindOf x == some .local && p.line == vp.line && !(s.names.any fun (n, k) => n == x && (k == .local || k == .cell))) : Sem Bool) = pure true
    rw [e0, e1, e4, h2]
    simp
  · cases h
section
variable {nm : Nm} {G : Gi} {C : CT}
theorem ok_set {i : Nat} {e : M} {x : Str} {v : Expr} {p q : Pos} {X : Cx} (k : Ct X nm G C) (c : StC X) (h : tgB1 X.N X.env.scope i (.Name x p) = true) (he : chkE G X.N e X.env.scope v = true) (hs : swOf x X.env.scope p q v ≠ .no) : PS X (.Assign [.Name x p] v q) (LS X nm (wS C (.set i e))) := by
  obtain ⟨_, _, e1, o⟩ := tgB1_ok h c.fn
  cases e1
  by_cases hc : noComp v = true
  · exact ds_set k o ((snd e).E X v k he) (noComp_sw hc _ _ _)
  · cases v <;> first | (exact absurd rfl hc) | (exact absurd rfl hs) | skip
    rename_i el gs s vp
    have hsw : swOf x X.env.scope p q (.ListComp el gs s vp) = .swap := by
      revert hs
      unfold swOf
      simp only []
      split
      · intro _; rfl
      · intro z; exact absurd rfl z
    obtain ⟨w1, w2⟩ := sw_swap c.bk hsw
    cases e <;> first | (simp [chkE] at he; done) | skip
    rename_i m1 tg src m2 own
    obtain ⟨x', t, it, ifs, s', p', e2, ok⟩ := lc_ok k (snd m1) (snd src) (snd m2) he
    cases e2
    exact PS.imp (ds_setLc (nm := nm) (el := el) (e := m1) k (own_ix _ _) ok.blk ok.sub o.ix w2 w1 ok.pit ok.nset ok.tg ok.ifs ok.el) fun D σ H q => set_read q
theorem ok_setT {is : List Nat} {e : M} {es : List Expr} {v : Expr} {kk : Nat} {p q : Pos} {X : Cx} (k : Ct X nm G C) (c : StC X) (h : tgBs X.N X.env.scope is es = true) (hw : (match v with | .Tuple vs _ _ => swNone es vs || swSome X.env.scope is es vs | _ => true) = true)
    (he : chkE G X.N e X.env.scope v = true) (hc : noComp v = true) : PS X (.Assign [.Tuple es kk p] v q) (LS X nm (wS C (.setT is e))) := by
  have o := tgBs_ok c.fn h
  cases v <;> first | (exact ds_setT k o ((snd e).E X _ k he) hc rfl) | skip
  rename_i vs k2 p2
  simp only [Bool.or_eq_true] at hw
  by_cases hn : swNone es vs = true
  · exact ds_setT k o ((snd e).E X _ k he) hc (sw_none hn)
  · rcases hw with hw | hw
    · exact absurd hw hn
    · cases e <;> first | (simp [chkE] at he; done) | skip
      simp only [chkE] at he
      have hl : (es.length = 2 ∨ es.length = 3) ∧ vs.length = es.length := by
        simp only [swNone, Bool.or_eq_true, Bool.not_eq_true', decide_eq_false_iff_not] at hn
        refine ⟨?_, ?_⟩
        · by_cases e1 : (es.length == 2 || es.length == 3) = true
          · simpa using e1
          · exact absurd (.inl (by simpa using e1)) hn
        · by_cases e1 : vs.length = es.length
          · exact e1
          · exact absurd (.inr (.inl e1)) hn
      exact ds_par k c.bk o ((snd _).A X vs k he) hw hl.1 hl.2
theorem snd_s : ∀ s : MS, (∀ (X : Cx) (st : Stmt), Ct X nm G C → StC X → chkS G X.N X.env.scope s st = true → PS X st (LS X nm (wS C s))) ∧
    (∀ (X : Cx) (sts : List Stmt), Ct X nm G C → StC X → chkB G X.N X.env.scope s sts = true → PSs X sts (LS X nm (wS C s))) := by
  intro s
  induction s with
  | nil =>
    refine ⟨fun X st k c h => by simp [chkS] at h, fun X sts k c h => ?_⟩
    simp only [chkB, List.isEmpty_iff] at h
    subst h
    exact ds_nil
  | seq a r iha ihr =>
    refine ⟨fun X st k c h => by simp [chkS] at h, fun X sts k c h => ?_⟩
    cases sts with
    | nil => simp [chkB] at h
    | cons st sts =>
      simp only [chkB, Bool.and_eq_true] at h
      exact ds_seq (iha.1 X st k c h.1) (ihr.2 X sts k c h.2)
  | set i e =>
    refine ⟨fun X st k c h => ?_, fun X sts k c h => by simp [chkB] at h⟩
    simp only [chkS] at h
    split at h
    · simp only [Bool.and_eq_true, Bool.not_eq_true', decide_eq_false_iff_not] at h
      exact ok_set k c h.1 h.2.1 h.2.2
    · cases h
  | setT is e =>
    refine ⟨fun X st k c h => ?_, fun X sts k c h => by simp [chkB] at h⟩
    simp only [chkS] at h
    split at h
    · rw [Bool.and_eq_true, Bool.and_eq_true, Bool.and_eq_true] at h
      exact ok_setT k c h.1 h.2.2.2 h.2.1 h.2.2.1
    · cases h
  | setI o i e =>
    refine ⟨fun X st k c h => ?_, fun X sts k c h => by simp [chkB] at h⟩
    simp only [chkS] at h
    split at h
    · rename_i x y p v q
      simp only [Bool.and_eq_true] at h
      exact ds_setI ((snd e).E X _ k h.2.2.1) ((snd o).E X _ k h.2.2.2.1) ((snd i).E X _ k h.2.2.2.2) h.2.1 (by
        have := h.1
        intro u
        cases y <;> first | rfl | (cases this; done))
    · cases h
  | aug i op e =>
    refine ⟨fun X st k c h => ?_, fun X sts k c h => by simp [chkB] at h⟩
    simp only [chkS] at h
    split at h
    · simp only [Bool.and_eq_true, Bool.or_eq_true, decide_eq_true_eq] at h
      obtain ⟨h1, rfl, h2, h3⟩ := h
      obtain ⟨_, _, e1, o⟩ := tgB1_ok h2 c.fn
      cases e1
      exact ds_aug k o ((snd e).E X _ k h3) h1
    · cases h
  | expr e =>
    refine ⟨fun X st k c h => ?_, fun X sts k c h => by simp [chkB] at h⟩
    simp only [chkS] at h
    split at h
    · simp only [Bool.and_eq_true] at h
      exact ds_expr ((snd e).E X _ k h.2) h.1
    · cases h
  | ret e =>
    refine ⟨fun X st k c h => ?_, fun X sts k c h => by simp [chkB] at h⟩
    simp only [chkS] at h
    split at h
    · exact ds_ret ((snd e).E X _ k h)
    · cases h
  | ret0 =>
    refine ⟨fun X st k c h => ?_, fun X sts k c h => by simp [chkB] at h⟩
    simp only [chkS] at h
    split at h
    · exact ds_ret0
    · cases h
  | cond c0 a b iha ihb =>
    refine ⟨fun X st k c h => ?_, fun X sts k c h => by simp [chkB] at h⟩
    simp only [chkS] at h
    split at h
    · simp only [Bool.and_eq_true] at h
      exact ds_cond ((snd c0).T X _ k h.1).1 (iha.2 X _ k c h.2.1) (ihb.2 X _ k c h.2.2)
    · cases h
  | while_ c0 b ihb =>
    refine ⟨fun X st k c h => ?_, fun X sts k c h => by simp [chkB] at h⟩
    simp only [chkS] at h
    split at h
    · simp only [Bool.and_eq_true] at h
      exact ds_while c.hp ((snd c0).T X _ k h.1).1 (ihb.2 X _ k c h.2)
    · cases h
  | for_ tg src b ihb =>
    refine ⟨fun X st k c h => ?_, fun X sts k c h => by simp [chkB] at h⟩
    simp only [chkS] at h
    split at h
    · simp only [Bool.and_eq_true] at h
      exact ds_for k c.hp ((snd src).I X _ _ k h.2.2.1) (tgB_ok k c.fn h.1) (ihb.2 X _ k c h.2.2.2) (set_no h.2.1)
    · cases h
  | pass_ =>
    refine ⟨fun X st k c h => ?_, fun X sts k c h => by simp [chkB] at h⟩
    simp only [chkS] at h
    split at h
    · exact ds_pass
    · cases h
  | brk =>
    refine ⟨fun X st k c h => ?_, fun X sts k c h => by simp [chkB] at h⟩
    simp only [chkS] at h
    split at h
    · exact ds_brk
    · cases h
  | cont =>
    refine ⟨fun X st k c h => ?_, fun X sts k c h => by simp [chkB] at h⟩
    simp only [chkS] at h
    split at h
    · exact ds_cont
    · cases h
  | raise_ n as =>
    refine ⟨fun X st k c h => ?_, fun X sts k c h => by simp [chkB] at h⟩
    simp only [chkS] at h
    split at h
    · simp only [Bool.and_eq_true] at h
      obtain ⟨h1, h2⟩ := h
      split at h1
      · rename_i y hy
        cases as <;> first | (cases h2; done) | skip
        exact ds_raise k hy h1
      · cases h1
    · cases h
  | never =>
    refine ⟨fun X st k c h => ⟨fun pins s σ H D I q => ?_⟩, fun X sts k c h => by simp [chkB] at h⟩
    obtain ⟨sa, m, h, Z, Ea, rs, rh, w, tk, l⟩ := q
    simp only [wS] at w
end
end Rf

namespace Rf
open PySem PySem.Spec PyProof.Rows L2
/-! ### each def keeps what wC says -/
/-- a def, as it stands in K -/
structure DOk (K : PySem.W.Frag) (mg : Str → Option Value) (G : Gi) (P : Prg) (f : Nat) (y : Str) (a : Addr) (fd : FuncData) (ps : List Str) : Prop where
  nm : G.fn[f]? = some y
  mgf : mg y = some (.ref a)
  bi : Binds K fd ps []
  ex : ∃ (x qual : Str) (params : Arguments) (body : List Stmt) (scope : Scope) (N : List Str) (d : Rf.Def), P[f]? = some d ∧ FunD K x qual params body scope [] [] a fd ∧ FnScope N ps scope ∧ d.np = ps.length ∧ d.nv = N.length ∧ chkB G N scope d.body body = true
/-- what the head tells -/
structure Wd (K : PySem.W.Frag) (mg : Str → Option Value) (nm : Nm) (G : Gi) (P : Prg) : Prop where
  fn : ∀ (f : Nat) (y : Str), G.fn[f]? = some y → ∃ a fd ps, DOk K mg G P f y a fd ps
  blt : ∀ x ∈ bltS, mg x = none
  glb : ∀ (i : Nat) (y : Str) (d : D), G.gl[i]? = some (y, d) → ∃ u v, mg y = some u ∧ RelV v u ∧ ∀ H m, RV K H m v d
  exc : ∀ (i : Nat) (y : Str), G.cl[i]? = some y → mg y = some (.ref (nm.cls i)) ∧ PySem.W.excIn K (nm.cls i) [.type "ValueError", .type "Exception", .type "BaseException", .type "object"] "ValueError.__new__" = true ∧
    PySem.W.keepIn K (.ref (nm.cls i)) = true ∧ PySem.W.subIn K (.ref (nm.cls i)) (.type "BaseException") = some true ∧ PySem.W.typeIn K (.ref (nm.cls i)) = some (.type "type")
theorem RVs.len {K : PySem.W.Frag} {H : Hp} {m : List Addr} {vs : List V} {ds : List D} (h : RVs K H m vs ds) : vs.length = ds.length := RVs.length h
theorem start_RS {K : PySem.W.Frag} {H : Hp} {m : List Addr} {N : List Str} {vs : List V} {ds : List D} {d : Rf.Def} (h : RVs K H m vs ds) (hn : d.nv = N.length) : RS K H m (L2.start N vs) (startA d ds) := by
  refine ⟨?_, fun i e q => ?_⟩
  · unfold L2.start startA
    simp only [List.length_append, List.length_map, List.length_replicate, hn, h.length]
  · unfold startA at q
    unfold L2.start
    by_cases hi : i < ds.length
    · rw [List.getElem?_append_left (by simpa using hi), List.getElem?_map] at q
      rw [List.getElem?_append_left (by simpa [h.length] using hi), List.getElem?_map]
      cases e1 : ds[i]? with
      | none => rw [e1] at q; cases q
      | some d' =>
        rw [e1] at q
        cases q
        obtain ⟨v, h1, h2⟩ := h.get e1
        exact ⟨v, by rw [h1]; rfl, h2⟩
    · rw [List.getElem?_append_right (by simpa using hi), List.getElem?_replicate] at q
      split at q <;> cases q
theorem bk_of {env : Env} (h : env.scope.kind = .function) : env.blockKind = .function := by
  unfold Env.blockKind
  rw [h]
  rfl
theorem fn_lvl {Pr : Program} {w : World} {K : PySem.W.Frag} {mg : Str → Option Value} {base : Heap} {nm : Nm} {G : Gi} {P : Prg} (W : Wd K mg nm G P) : ∀ (n : Nat) (f : Nat) (y : Str) (a : Addr) (fd : FuncData) (ps : List Str), DOk K mg G P f y a fd ps →
    FnOk Pr w K mg base (CX Pr w) n a fd ps (spC K nm (wC P n) f)
  | 0, f, y, a, fd, ps, D => by
    have no : ∀ vs H Q E, ¬ spC K nm (wC P 0) f vs H Q E := fun vs H Q E h => by
      obtain ⟨ds, m, h', Qa, Ea, _, _, q, _⟩ := h
      exact q
    exact ⟨fun vs H Q E h => (no _ _ _ _ h).elim, fun A outer s H args us vs Q E _ _ _ _ h => (no _ _ _ _ h).elim⟩
  | n + 1, f, y, a, fd, ps, D => by
    obtain ⟨x, qual, params, body, scope, N, d, hd, F, S, h1, h2, h3⟩ := D.ex
    refine F.ok S (fun vs H Q E h => ?_) (fun cdv A outer s H vs Q E hr h => ?_)
    · obtain ⟨ds, m, h', Qa, Ea, rv, _, q, _⟩ := h
      simp only [wC, hd] at q
      rw [rv.length, q.1, h1]
    · obtain ⟨ds, m, h', Qa, Ea, rv, rh, q, fin, fx⟩ := h
      simp only [wC, hd] at q
      obtain ⟨_, q⟩ := q
      have ct : Ct (cxOf (CX Pr w) Pr w K mg base N qual scope a cdv A outer s H E) nm G (wC P n) := by
        refine ⟨rfl, ?_, S.nd, fun g z hz => ?_, W.blt, W.glb, W.exc⟩
        · have := hr.un
          show (A.deeper _).units + 65 < cLine
          omega
        · obtain ⟨a', fd', ps', D'⟩ := W.fn g z hz
          obtain ⟨x', qual', params', body', scope', N', d', hd', F', S', _⟩ := D'.ex
          exact ⟨a', fd', ps', n, fn_lvl W n g z a' fd' ps' D', hr, D'.mgf, F'.kp, D'.bi⟩
      have st : StC (cxOf (CX Pr w) Pr w K mg base N qual scope a cdv A outer s H E) := ⟨passes_of rfl, fun _ => rfl, bk_of S.kind⟩
      refine ⟨_, (snd_s d.body).2 _ body ct st h3, startA d ds, m, h', _, _, start_RS rv h2, rh, q, ?_, ?_⟩
      · refine (takes_of (E := E) rfl rfl rfl rfl).imp fun cls dx σ H1 z => ?_
        obtain ⟨x, sa', m', h1, rx, _, rh', ex, qx⟩ := z
        exact fx cls dx x H1 m' h1 rx rh' ex qx
      · exact ⟨fun σ' sa' H' m' h'' _ rh' ex z => fin _ _ _ _ _ .non rh' ex z, fin, fun σ' sa' H' m' h'' _ rh' ex z => z, fun σ' sa' H' m' h'' _ rh' ex z => z⟩
end Rf

namespace Rf
open PySem PySem.Spec PyProof.Rows L2
/-! ### what the head looks at -/
mutual
def dB (K : PySem.W.Frag) : D → Value → Bool
  | .non, .none => true
  | .bl b, .bool c => b == c
  | .int i, .int j _ => decide (i = j)
  | .str x, .str z _ => decide (mkS x = z)
  | .tup ds, .ref a => (match K.lookup a with
    | some ⟨.type c, none, .seq its _, _⟩ => decide (c = "tuple") && (decide (its.size ≤ sizeLine) && dBs K ds its.toList)
    | _ => false)
  | .rol ds, .ref a => (match K.lookup a with
    | some ⟨.type c, none, .seq its _, _⟩ => decide (c = "list") && (decide (its.size ≤ sizeLine) && dBs K ds its.toList)
    | _ => false)
  | _, _ => false
def dBs (K : PySem.W.Frag) : List D → List Value → Bool
  | [], [] => true
  | d :: ds, u :: us => dB K d u && dBs K ds us
  | _, _ => false
end
mutual
theorem dB_ok {K : PySem.W.Frag} : ∀ {d : D} {u : Value}, dB K d u = true → ∃ v, RelV v u ∧ ∀ H m, RV K H m v d
  | .non, u, h => by
    cases u <;> simp only [dB] at h <;> first | (cases h; done) | skip
    exact ⟨.non, rfl, fun _ _ => .non⟩
  | .bl b, u, h => by
    cases u <;> simp only [dB] at h <;> first | (cases h; done) | skip
    have := eq_of_beq h
    subst this
    exact ⟨.bl b, rfl, fun _ _ => .bl b⟩
  | .int i, u, h => by
    cases u <;> simp only [dB] at h <;> first | (cases h; done) | skip
    have := of_decide_eq_true h
    subst this
    exact ⟨.int i, ⟨_, rfl⟩, fun _ _ => .int i⟩
  | .str x, u, h => by
    cases u <;> simp only [dB] at h <;> first | (cases h; done) | skip
    have := of_decide_eq_true h
    subst this
    exact ⟨.str (mkS x), ⟨_, rfl⟩, fun _ _ => .str x⟩
  | .tup ds, u, h => by
    cases u <;> simp only [dB] at h <;> first | (cases h; done) | skip
    split at h
    · rename_i a c its n sl e
      simp only [Bool.and_eq_true, decide_eq_true_eq] at h
      obtain ⟨rfl, h2, h3⟩ := h
      obtain ⟨vs, h4, h5⟩ := dBs_ok h3
      exact ⟨.ref _, rfl, fun H m => .tup (.inr ⟨_, _, _, e, rfl, rfl, rfl, h2, h4⟩) (h5 H m)⟩
    · cases h
  | .wtup _, u, h => by cases u <;> simp [dB] at h
  | .rol ds, u, h => by
    cases u <;> simp only [dB] at h <;> first | (cases h; done) | skip
    split at h
    · rename_i a c its n sl e
      simp only [Bool.and_eq_true, decide_eq_true_eq] at h
      obtain ⟨rfl, h2, h3⟩ := h
      obtain ⟨vs, h4, h5⟩ := dBs_ok h3
      exact ⟨.ref _, rfl, fun H m => .rol (.inr ⟨_, _, _, e, rfl, rfl, rfl, h2, h4⟩) (h5 H m)⟩
    · cases h
  | .ref _, u, h => by cases u <;> simp [dB] at h
theorem dBs_ok {K : PySem.W.Frag} : ∀ {ds : List D} {us : List Value}, dBs K ds us = true → ∃ vs, Vals vs us ∧ ∀ H m, RVs K H m vs ds
  | [], us, h => by
    cases us with
    | nil => exact ⟨[], .nil, fun _ _ => .nil⟩
    | cons _ _ => simp [dBs] at h
  | d :: ds, us, h => by
    cases us with
    | nil => simp [dBs] at h
    | cons u us =>
      simp only [dBs, Bool.and_eq_true] at h
      obtain ⟨v, h1, h2⟩ := dB_ok h.1
      obtain ⟨vs, h3, h4⟩ := dBs_ok h.2
      exact ⟨v :: vs, .cons h1 h3, fun H m => .cons (h2 H m) (h4 H m)⟩
end
def tabB (K : PySem.W.Frag) (x : Str) (d : D) : Bool := match PySem.W.nsIn K mainGlobals x with
  | some (some u) => dB K d u
  | _ => false
/-- the looks of a law: its names, its tables -/
def xfR (G : Gi) (K : PySem.W.Frag) : Bool := (bltS.all fun x => (He.Fa.free x).ok K) && ((G.fn.all fun y => (He.Fa.glo y).ok K) && ((G.gl.all fun p => tabB K p.1 p.2) && G.cl.all fun y => (He.Fa.glo y).ok K && (He.Fa.exc y).ok K))
def obsR (G : Gi) (fn : List He.DefD) (K : PySem.W.Frag) : He.AlD := (xfR G K && fn.all fun d => d.ok K, fn.map fun d => He.fnW K d.at_)
def obsRG (n : Nat) (G : Gi) (fn : List He.DefD) (g : Addr → Option Obj) : He.AlD := obsR G fn (He.frG g (He.asD g n))
def hookR (n : Nat) (G : Gi) (fn : List He.DefD) : PySem.W.Hook where
  α := He.AlD
  obs := fun s => obsRG n G fn s.heap.get?
  val := fun _ => He.valD fn
  says := fun _ h => ∃ K : PySem.W.Frag, K.In h ∧ obsR G fn K = He.valD fn
  of := fun _ _ e => ⟨_, He.frG_in, e⟩
  keeps := fun _ _ _ ⟨K, hK, c⟩ k => ⟨K, PySem.W.Frag.In.keeps hK k, c⟩
theorem obsRG_eq {n : Nat} {G : Gi} {fn : List He.DefD} {g : Addr → Option Obj} {s : Shared} (h : ∀ a, g a = s.heap.get? a) : obsRG n G fn g = (hookR n G fn).obs s := by
  have e : g = s.heap.get? := funext h
  rw [e] <;> rfl
section
variable {G : Gi} {fn : List He.DefD} {K : PySem.W.Frag}
theorem saysR_def (c : obsR G fn K = He.valD fn) (i : Nat) {d : He.DefD} (h : fn[i]? = some d) : ∃ fd, FunD K d.name d.qual d.params d.body d.scope (d.dvs K) (d.kws K) (He.fAd K d.at_) fd := by
  have c2 := (He.ba (show (xfR G K && fn.all fun d => d.ok K) = true from congrArg (fun z : He.AlD => z.1) c)).2
  have e : fn.map (fun d => He.fnW K d.at_) = fn.map He.DefD.val := congrArg (fun z : He.AlD => z.2) c
  have e2 : (fn.map fun d => He.fnW K d.at_)[i]? = (fn.map He.DefD.val)[i]? := by rw [e]
  rw [List.getElem?_map, List.getElem?_map, h] at e2
  exact He.DefD.funD (Option.some.inj e2) (List.all_eq_true.mp c2 d (List.mem_of_getElem? h))
theorem saysR_x (c : obsR G fn K = He.valD fn) : xfR G K = true :=
  (He.ba (show (xfR G K && fn.all fun d => d.ok K) = true from congrArg (fun z : He.AlD => z.1) c)).1
/-- a def's row of the tables: its parameters, its slots, its text in M -/
structure Rw where
  y : Str
  ps : List Str
  N : List Str
  d : Rf.Def
def rwC (G : Gi) (r : Rw) (d : He.DefD) : Bool := (match d.at_ with | (y, none) => decide (y = r.y) | _ => false) && (C8.scC r.N r.ps d.scope && (decide (r.d.np = r.ps.length) && (decide (r.d.nv = r.N.length) && (d.dfl.isEmpty && (d.kwd.isEmpty && chkB G r.N d.scope r.d.body d.body)))))
/-- every parameter is given -/
def BindsR (r : Rw) (d : He.DefD) : Prop := ∀ (kV doc pm : Value) (an : Option Addr) (cdv ct : Value) (us : List Value), us.length = r.ps.length → bindArgs (PySem.W.fnOf d.name d.qual d.params d.body d.scope .none kV doc pm an cdv ct) ⟨us, []⟩ = pure (r.ps.zip us)
inductive Rws (G : Gi) : List Rw → List He.DefD → Prop
  | nil : Rws G [] []
  | cons {r : Rw} {d : He.DefD} {rs : List Rw} {ds : List He.DefD} : rwC G r d = true → BindsR r d → Rws G rs ds → Rws G (r :: rs) (d :: ds)
theorem Rws.at_ : ∀ {rs : List Rw} {fn : List He.DefD}, Rws G rs fn → ∀ (i : Nat) (r : Rw), rs[i]? = some r → ∃ d, fn[i]? = some d ∧ rwC G r d = true ∧ BindsR r d
  | _, _, .nil, i, r, e => by simp at e
  | _, _, .cons h b _, 0, r, e => by simp at e; subst e; exact ⟨_, rfl, h, b⟩
  | _, _, .cons _ _ t, i + 1, r, e => by simpa using Rws.at_ t i r (by simpa using e)
theorem wd_of {h : Heap} {mg : Str → Option Value} {rs : List Rw} (X : K.In h) (N : h.Ns mainGlobals mg) (c : obsR G fn K = He.valD fn) (hG : G.fn = rs.map (·.y)) (hC : ∀ (i : Nat) (r : Rw), rs[i]? = some r → ∃ d, fn[i]? = some d ∧ rwC G r d = true ∧ BindsR r d) :
    ∃ nm, Wd K mg nm G (rs.map (·.d)) := by
  have cx := saysR_x c
  simp only [xfR, Bool.and_eq_true, List.all_eq_true] at cx
  obtain ⟨c1, c2, c3, c4⟩ := cx
  refine ⟨⟨fun i => He.ga K (G.cl.getD i Str.empty), fun _ => Str.empty⟩, fun f y hy => ?_, fun x hx => He.free_ok X N (c1 x hx), fun i y d hi => ?_, fun i y hi => ?_⟩
  · have hy' := hy
    rw [hG, List.getElem?_map] at hy'
    cases e : rs[f]? with
    | none => rw [e] at hy'; cases hy'
    | some r =>
      rw [e] at hy'
      cases hy'
      obtain ⟨d, hd, hr, hb⟩ := hC f r e
      obtain ⟨fd, F⟩ := saysR_def c f hd
      simp only [rwC, Bool.and_eq_true, decide_eq_true_eq, List.isEmpty_iff] at hr
      obtain ⟨r1, r2, r3, r4, r5, r6, r7⟩ := hr
      have m := He.glo_ok X N (c2 r.y (List.mem_of_getElem? hy))
      have ea : He.fAd K d.at_ = He.ga K r.y := by
        revert r1
        cases d.at_ with
        | mk y o =>
          cases o with
          | none => intro z; have := of_decide_eq_true z; subst this; rfl
          | some _ => intro z; cases z
      have F' : FunD K d.name d.qual d.params d.body d.scope [] [] (He.ga K r.y) fd := by
        have := F
        unfold He.DefD.dvs He.DefD.kws at this
        rw [r5, r6, ea] at this
        exact this
      exact ⟨_, fd, r.ps, ⟨hy, m, F'.bindsN hb, ⟨_, _, _, _, _, r.N, r.d, by rw [List.getElem?_map, e]; rfl, F', C8.fnScope_by r2, r3, r4, r7⟩⟩⟩
  · have q := c3 (y, d) (List.mem_of_getElem? hi)
    unfold tabB at q
    simp only at q
    cases e : PySem.W.nsIn K mainGlobals y with
    | none => rw [e] at q; cases q
    | some o =>
      rw [e] at q
      cases o with
      | none => cases q
      | some u =>
        obtain ⟨v, h1, h2⟩ := dB_ok q
        exact ⟨u, v, PySem.W.mg_of X N e, h1, h2⟩
  · obtain ⟨q1, q2⟩ := c4 y (List.mem_of_getElem? hi)
    have e : G.cl.getD i Str.empty = y := by rw [List.getD_eq_getElem?_getD, hi]; rfl
    simp only [He.Fa.ok, Bool.and_eq_true, decide_eq_true_eq] at q2
    obtain ⟨z1, z2, z3, z4⟩ := q2
    have e' : He.ga K (G.cl.getD i Str.empty) = He.ga K y := by rw [e]
    refine ⟨?_, ?_, ?_, ?_, ?_⟩
    · show mg y = some (.ref (He.ga K (G.cl.getD i Str.empty))); rw [e']; exact He.glo_ok X N q1
    · show PySem.W.excIn K (He.ga K (G.cl.getD i Str.empty)) _ _ = true; rw [e']; exact z1
    · show PySem.W.keepIn K (.ref (He.ga K (G.cl.getD i Str.empty))) = true; rw [e']; exact z2
    · show PySem.W.subIn K (.ref (He.ga K (G.cl.getD i Str.empty))) _ = _; rw [e']; exact z3
    · show PySem.W.typeIn K (.ref (He.ga K (G.cl.getD i Str.empty))) = _; rw [e']; exact z4
/-- the law's list stays as it is -/
theorem law_sp {nm : Nm} {P : Prg} {n f : Nat} {a : Addr} {H : Hp} {ns : List Int} (hO : Only H) (hS : SqL K H a (ns.map V.int)) (h : wC P n f [.rol (ns.map .int)] [] (fun d _ => d = .bl true) fun _ _ => False) :
    spC K nm (wC P n) f [.ref a] H (fun v _ => v = .bl true) fun _ _ _ => False := by
  have hF : SqF K H a (ns.map V.int) := by
    rcases hS with (h | h) | h
    · rcases hO a with z | ⟨o, xs, z⟩
      · rw [z] at h; cases h
      · rw [z] at h; cases h
    · obtain ⟨o, h⟩ := h; exact .inl ⟨o, h⟩
    · exact .inr h
  have hr : RVs K H [] (ns.map V.int) (ns.map D.int) := by
    clear h hF hS
    induction ns with
    | nil => exact .nil
    | cons n ns ih => exact .cons (.int n) ih
  refine ⟨[.rol (ns.map .int)], [], [], _, _, .cons (.rol hF hr) .nil, ⟨rfl, List.nodup_nil, fun n a e => by simp at e, fun n a o e => by simp at e⟩, h, fun v H' m' d h' rv _ _ e => ?_, fun cls dx x H' m' h' _ _ _ z => z.elim⟩
  subst e
  cases rv
  rfl
/-- what leaves a def, whatever the world -/
def CXe (P : Program) : CXT := fun outer H s E e s' => ∃ w, CX P w outer H s E e s'
theorem fn_cx {Pr : Program} {w : World} {K : PySem.W.Frag} {mg : Str → Option Value} {base : Heap} {k : Nat} {f : Addr} {fd : FuncData} {ps : List Str} {sp : Sp} (F : FnOk Pr w K mg base (CX Pr w) k f fd ps sp) : FnOk Pr w K mg base (CXe Pr) k f fd ps sp :=
  ⟨F.len, fun A outer s H args us vs Q E hr he hb hv hs => codeAny_mono (F.run A outer s H args us vs Q E hr he hb hv hs) fun r s' h => by
    cases r with
    | error e => exact ⟨w, h⟩
    | ok fl => cases fl <;> exact h⟩
theorem walk_M {l : PySem.W.OpenLaw} {k n f : Nat} {q : Program} {loose : List Str} {XP : (Str → Option Value) → Heap → Prop} {d : DefRec} {x : Str} {rs : List Rw} {r : Rw}
    (hn : l.most = some n) (hn2 : n ≤ sizeLine) (hdf : d.params.defaults = []) (hr : Room k callerA) (hG : G.fn = rs.map (·.y)) (hC : Rws G rs fn) (hx : rs[f]? = some r) (hps : r.ps = [x]) (hy : d.name = r.y)
    (law : ∀ ns : List Int, ns.length ≤ n → wC (rs.map (·.d)) k f [.rol (ns.map .int)] [] (fun d _ => d = .bl true) fun _ _ => False) :
    PySem.W.WalkO q loose XP (fun _ h => ∃ K : PySem.W.Frag, K.In h ∧ obsR G fn K = He.valD fn) l.row.toRowW d [] (fun f vs => PySem.call f vs) := by
  refine L2.walk_ofE (l := l) (n := n) (k := k) (x := x) (CX := CXe l.prog) hn hn2 hdf hr ?_ (fun H s e s' ⟨w, a, B, H', cls, dd, _, _, _, _, _, _, _, z⟩ => z)
  intro w mg fa h Y N hmg
  obtain ⟨K, KX, c⟩ := Y
  obtain ⟨nm, W⟩ := wd_of KX N c hG hC.at_
  have hgf : G.fn[f]? = some r.y := by rw [hG, List.getElem?_map, hx]; rfl
  -- the law's own def
  obtain ⟨dd, hd, hrw, hb⟩ := hC.at_ f r hx
  obtain ⟨fd, F⟩ := saysR_def c f hd
  simp only [rwC, Bool.and_eq_true, decide_eq_true_eq, List.isEmpty_iff] at hrw
  obtain ⟨r1, r2, r3, r4, r5, r6, r7⟩ := hrw
  have cx := saysR_x c
  simp only [xfR, Bool.and_eq_true, List.all_eq_true] at cx
  have m := He.glo_ok KX N (cx.2.1 r.y (List.mem_of_getElem? hgf))
  have ea : He.fAd K dd.at_ = He.ga K r.y := by
    revert r1
    cases dd.at_ with
    | mk y o =>
      cases o with
      | none => intro z; have := of_decide_eq_true z; subst this; rfl
      | some _ => intro z; cases z
  have F' : FunD K dd.name dd.qual dd.params dd.body dd.scope [] [] (He.ga K r.y) fd := by
    have := F
    unfold He.DefD.dvs He.DefD.kws at this
    rw [r5, r6, ea] at this
    exact this
  rw [hy] at hmg
  have e := hmg.symm.trans m
  cases e
  have b := FunD.bindsA (ps := r.ps) F' hb
  rw [hps] at b
  refine ⟨K, fd, spC K nm (wC (rs.map (·.d)) k) f, KX, fun s v => b s [v] rfl, fun H a ns hl hO hS => law_sp hO hS (law ns hl), fun base _ _ => ?_⟩
  have D : DOk K mg G (rs.map (·.d)) f r.y (He.ga K r.y) fd r.ps := ⟨hgf, m, F'.bindsN hb, ⟨_, _, _, _, _, r.N, r.d, by rw [List.getElem?_map, hx]; rfl, F', C8.fnScope_by r2, r3, r4, r7⟩⟩
  rw [← hps]
  exact fn_cx (fn_lvl W k f r.y _ fd r.ps D)
end
end Rf

namespace Rf
/-! ### the texts' equations, as rules -/
section
variable (C : CT)
@[simp] theorem wE_var (i : Nat) (s : Sa) (h : AH) (Q : QD) (E : EK) : wE C (.var i) s h Q E = (slot s i fun d => Q d h) := by simp only [wE]
@[simp] theorem wE_k (d : D) (s : Sa) (h : AH) (Q : QD) (E : EK) : wE C (.k d) s h Q E = (Q d h) := by simp only [wE]
@[simp] theorem wE_glb (u0 : Nat) (d : D) (s : Sa) (h : AH) (Q : QD) (E : EK) : wE C (.glb u0 d) s h Q E = (Q d h) := by simp only [wE]
@[simp] theorem wE_bin (op : Bop) (a : M) (b : M) (s : Sa) (h : AH) (Q : QD) (E : EK) : wE C (.bin op a b) s h Q E = (wE C a s h (fun x h1 => wE C b s h1 (fun y h2 => bopW op x y h2 Q) E) E) := by simp only [wE]
@[simp] theorem wE_neg (a : M) (s : Sa) (h : AH) (Q : QD) (E : EK) : wE C (.neg a) s h Q E = (wE C a s h (fun x h1 => intOf x fun i => Q (.int (-i)) h1) E) := by simp only [wE]
@[simp] theorem wE_cmp (op : Cop) (a : M) (b : M) (s : Sa) (h : AH) (Q : QD) (E : EK) : wE C (.cmp op a b) s h Q E = (wE C a s h (fun x h1 => wE C b s h1 (fun y h2 => cmpW op x y h2 fun b => Q (.bl b) h2) E) E) := by simp only [wE]
@[simp] theorem wE_ch (o1 : Cop) (o2 : Cop) (a : M) (b : M) (c : M) (s : Sa) (h : AH) (Q : QD) (E : EK) : wE C (.ch o1 o2 a b c) s h Q E = (wE C a s h (fun x h1 => wE C b s h1 (fun y h2 => cmpW o1 x y h2 fun k => if k = true then wE C c s h2 (fun z h3 => cmpW o2 y z h3 fun k' => Q (.bl k') h3) E else Q (.bl false) h2) E) E) := by simp only [wE]
@[simp] theorem wE_and (a : M) (b : M) (s : Sa) (h : AH) (Q : QD) (E : EK) : wE C (.and a b) s h Q E = (wE C a s h (fun x h1 => boolOf x fun t => if t = true then wE C b s h1 Q E else Q (.bl false) h1) E) := by simp only [wE]
@[simp] theorem wE_or (a : M) (b : M) (s : Sa) (h : AH) (Q : QD) (E : EK) : wE C (.or a b) s h Q E = (wE C a s h (fun x h1 => boolOf x fun t => if t = true then Q (.bl true) h1 else wE C b s h1 Q E) E) := by simp only [wE]
@[simp] theorem wE_not (a : M) (s : Sa) (h : AH) (Q : QD) (E : EK) : wE C (.not a) s h Q E = (wE C a s h (fun x h1 => boolOf x fun b => Q (.bl (!b)) h1) E) := by simp only [wE]
@[simp] theorem wE_ite (c : M) (a : M) (b : M) (s : Sa) (h : AH) (Q : QD) (E : EK) : wE C (.ite c a b) s h Q E = (wT C c s h (fun t h1 => if t = true then wE C a s h1 Q E else wE C b s h1 Q E) E) := by simp only [wE]
@[simp] theorem wE_tup (as : M) (s : Sa) (h : AH) (Q : QD) (E : EK) : wE C (.tup as) s h Q E = (wA C as s h (fun ds h1 => ds.length ≤ SZ ∧ Q (.tup ds) h1) E) := by simp only [wE]
@[simp] theorem wE_lst (as : M) (s : Sa) (h : AH) (Q : QD) (E : EK) : wE C (.lst as) s h Q E = (wA C as s h (fun ds h1 => ds.length ≤ SZ ∧ Q (.ref h1.length) (h1 ++ [.lst ds])) E) := by simp only [wE]
@[simp] theorem wE_idx (a : M) (i : M) (s : Sa) (h : AH) (Q : QD) (E : EK) : wE C (.idx a i) s h Q E = (wE C a s h (fun x h1 => wE C i s h1 (fun y h2 => idxW h2 x y fun d => Q d h2) E) E) := by simp only [wE]
@[simp] theorem wE_slc (a : M) (lo : M) (hi : M) (s : Sa) (h : AH) (Q : QD) (E : EK) : wE C (.slc a lo hi) s h Q E = (wE C a s h (fun x h1 => wO C lo s h1 (fun l h2 => wO C hi s h2 (fun u h3 => slcW h3 x l u Q) E) E) E) := by simp only [wE]
@[simp] theorem wE_slst (a : M) (st : M) (s : Sa) (h : AH) (Q : QD) (E : EK) : wE C (.slst a st) s h Q E = (wE C a s h (fun x h1 => wE C st s h1 (fun y h2 => intOf y fun k => slstW h2 x k Q) E) E) := by simp only [wE]
@[simp] theorem wE_call (f : Nat) (as : M) (s : Sa) (h : AH) (Q : QD) (E : EK) : wE C (.call f as) s h Q E = (wA C as s h (fun ds h1 => C f ds h1 Q fun x h' => E x s h') E) := by simp only [wE]
@[simp] theorem wE_bf (f : Bf) (as : M) (s : Sa) (h : AH) (Q : QD) (E : EK) : wE C (.bf f as) s h Q E = (wA C as s h (fun ds h1 => bfW h1 f ds Q) E) := by simp only [wE]
@[simp] theorem wE_bm (f : Bm) (o : M) (as : M) (s : Sa) (h : AH) (Q : QD) (E : EK) : wE C (.bm f o as) s h Q E = (wE C o s h (fun x h1 => bmT h1 f x ∧ wA C as s h1 (fun ds h2 => bmW h2 f x ds Q) E) E) := by simp only [wE]
@[simp] theorem wE_isi (t : Ty1) (a : M) (s : Sa) (h : AH) (Q : QD) (E : EK) : wE C (.isi t a) s h Q E = (wE C a s h (fun x h1 => ∃ b, D.isTy t x = some b ∧ Q (.bl b) h1) E) := by simp only [wE]
@[simp] theorem wE_lrng (a : M) (s : Sa) (h : AH) (Q : QD) (E : EK) : wE C (.lrng a) s h Q E = (wE C a s h (fun x h1 => intOf x fun n => (-(2 ^ 62) ≤ n ∧ n ≤ 2 ^ 24) ∧ Q (.ref h1.length) (h1 ++ [.lst ((List.range n.toNat).map fun (i : Nat) => .int (0 + (i : Int)))])) E) := by simp only [wE]
@[simp] theorem wE_lc (e : M) (tg : Tg) (src : M) (c : M) (own : List Nat) (s : Sa) (h : AH) (Q : QD) (E : EK) : wE C (.lc e tg src c own) s h Q E = (wI C src s h (fun it h1 => lcW it.ck tg (fun s1 h2 Q1 => wT C c s1 h2 Q1 noE) (fun s1 h2 Q1 => wE C e s1 h2 Q1 noE) it.xs [] (wipeA s own) h1 fun ds h3 => Q (.ref h3.length) (h3 ++ [.lst ds])) E) := by simp only [wE]
@[simp] theorem wA_nil  (s : Sa) (h : AH) (Q : QL) (E : EK) : wA C (.nil) s h Q E = (Q [] h) := by simp only [wA]
@[simp] theorem wA_cons (a : M) (r : M) (s : Sa) (h : AH) (Q : QL) (E : EK) : wA C (.cons a r) s h Q E = (wE C a s h (fun x h1 => wA C r s h1 (fun xs h2 => Q (x :: xs) h2) E) E) := by simp only [wA]
@[simp] theorem wO_nil  (s : Sa) (h : AH) (Q : Option Int → AH → Prop) (E : EK) : wO C (.nil) s h Q E = (Q none h) := by simp only [wO]
@[simp] theorem wO_cons (a : M) (u1 : M) (s : Sa) (h : AH) (Q : Option Int → AH → Prop) (E : EK) : wO C (.cons a u1) s h Q E = (wE C a s h (fun x h1 => intOf x fun i => Q (some i) h1) E) := by simp only [wO]
@[simp] theorem wT_nil  (s : Sa) (h : AH) (Q : Bool → AH → Prop) (E : EK) : wT C (.nil) s h Q E = (Q true h) := by simp only [wT]
@[simp] theorem wT_not (a : M) (s : Sa) (h : AH) (Q : Bool → AH → Prop) (E : EK) : wT C (.not a) s h Q E = (wT C a s h (fun b h1 => Q (!b) h1) E) := by simp only [wT]
@[simp] theorem wT_and (a : M) (b : M) (s : Sa) (h : AH) (Q : Bool → AH → Prop) (E : EK) : wT C (.and a b) s h Q E = (wT C a s h (fun t h1 => if t = true then wT C b s h1 Q E else Q false h1) E) := by simp only [wT]
@[simp] theorem wT_or (a : M) (b : M) (s : Sa) (h : AH) (Q : Bool → AH → Prop) (E : EK) : wT C (.or a b) s h Q E = (wT C a s h (fun t h1 => if t = true then Q true h1 else wT C b s h1 Q E) E) := by simp only [wT]
@[simp] theorem wT_cmp (op : Cop) (a : M) (b : M) (s : Sa) (h : AH) (Q : Bool → AH → Prop) (E : EK) : wT C (.cmp op a b) s h Q E = (wE C a s h (fun x h1 => wE C b s h1 (fun y h2 => cmpW op x y h2 fun t => boolOf (.bl t) fun t => Q t h2) E) E) := by simp only [wT]
@[simp] theorem wT_ch (o1 : Cop) (o2 : Cop) (a : M) (b : M) (c : M) (s : Sa) (h : AH) (Q : Bool → AH → Prop) (E : EK) : wT C (.ch o1 o2 a b c) s h Q E = (wE C a s h (fun x h1 => wE C b s h1 (fun y h2 => cmpW o1 x y h2 fun k => if k = true then wE C c s h2 (fun z h3 => cmpW o2 y z h3 fun t => boolOf (.bl t) fun t => Q t h3) E else boolOf (.bl false) fun t => Q t h2) E) E) := by simp only [wT]
@[simp] theorem wT_tv (a : M) (s : Sa) (h : AH) (Q : Bool → AH → Prop) (E : EK) : wT C (.tv a) s h Q E = (wE C a s h (fun d h1 => truW h1 d fun b => Q b h1) E) := by simp only [wT]
@[simp] theorem wI_rng1 (a : M) (s : Sa) (h : AH) (Q : It → AH → Prop) (E : EK) : wI C (.rng1 a) s h Q E = (wE C a s h (fun x h1 => intOf x fun n => (-(2 ^ 62) ≤ n ∧ n < 2 ^ 62) ∧ Q ⟨(List.range n.toNat).map fun (i : Nat) => .int (0 + (i : Int)), fun _ => True⟩ h1) E) := by simp only [wI]
@[simp] theorem wI_rng2 (a : M) (b : M) (s : Sa) (h : AH) (Q : It → AH → Prop) (E : EK) : wI C (.rng2 a b) s h Q E = (wE C a s h (fun x h1 => wE C b s h1 (fun y h2 => intOf x fun i => intOf y fun j => (-(2 ^ 62) ≤ i ∧ i < 2 ^ 62 ∧ -(2 ^ 62) ≤ j ∧ j < 2 ^ 62) ∧ Q ⟨(List.range (j - i).toNat).map fun (k : Nat) => .int (i + (k : Int)), fun _ => True⟩ h2) E) E) := by simp only [wI]
@[simp] theorem wI_enum (a : M) (s : Sa) (h : AH) (Q : It → AH → Prop) (E : EK) : wI C (.enum a) s h Q E = (wE C a s h (fun x h1 => seqW h1 x fun it => Q ⟨enumL it.xs, it.ck⟩ h1) E) := by simp only [wI]
@[simp] theorem wI_zip (a : M) (b : M) (s : Sa) (h : AH) (Q : It → AH → Prop) (E : EK) : wI C (.zip a b) s h Q E = (wE C a s h (fun x h1 => wE C b s h1 (fun y h2 => seqW h2 x fun i1 => seqW h2 y fun i2 => Q ⟨zipL i1.xs i2.xs, fun h' => i1.ck h' ∧ i2.ck h'⟩ h2) E) E) := by simp only [wI]
@[simp] theorem wI_itv (a : M) (s : Sa) (h : AH) (Q : It → AH → Prop) (E : EK) : wI C (.itv a) s h Q E = (wE C a s h (fun d h1 => itW h1 d fun it => Q it h1) E) := by simp only [wI]
@[simp] theorem wS_nil  (s : Sa) (h : AH) (Z : En) (E : EK) : wS C (.nil) s h Z E = (Z.nx s h) := by simp only [wS]
@[simp] theorem wS_seq (a : MS) (r : MS) (s : Sa) (h : AH) (Z : En) (E : EK) : wS C (.seq a r) s h Z E = (wS C a s h { nx := fun s' h' => wS C r s' h' Z E, rt := Z.rt, bk := Z.bk, ct := Z.ct } E) := by simp only [wS]
@[simp] theorem wS_set (i : Nat) (e : M) (s : Sa) (h : AH) (Z : En) (E : EK) : wS C (.set i e) s h Z E = (wE C e s h (fun d h1 => Z.nx (s.set i (some d)) h1) E) := by simp only [wS]
@[simp] theorem wS_setT (is : List Nat) (e : M) (s : Sa) (h : AH) (Z : En) (E : EK) : wS C (.setT is e) s h Z E = (wE C e s h (fun d h1 => tgW (.many is) d s fun s1 => Z.nx s1 h1) E) := by simp only [wS]
@[simp] theorem wS_setI (o : M) (i : M) (e : M) (s : Sa) (h : AH) (Z : En) (E : EK) : wS C (.setI o i e) s h Z E = (wE C e s h (fun v h1 => wE C o s h1 (fun x h2 => wE C i s h2 (fun y h3 => setIW h3 x y v fun h4 => Z.nx s h4) E) E) E) := by simp only [wS]
@[simp] theorem wS_aug (i : Nat) (op : Bop) (e : M) (s : Sa) (h : AH) (Z : En) (E : EK) : wS C (.aug i op e) s h Z E = (slot s i fun x => wE C e s h (fun y h1 => (∃ a b, x = .int a ∧ y = .int b) ∧ bopW op x y h1 fun z h2 => Z.nx (s.set i (some z)) h2) E) := by simp only [wS]
@[simp] theorem wS_expr (e : M) (s : Sa) (h : AH) (Z : En) (E : EK) : wS C (.expr e) s h Z E = (wE C e s h (fun _ h1 => Z.nx s h1) E) := by simp only [wS]
@[simp] theorem wS_ret (e : M) (s : Sa) (h : AH) (Z : En) (E : EK) : wS C (.ret e) s h Z E = (wE C e s h Z.rt E) := by simp only [wS]
@[simp] theorem wS_ret0  (s : Sa) (h : AH) (Z : En) (E : EK) : wS C (.ret0) s h Z E = (Z.rt .non h) := by simp only [wS]
@[simp] theorem wS_cond (c : M) (a : MS) (b : MS) (s : Sa) (h : AH) (Z : En) (E : EK) : wS C (.cond c a b) s h Z E = (wT C c s h (fun t h1 => if t = true then wS C a s h1 Z E else wS C b s h1 Z E) E) := by simp only [wS]
@[simp] theorem wS_while_ (c : M) (b : MS) (s : Sa) (h : AH) (Z : En) (E : EK) : wS C (.while_ c b) s h Z E = (∃ n, whileW (wT C c) (wS C b) n s h Z E) := by simp only [wS]
@[simp] theorem wS_for_ (tg : Tg) (src : M) (b : MS) (s : Sa) (h : AH) (Z : En) (E : EK) : wS C (.for_ tg src b) s h Z E = (wI C src s h (fun it h1 => forW it.ck tg (wS C b) it.xs s h1 Z E) E) := by simp only [wS]
@[simp] theorem wS_pass_  (s : Sa) (h : AH) (Z : En) (E : EK) : wS C (.pass_) s h Z E = (Z.nx s h) := by simp only [wS]
@[simp] theorem wS_brk  (s : Sa) (h : AH) (Z : En) (E : EK) : wS C (.brk) s h Z E = (Z.bk s h) := by simp only [wS]
@[simp] theorem wS_cont  (s : Sa) (h : AH) (Z : En) (E : EK) : wS C (.cont) s h Z E = (Z.ct s h) := by simp only [wS]
@[simp] theorem wS_raise_ (c : Nat) (as : M) (s : Sa) (h : AH) (Z : En) (E : EK) : wS C (.raise_ c as) s h Z E = (wA C as s h (fun _ h1 => E ⟨c, []⟩ s h1) E) := by simp only [wS]
@[simp] theorem wS_never  (s : Sa) (h : AH) (Z : En) (E : EK) : wS C (.never) s h Z E = (False) := by simp only [wS]
end
/-! ### choice of a part -/
def optK {α : Type} (o : Option α) (K : α → Prop) : Prop := ∃ a, o = some a ∧ K a
@[simp] theorem optK_some {α : Type} (a : α) (K : α → Prop) : optK (some a) K = K a := propext ⟨fun ⟨b, e, k⟩ => by cases e; exact k, fun k => ⟨a, rfl, k⟩⟩
def getL (h : AH) (n : Nat) : Option (List D) := match h[n]? with
  | some (.lst xs) => some xs
  | _ => none
theorem getL_iff {h : AH} {n : Nat} {xs : List D} : getL h n = some xs ↔ h[n]? = some (.lst xs) := by
  unfold getL
  split
  · rename_i ys e
    rw [e]
    constructor
    · intro z; cases z; rfl
    · intro z; cases z; rfl
  · rename_i e
    constructor
    · intro z; cases z
    · intro z; exact absurd z (e xs)
theorem getL_lt {h : AH} {n : Nat} {xs : List D} (e : getL h n = some xs) : n < h.length := (List.getElem?_eq_some_iff.mp (getL_iff.mp e)).1
@[simp] theorem getL_set_self {h : AH} {n : Nat} {xs : List D} (hl : n < h.length) : getL (h.set n (.lst xs)) n = some xs := getL_iff.mpr (by rw [List.getElem?_set_self hl])
theorem getL_set_ne {h : AH} {n m : Nat} {o : O} (hn : n ≠ m) : getL (h.set n o) m = getL h m := by unfold getL; rw [List.getElem?_set_ne hn]
theorem getL_app {h t : AH} {n : Nat} (hl : n < h.length) : getL (h ++ t) n = getL h n := by unfold getL; rw [List.getElem?_append_left hl]
@[simp] theorem getL_new {h : AH} {xs : List D} : getL (h ++ [.lst xs]) h.length = some xs := getL_iff.mpr (by simp)
section
variable (h : AH) (Q : QD)
theorem ex_lst {n : Nat} {K : List D → Prop} : (∃ xs, h[n]? = some (.lst xs) ∧ K xs) = optK (getL h n) K := propext ⟨fun ⟨xs, e, k⟩ => ⟨xs, getL_iff.mpr e, k⟩, fun ⟨xs, e, k⟩ => ⟨xs, getL_iff.mp e, k⟩⟩
@[simp] theorem idxW_ref (n : Nat) (i : Int) (K : D → Prop) : idxW h (.ref n) (.int i) K = optK (getL h n) fun xs => optK (L2.atI xs i) K := by
  rw [← ex_lst]
  exact propext ⟨fun ⟨xs, d, e, e2, k⟩ => ⟨xs, e, d, e2, k⟩, fun ⟨xs, e, d, e2, k⟩ => ⟨xs, d, e, e2, k⟩⟩
@[simp] theorem idxW_tup (xs : List D) (i : Int) (K : D → Prop) : idxW h (.tup xs) (.int i) K = optK (L2.atI xs i) K := rfl
@[simp] theorem idxW_rol (xs : List D) (i : Int) (K : D → Prop) : idxW h (.rol xs) (.int i) K = optK (L2.atI xs i) K := rfl
@[simp] theorem idxW_str (xs : List Nat) (i : Int) (K : D → Prop) : idxW h (.str xs) (.int i) K = (xs.length ≤ SZ ∧ optK (L2.atI xs i) fun c => K (.str [c])) := rfl
@[simp] theorem setIW_ref (n : Nat) (k : Int) (v : D) (K : AH → Prop) : setIW h (.ref n) (.int k) v K = optK (getL h n) fun xs => optK (L2.ixN xs.length k) fun j => K (h.set n (.lst (xs.set j v))) := by
  rw [← ex_lst]
  exact propext ⟨fun ⟨xs, d, e, e2, k⟩ => ⟨xs, e, d, e2, k⟩, fun ⟨xs, e, d, e2, k⟩ => ⟨xs, d, e, e2, k⟩⟩
@[simp] theorem bop_add (i j : Int) : bopW .add (.int i) (.int j) h Q = Q (.int (i + j)) h := rfl
@[simp] theorem bop_sub (i j : Int) : bopW .sub (.int i) (.int j) h Q = Q (.int (i - j)) h := rfl
@[simp] theorem bop_mul (i j : Int) : bopW .mul (.int i) (.int j) h Q = (((-(2 ^ 64) < i ∧ i < 2 ^ 64) ∨ (-(2 ^ 64) < j ∧ j < 2 ^ 64)) ∧ Q (.int (i * j)) h) := rfl
@[simp] theorem bop_fdiv (i j : Int) : bopW .fdiv (.int i) (.int j) h Q = (0 < j ∧ j.natAbs < 2 ^ 200 ∧ Q (.int (i / j)) h) := rfl
@[simp] theorem bop_mod (i j : Int) : bopW .mod (.int i) (.int j) h Q = (0 < j ∧ Q (.int (i % j)) h) := rfl
@[simp] theorem bop_pow (i j : Int) : bopW .pow (.int i) (.int j) h Q = ((0 ≤ j ∧ j ≤ 1000000 ∧ i.natAbs < 2 ^ 64) ∧ Q (.int (i ^ j.toNat)) h) := rfl
@[simp] theorem bop_str (a b : List Nat) : bopW .add (.str a) (.str b) h Q = (a.length + b.length ≤ SZ ∧ Q (.str (a ++ b)) h) := rfl
@[simp] theorem bop_smul (a : List Nat) (j : Int) : bopW .mul (.str a) (.int j) h Q = (0 ≤ j ∧ j ≤ 1000 ∧ a.length ≤ 1000 ∧ Q (.str (List.replicate j.toNat a).flatten) h) := rfl
@[simp] theorem bop_tup (a b : List D) : bopW .add (.tup a) (.tup b) h Q = (a.length + b.length ≤ SZ ∧ Q (.tup (a ++ b)) h) := rfl
@[simp] theorem bop_lst (a b : Nat) : bopW .add (.ref a) (.ref b) h Q = optK (getL h a) fun xs => optK (getL h b) fun ys => xs.length + ys.length ≤ SZ ∧ Q (.ref h.length) (h ++ [.lst (xs ++ ys)]) := by
  rw [← ex_lst]
  exact propext ⟨fun ⟨xs, ys, e, e2, k⟩ => ⟨xs, e, ys, getL_iff.mpr e2, k⟩, fun ⟨xs, e, ys, e2, k⟩ => ⟨xs, ys, e, getL_iff.mp e2, k⟩⟩
variable (K : Bool → Prop)
@[simp] theorem cmp_lt (i j : Int) : cmpW .lt (.int i) (.int j) h K = K (decide (i < j)) := rfl
@[simp] theorem cmp_le (i j : Int) : cmpW .le (.int i) (.int j) h K = K (decide (i ≤ j)) := rfl
@[simp] theorem cmp_gt (i j : Int) : cmpW .gt (.int i) (.int j) h K = K (decide (j < i)) := rfl
@[simp] theorem cmp_ge (i j : Int) : cmpW .ge (.int i) (.int j) h K = K (decide (j ≤ i)) := rfl
@[simp] theorem cmp_eq (x y : D) : cmpW .eq x y h K = eqW h x y K := by cases x <;> cases y <;> rfl
@[simp] theorem cmp_ne (x y : D) : cmpW .ne x y h K = eqW h x y fun b => K (!b) := by cases x <;> cases y <;> rfl
@[simp] theorem cmp_in (x y : D) : cmpW .isin x y h K = inW h x y K := by cases x <;> cases y <;> rfl
@[simp] theorem cmp_notin (x y : D) : cmpW .notin x y h K = inW h x y fun b => K (!b) := by cases x <;> cases y <;> rfl
@[simp] theorem cmp_isN (x : D) : cmpW .isN x .non h K = K x.isN := by cases x <;> rfl
@[simp] theorem cmp_notN (x : D) : cmpW .notN x .non h K = K (!x.isN) := by cases x <;> rfl
end
@[simp] theorem isN_non : D.isN .non = true := rfl
@[simp] theorem isN_int (i : Int) : D.isN (.int i) = false := rfl
@[simp] theorem isN_str (i : List Nat) : D.isN (.str i) = false := rfl
@[simp] theorem isN_tup (i : List D) : D.isN (.tup i) = false := rfl
@[simp] theorem bool_bl (b : Bool) (K : Bool → Prop) : boolOf (.bl b) K = K b := rfl
@[simp] theorem int_int (b : Int) (K : Int → Prop) : intOf (.int b) K = K b := rfl
@[simp] theorem atI_0 {α : Type} (a : α) (l : List α) : L2.atI (a :: l) 0 = some a := by simp [L2.atI, L2.ixN]
theorem atI_nat {α : Type} (xs : List α) (n : Nat) : L2.atI xs (n : Int) = xs[n]? := by
  unfold L2.atI L2.ixN
  rw [if_pos (by omega)]
  by_cases h : n < xs.length
  · rw [if_pos (by omega)]; simp
  · rw [if_neg (by omega)]; simp [h]
@[simp] theorem atI_1 {α : Type} (xs : List α) : L2.atI xs 1 = xs[1]? := atI_nat xs 1
@[simp] theorem atI_2 {α : Type} (xs : List α) : L2.atI xs 2 = xs[2]? := atI_nat xs 2
@[simp] theorem atI_3 {α : Type} (xs : List α) : L2.atI xs 3 = xs[3]? := atI_nat xs 3
@[simp] theorem atI_4 {α : Type} (xs : List α) : L2.atI xs 4 = xs[4]? := atI_nat xs 4
@[simp] theorem atI_5 {α : Type} (xs : List α) : L2.atI xs 5 = xs[5]? := atI_nat xs 5
@[simp] theorem atI_6 {α : Type} (xs : List α) : L2.atI xs 6 = xs[6]? := atI_nat xs 6
@[simp] theorem atI_7 {α : Type} (xs : List α) : L2.atI xs 7 = xs[7]? := atI_nat xs 7
@[simp] theorem atI_8 {α : Type} (xs : List α) : L2.atI xs 8 = xs[8]? := atI_nat xs 8
@[simp] theorem atI_9 {α : Type} (xs : List α) : L2.atI xs 9 = xs[9]? := atI_nat xs 9
@[simp] theorem atI_10 {α : Type} (xs : List α) : L2.atI xs 10 = xs[10]? := atI_nat xs 10
@[simp] theorem atI_11 {α : Type} (xs : List α) : L2.atI xs 11 = xs[11]? := atI_nat xs 11
@[simp] theorem atI_12 {α : Type} (xs : List α) : L2.atI xs 12 = xs[12]? := atI_nat xs 12
@[simp] theorem slot_eq (s : Sa) (i : Nat) (K : D → Prop) : slot s i K = optK (s[i]?.join) K := by
  unfold slot
  cases e : s[i]? with
  | none => simp [optK]
  | some o => cases o <;> simp [optK]
@[simp] theorem tg_one (i : Nat) (d : D) (s : Sa) (K : Sa → Prop) : tgW (.one i) d s K = K (s.set i (some d)) := rfl
@[simp] theorem tg_many (is : List Nat) (ds : List D) (s : Sa) (K : Sa → Prop) : tgW (.many is) (.tup ds) s K = (ds.length = is.length ∧ K (setAll s is ds)) := rfl
@[simp] theorem tg_wmany (is : List Nat) (ds : List D) (s : Sa) (K : Sa → Prop) : tgW (.many is) (.wtup ds) s K = (ds.length = is.length ∧ K (setAll s is ds)) := rfl
@[simp] theorem setAll_cons (s : Sa) (i : Nat) (is : List Nat) (d : D) (ds : List D) : setAll s (i :: is) (d :: ds) = setAll (s.set i (some d)) is ds := rfl
@[simp] theorem setAll_nil (s : Sa) (ds : List D) : setAll s [] ds = s := by cases ds <;> rfl
@[simp] theorem wipeA_nil (s : Sa) : wipeA s [] = s := rfl
@[simp] theorem wipeA_cons (s : Sa) (v : Nat) (vs : List Nat) : wipeA s (v :: vs) = (wipeA s vs).set v none := rfl
@[simp] theorem tru_bl (h : AH) (b : Bool) (K : Bool → Prop) : truW h (.bl b) K = K b := rfl
/-! ### calls, loops -/
theorem call_ok {P : Prg} {f n : Nat} {d : Rf.Def} {as : List D} {h : AH} {Q : QD} {E : EC} (hf : P[f]? = some d) (ha : as.length = d.np)
    (w : wS (wC P n) d.body (startA d as) h { nx := fun _ h' => Q .non h', rt := Q, bk := fun _ _ => False, ct := fun _ _ => False } fun x _ h' => E x h') : wC P (n + 1) f as h Q E := by
  simp only [wC, hf]
  exact ⟨ha, w⟩
theorem forW_ind {ck : AH → Prop} {tg : Tg} {body : Sa → AH → En → EK → Prop} {Z : En} {E : EK} (I : List D → Sa → AH → Prop) (hd : ∀ s h, I [] s h → ck h ∧ Z.nx s h)
    (step : ∀ x xs s h (K : Sa → AH → Prop), I (x :: xs) s h → (∀ s' h', I xs s' h' → K s' h') → ck h ∧ tgW tg x s fun s1 => body s1 h { nx := K, rt := Z.rt, bk := Z.nx, ct := K } E) :
    ∀ (xs : List D) (s : Sa) (h : AH), I xs s h → forW ck tg body xs s h Z E
  | [], s, h, i => hd s h i
  | x :: xs, s, h, i => step x xs s h _ i fun s' h' i' => forW_ind I hd step xs s' h' i'
theorem lcW_ind {ck : AH → Prop} {tg : Tg} {c : Sa → AH → (Bool → AH → Prop) → Prop} {e : Sa → AH → QD → Prop} {Q : QL} (I : List D → List D → Sa → AH → Prop) (hd : ∀ acc s h, I [] acc s h → ck h ∧ Q acc h)
    (step : ∀ x xs acc s h (K : List D → AH → Prop), I (x :: xs) acc s h → (∀ acc' h', I xs acc' s h' → K acc' h') → ck h ∧ tgW tg x s fun s1 => c s1 h fun b h1 => if b = true then e s1 h1 fun d h2 => acc.length < SZ ∧ K (acc ++ [d]) h2 else K acc h1) :
    ∀ (xs acc : List D) (s : Sa) (h : AH), I xs acc s h → lcW ck tg c e xs acc s h Q
  | [], acc, s, h, i => hd acc s h i
  | x :: xs, acc, s, h, i => step x xs acc s h (fun acc' h' => lcW ck tg c e xs acc' s h' Q) i fun acc' h' i' => lcW_ind I hd step xs acc' s h' i'
/-- what a callee may leave: the old objects but those of ps -/
structure Keep (ps : List Nat) (h h' : AH) : Prop where
  len : h.length ≤ h'.length
  at_ : ∀ i, i < h.length → i ∉ ps → h'[i]? = h[i]?
theorem Keep.refl {ps : List Nat} {h : AH} : Keep ps h h := ⟨Nat.le_refl _, fun _ _ _ => rfl⟩
theorem Keep.trans {ps : List Nat} {a b c : AH} (x : Keep ps a b) (y : Keep ps b c) : Keep ps a c :=
  ⟨Nat.le_trans x.len y.len, fun i hi hp => (y.at_ i (Nat.lt_of_lt_of_le hi x.len) hp).trans (x.at_ i hi hp)⟩
theorem Keep.weak {ps qs : List Nat} {a b : AH} (x : Keep ps a b) (h : ∀ p ∈ ps, p ∈ qs) : Keep qs a b := ⟨x.len, fun i hi hq => x.at_ i hi fun z => hq (h i z)⟩
theorem Keep.app {ps : List Nat} {h t : AH} : Keep ps h (h ++ t) := ⟨by simp, fun i hi _ => List.getElem?_append_left hi⟩
theorem Keep.set {ps : List Nat} {h : AH} {p : Nat} {o : O} (hp : p ∈ ps) : Keep ps h (h.set p o) := ⟨by simp, fun i _ hi => List.getElem?_set_ne (fun e => hi (by rw [← e]; exact hp))⟩
theorem Keep.get {ps : List Nat} {h h' : AH} {i : Nat} {xs : List D} (x : Keep ps h h') (e : getL h i = some xs) (hp : i ∉ ps) : getL h' i = some xs := by
  have := x.at_ i (getL_lt e) hp
  unfold getL at e ⊢
  rw [this]
  exact e
theorem Keep.new {h h' : AH} {ps qs : List Nat} (x : Keep ps h h') (hp : ∀ p ∈ ps, p ∉ qs → h.length ≤ p) : Keep qs h h' := ⟨x.len, fun i hi hq => x.at_ i hi fun z => absurd (hp i z hq) (Nat.not_le.mpr hi)⟩
/-! ### the purse -/
def Purse (h : AH) (p : Nat) : Prop := ∃ a d c : Int, getL h p = some [.int a, .int d, .int c] ∧ 0 ≤ a ∧ a < 2147483587 ∧ 0 ≤ d
theorem Purse.lt {h : AH} {p : Nat} (x : Purse h p) : p < h.length := by
  obtain ⟨a, d, c, e, _⟩ := x
  exact getL_lt e
theorem Purse.keep {h h' : AH} {p : Nat} {ps : List Nat} (x : Purse h p) (k : Keep ps h h') (hp : p ∉ ps) : Purse h' p := by
  obtain ⟨a, d, c, e, r⟩ := x
  exact ⟨a, d, c, k.get e hp, r⟩
def bTake : MS := (.seq (.setI (.var 0) (.k (.int 2)) (.bin .add (.idx (.var 0) (.k (.int 2))) (.k (.int 1))))
    (.seq (.set 2 (.idx (.var 0) (.k (.int 0))))
    (.seq (.setI (.var 0) (.k (.int 0)) (.bin .mod (.bin .add (.bin .mul (.var 2) (.bin .add (.bin .mod (.var 2) (.k (.int 46337))) (.k (.int 30011)))) (.bin .mul (.k (.int 104729)) (.idx (.var 0) (.k (.int 2))))) (.k (.int 2147483587))))
    (.seq (.cond (.cmp .gt (.idx (.var 0) (.k (.int 1))) (.k (.int 0))) (.seq (.set 3 (.bin .mod (.idx (.var 0) (.k (.int 1))) (.var 1)))
    (.seq (.setI (.var 0) (.k (.int 1)) (.bin .fdiv (.idx (.var 0) (.k (.int 1))) (.var 1)))
    (.seq (.ret (.var 3))
    .nil))) .nil)
    (.seq (.ret (.bin .mod (.bin .fdiv (.idx (.var 0) (.k (.int 0))) (.k (.int 32))) (.var 1)))
    .nil)))))
theorem take_ok {P : Prg} {f n : Nat} (hf : P[f]? = some ⟨2, 4, bTake⟩) {p : Nat} {m : Int} {h : AH} {Q : QD} {E : EC} (hp : Purse h p) (hm : 0 < m) (hm2 : m < 2 ^ 199)
    (k : ∀ (t : Int) h', 0 ≤ t → t < m → Purse h' p → Keep [p] h h' → h'.length = h.length → Q (.int t) h') : wC P (n + 1) f [.ref p, .int m] h Q E := by
  refine call_ok hf rfl ?_
  obtain ⟨a, d, c, e, h1, h2, h3⟩ := hp
  have hl := getL_lt e
  simp [startA, bTake, e, hl, L2.ixN]
  have hn : m.natAbs < 2 ^ 200 := by omega
  have hr := Int.emod_nonneg (a * (a % 46337 + 30011) + 104729 * (c + 1)) (show (2147483587 : Int) ≠ 0 by decide)
  have hr2 := Int.emod_lt_of_pos (a * (a % 46337 + 30011) + 104729 * (c + 1)) (show (0 : Int) < 2147483587 by decide)
  refine ⟨.inl ⟨by omega, by omega⟩, ?_⟩
  split
  · refine ⟨hm, hn, k _ _ (Int.emod_nonneg _ (by omega)) (Int.emod_lt_of_pos _ hm) ⟨_, _, _, getL_set_self hl, hr, hr2, Int.ediv_nonneg h3 (by omega)⟩ (.set (by simp)) (by simp)⟩
  · exact ⟨hm, k _ _ (Int.emod_nonneg _ (by omega)) (Int.emod_lt_of_pos _ hm) ⟨_, _, _, getL_set_self hl, hr, hr2, h3⟩ (.set (by simp)) (by simp)⟩

end Rf

namespace Rf
/-! ### the script's cells, purses -/
def bPurse : MS := (.seq (.set 1 (.k (.int 0)))
    (.seq (.cond (.or (.cmp .lt (.var 0) (.k (.int 0))) (.cmp .ge (.var 0) (.bin .pow (.k (.int 10)) (.k (.int 18))))) (.seq (.set 1 (.bf .abs (.cons (.var 0) .nil)))
    .nil) .nil)
    (.seq (.ret (.lst (.cons (.bin .mod (.var 0) (.k (.int 2147483587))) (.cons (.var 1) (.cons (.k (.int 0)) .nil)))))
    .nil)))
@[simp] theorem bf_abs_int (h : AH) (i : Int) (Q : QD) : bfW h .abs [.int i] Q = Q (.int (if i < 0 then -i else i)) h := rfl
theorem purse_ok {P : Prg} {f n : Nat} (hf : P[f]? = some ⟨1, 2, bPurse⟩) {c : Int} {h : AH} {Q : QD} {E : EC}
    (k : ∀ h', Purse h' h.length → Keep [] h h' → h'.length = h.length + 1 → Q (.ref h.length) h') : wC P (n + 1) f [.int c] h Q E := by
  refine call_ok hf rfl ?_
  have hr := Int.emod_nonneg c (show (2147483587 : Int) ≠ 0 by decide)
  have hr2 := Int.emod_lt_of_pos c (show (0 : Int) < 2147483587 by decide)
  have fin : ∀ d : Int, 0 ≤ d → Q (.ref h.length) (h ++ [.lst [.int (c % 2147483587), .int d, .int 0]]) := fun d hd => k _ ⟨_, _, _, getL_new, hr, hr2, hd⟩ .app (by simp)
  simp [startA, bPurse, SZ]
  by_cases h1 : c < 0
  · simp [h1]
    exact fin _ (by omega)
  · by_cases h2 : 1000000000000000000 ≤ c
    · simp [h1, h2]
      exact fin _ (by omega)
    · simp [h1, h2]
      exact fin _ (by omega)
def bCell : MS := (.seq (.cond (.cmp .lt (.var 1) (.bf .len (.cons (.var 0) .nil))) (.seq (.ret (.idx (.var 0) (.var 1)))
    .nil) .nil)
    (.seq (.set 2 (.bin .mul (.bin .mul (.k (.int 39373)) (.bin .add (.var 1) (.k (.int 5)))) (.bin .add (.var 1) (.k (.int 5)))))
    (.seq (.for_ (.one 3) (.itv (.slc (.var 0) .nil (.cons (.k (.int 4)) .nil))) (.seq (.set 2 (.bin .mod (.bin .add (.bin .mul (.var 2) (.k (.int 16843))) (.var 3)) (.k (.int 2147483587))))
    .nil))
    (.seq (.ret (.var 2))
    .nil))))
@[simp] theorem len_rol (h : AH) (xs : List D) (Q : QD) : bfW h .len [.rol xs] Q = Q (.int xs.length) h := propext ⟨fun ⟨_, e, q⟩ => by cases e; exact q, fun q => ⟨_, rfl, q⟩⟩
@[simp] theorem len_tup (h : AH) (xs : List D) (Q : QD) : bfW h .len [.tup xs] Q = Q (.int xs.length) h := propext ⟨fun ⟨_, e, q⟩ => by cases e; exact q, fun q => ⟨_, rfl, q⟩⟩
@[simp] theorem len_str (h : AH) (xs : List Nat) (Q : QD) : bfW h .len [.str xs] Q = (xs.length ≤ SZ ∧ Q (.int xs.length) h) := rfl
theorem itemsOf_ref (h : AH) (n : Nat) : itemsOf h (.ref n) = getL h n := by unfold itemsOf getL; rfl
@[simp] theorem len_ref (h : AH) (n : Nat) (Q : QD) : bfW h .len [.ref n] Q = optK (getL h n) fun xs => Q (.int xs.length) h := by
  rw [← itemsOf_ref]; rfl
@[simp] theorem slc_tup (h : AH) (xs : List D) (lo hi : Option Int) (Q : QD) : slcW h (.tup xs) lo hi Q = Q (.tup (cut xs lo hi)) h := rfl
@[simp] theorem slc_str (h : AH) (xs : List Nat) (lo hi : Option Int) (Q : QD) : slcW h (.str xs) lo hi Q = (xs.length ≤ SZ ∧ Q (.str (cut xs lo hi)) h) := rfl
@[simp] theorem slc_rol (h : AH) (xs : List D) (lo hi : Option Int) (Q : QD) : slcW h (.rol xs) lo hi Q = Q (.ref h.length) (h ++ [.lst (cut xs lo hi)]) := rfl
@[simp] theorem slc_ref (h : AH) (n : Nat) (lo hi : Option Int) (Q : QD) : slcW h (.ref n) lo hi Q = optK (getL h n) fun xs => Q (.ref h.length) (h ++ [.lst (cut xs lo hi)]) := ex_lst h
@[simp] theorem itW_tup (h : AH) (xs : List D) (K : It → Prop) : itW h (.tup xs) K = K ⟨xs, fun _ => True⟩ := rfl
@[simp] theorem itW_rol (h : AH) (xs : List D) (K : It → Prop) : itW h (.rol xs) K = K ⟨xs, fun _ => True⟩ := rfl
@[simp] theorem itW_str (h : AH) (xs : List Nat) (K : It → Prop) : itW h (.str xs) K = K ⟨xs.map fun c => .str [c], fun _ => True⟩ := rfl
@[simp] theorem itW_ref (h : AH) (n : Nat) (K : It → Prop) : itW h (.ref n) K = optK (getL h n) fun xs => K ⟨xs, fun h' => getL h' n = some xs⟩ := by
  have e : ∀ xs, (fun h' : AH => getL h' n = some xs) = fun h' => h'[n]? = some (.lst xs) := fun xs => funext fun h' => propext getL_iff
  have e2 : itW h (.ref n) K = (match h[n]? with | some (.lst xs) => K ⟨xs, fun h' => h'[n]? = some (.lst xs)⟩ | _ => False) := rfl
  rw [e2]
  cases q : getL h n with
  | some xs =>
    have := getL_iff.mp q
    rw [this, optK_some, e]
  | none =>
    have : optK (none : Option (List D)) (fun xs => K ⟨xs, fun h' => getL h' n = some xs⟩) = False := by unfold optK; simp
    rw [this]
    unfold getL at q
    split at q
    · cases q
    · rename_i e3
      first
        | rfl
        | (split
           · rename_i xs z
             exact absurd z (e3 xs)
           · rfl)
theorem cut_mem {α : Type} {xs : List α} {lo hi : Option Int} {x : α} (h : x ∈ cut xs lo hi) : x ∈ xs := List.mem_of_mem_drop (List.mem_of_mem_take h)
theorem cell_ok {P : Prg} {f n : Nat} (hf : P[f]? = some ⟨2, 4, bCell⟩) {ns : List Int} {i : Nat} (hi : i < 2 ^ 60) {h : AH} {Q : QD} {E : EC}
    (k : ∀ (c : Int) h', Keep [] h h' → Q (.int c) h') : wC P (n + 1) f [.rol (ns.map .int), .int i] h Q E := by
  refine call_ok hf rfl ?_
  simp [startA, bCell]
  by_cases h1 : i < ns.length
  · simp [h1, atI_nat]
    exact k _ _ .refl
  · simp [h1]
    refine ⟨.inr (by omega), ?_⟩
    refine forW_ind (fun xs s h' => (∀ x ∈ xs, ∃ j : Int, x = .int j) ∧ Keep [] (h ++ [.lst (cut (ns.map D.int) none (some 4))]) h' ∧ ∃ (v : Int) (d : Option D), s = [some (.rol (ns.map .int)), some (.int i), some (.int v), d])
      (fun s h' ⟨_, kp, v, d, e⟩ => ⟨kp.get getL_new (by simp), ?_⟩) (fun x xs s h' K ⟨hx, kp, v, d, e⟩ hK => ⟨kp.get getL_new (by simp), ?_⟩) _ _ _ ⟨fun x hx => ?_, .refl, _, _, rfl⟩
    · subst e
      simp
      exact k _ _ (Keep.trans .app kp)
    · subst e
      obtain ⟨j, rfl⟩ := hx _ List.mem_cons_self
      simp
      exact hK _ _ ⟨fun y hy => hx y (List.mem_cons_of_mem _ hy), kp, _, _, rfl⟩
    · obtain ⟨j, _, e⟩ := List.mem_map.mp (cut_mem hx)
      exact ⟨j, e.symm⟩
end Rf

namespace Rf
/-! ### words -/
def Word (w : List Nat) : Prop := 1 ≤ w.length ∧ w.length ≤ 6 ∧ ∀ c ∈ w, 97 ≤ c ∧ c ≤ 122
theorem Word.ok {w : List Nat} (h : Word w) : strOkL w = true := by
  unfold strOkL
  rw [List.all_eq_true]
  intro c hc
  have := h.2.2 c hc
  exact decide_eq_true (by omega)
theorem at_lt {α : Type} {xs : List α} {t : Int} (h0 : 0 ≤ t) (h1 : t < xs.length) : ∃ d, L2.atI xs t = some d ∧ d ∈ xs := by
  have e : t = ((t.toNat : Nat) : Int) := by omega
  rw [e, atI_nat]
  have : t.toNat < xs.length := by omega
  exact ⟨xs[t.toNat], List.getElem?_eq_getElem this, List.getElem_mem this⟩
theorem eqv_str (x y : List Nat) : D.eqv (.str x) (.str y) = decide (x = y) := rfl
theorem mem_str (w : List Nat) (us : List (List Nat)) : D.mem (.str w) (us.map .str) = decide (w ∈ us) := by
  unfold D.mem
  induction us with
  | nil => rfl
  | cons u us ih =>
    rw [List.map_cons, List.any_cons, ih, eqv_str]
    by_cases h : u = w
    · subst h; simp
    · simp [h, Ne.symm h]
theorem oks_str {n : Nat} {us : List (List Nat)} (h : ∀ u ∈ us, strOkL u = true) : D.oks n (us.map .str) = true := by
  induction us with
  | nil => rfl
  | cons u us ih =>
    simp only [List.map_cons, D.oks, Bool.and_eq_true]
    refine ⟨?_, ih fun v hv => h v (List.mem_cons_of_mem _ hv)⟩
    have := h u List.mem_cons_self
    cases n <;> exact this
theorem inW_ref (h : AH) (x : D) (n : Nat) (K : Bool → Prop) : inW h x (.ref n) K = optK (getL h n) fun ys => D.ok 60 x = true ∧ D.oks 59 ys = true ∧ K (D.mem x ys) := by
  rw [← itemsOf_ref]
  cases x with
  | str x => rcases x with _ | ⟨c, _ | ⟨d, r⟩⟩ <;> rfl
  | _ => rfl
def abc : List Nat := [97, 98, 99, 100, 101, 102, 103, 104, 105, 106, 107, 108, 109, 110, 111, 112, 113, 114, 115, 116, 117, 118, 119, 120, 121, 122]
def menu1 : List (List Nat) := [[109, 97, 114, 107], [103, 111], [107, 101, 101, 112], [116, 101, 108, 108], [114, 111, 117, 110, 100], [112, 117, 116], [100, 114, 111, 112], [110, 111, 110, 101], [109, 101], [97, 115, 107], [116, 104, 105, 110, 103], [101, 110, 100]]
def lstM : List (List Nat) → M
  | [] => .nil
  | w :: ws => .cons (.k (.str w)) (lstM ws)
/-- what follows once a word is drawn -/
def bWordEnd : MS := (.seq (.cond (.cmp .notin (.var 3) (.var 1)) (.seq (.ret (.var 3))
    .nil) .nil)
    (.seq (.set 4 (.lc (.var 6) (.one 6) (.itv (.k (.str abc))) (.cmp .notin (.bin .add (.var 6) (.slc (.var 3) .nil (.cons (.k (.int 5)) .nil))) (.var 1)) [6]))
    (.seq (.ret (.bin .add (.idx (.var 4) (.k (.int 0))) (.slc (.var 3) .nil (.cons (.k (.int 5)) .nil))))
    .nil)))
def bWordLoop (tk : Nat) : MS := .for_ (.one 5) (.rng1 (.bin .add (.k (.int 1)) (.call tk (.cons (.var 0) (.cons (.k (.int 6)) .nil))))) (.seq (.set 3 (.bin .add (.var 3) (.idx (.k (.str abc)) (.call tk (.cons (.var 0) (.cons (.k (.int 26)) .nil))))))
    .nil)
def bWord (tk : Nat) (menu : List (List Nat)) : MS := (.seq (.set 2 (.lst (lstM menu)))
    (.seq (.set 3 (.idx (.var 2) (.call tk (.cons (.var 0) (.cons (.k (.int 12)) .nil)))))
    (.seq (.cond (.cmp .gt (.call tk (.cons (.var 0) (.cons (.k (.int 5)) .nil))) (.k (.int 0))) (.seq (.set 3 (.k (.str [])))
    (.seq (bWordLoop tk)
    .nil)) .nil)
    bWordEnd)))
theorem cut_take {α : Type} (xs : List α) (k : Nat) : cut xs none (some (k : Int)) = xs.take k := by
  unfold cut
  rw [HT.sIx_nat]
  show (xs.drop 0).take (min k xs.length - 0) = _
  rw [List.drop_zero, Nat.sub_zero]
  by_cases h : k ≤ xs.length
  · rw [Nat.min_eq_left h]
  · rw [Nat.min_eq_right (by omega), List.take_length, List.take_of_length_le (by omega)]
theorem abc_mem {c : Nat} : c ∈ abc ↔ 97 ≤ c ∧ c ≤ 122 := by
  unfold abc
  simp only [List.mem_cons, List.not_mem_nil, or_false]
  omega
/-- one of 26 first letters is free -/
theorem free_letter {us : List (List Nat)} (hl : us.length < 26) (w : List Nat) : (abc.filter fun c => decide (c :: w ∉ us)) ≠ [] := by
  intro h
  rw [List.filter_eq_nil_iff] at h
  have h' : ∀ c ∈ abc, c :: w ∈ us := fun c hc => by simpa using h c hc
  have nd : (abc.map fun c => c :: w).Nodup := by
    exact List.Pairwise.map _ (fun a b hab e => hab (by cases e; rfl)) (by decide : abc.Nodup)
  have := List.Nodup.length_le_of_subset nd (l₂ := us) fun x hx => by
    obtain ⟨c, hc, rfl⟩ := List.mem_map.mp hx
    exact h' c hc
  simp [abc] at this
  omega
@[simp] theorem wA_lstM (C : CT) (ws : List (List Nat)) (s : Sa) (h : AH) (Q : QL) (E : EK) : wA C (lstM ws) s h Q E = Q (ws.map .str) h := by
  induction ws generalizing Q with
  | nil => simp [lstM]
  | cons w ws ih => simp [lstM, ih]
theorem wordEnd_ok {C : CT} {p u : Nat} {w : List Nat} {us : List (List Nat)} {m : Option D} {h : AH} {Z : En} {E : EK} {d4 d5 d6 : Option D} (hw : Word w) (hu : getL h u = some (us.map .str)) (hok : ∀ x ∈ us, strOkL x = true) (hl : us.length < 26)
    (k : ∀ w' h', Word w' → w' ∉ us → Keep [] h h' → Z.rt (.str w') h') : wS C bWordEnd [some (.ref p), some (.ref u), m, some (.str w), d4, d5, d6] h Z E := by
  have o1 : D.ok 60 (.str w) = true := hw.ok
  have o2 := oks_str (n := 59) hok
  simp [bWordEnd, inW_ref, hu, o1, o2, mem_str]
  by_cases hm : w ∈ us
  · simp [hm]
    -- the free letters
    have hlen : w.length ≤ 6 := hw.2.1
    refine lcW_ind (fun xs acc s h' => ∃ l1 l2 : List Nat, abc = l1 ++ l2 ∧ xs = l2.map (fun c => .str [c]) ∧ acc = (l1.filter fun c => decide (c :: w.take 5 ∉ us)).map (fun c => .str [c]) ∧ h' = h ∧ ∃ e6, s = [some (.ref p), some (.ref u), m, some (.str w), d4, d5, e6])
      (fun acc s h' ⟨l1, l2, e1, e2, e3, e4, e6, e5⟩ => ⟨trivial, ?_⟩) (fun x xs acc s h' K ⟨l1, l2, e1, e2, e3, e4, e6, e5⟩ hK => ⟨trivial, ?_⟩) _ _ _ _ ⟨[], abc, rfl, rfl, rfl, rfl, none, ?_⟩
    · subst e4 e5 e3
      cases l2 with
      | cons _ _ => simp at e2
      | nil =>
        rw [List.append_nil] at e1
        subst e1
        have fr := free_letter hl (w.take 5)
        cases q : abc.filter fun c => decide (c :: w.take 5 ∉ us) with
        | nil => exact absurd q fr
        | cons c cs =>
          have hc : c ∈ abc.filter fun c => decide (c :: w.take 5 ∉ us) := by rw [q]; exact List.mem_cons_self
          rw [List.mem_filter] at hc
          have h1 := cut_take w 5
          simp [SZ] at h1 ⊢
          rw [h1]
          have hw' : Word (c :: w.take 5) := by
            refine ⟨by simp, by simp; omega, fun b hb => ?_⟩
            rcases List.mem_cons.mp hb with rfl | hb
            · exact abc_mem.mp hc.1
            · exact hw.2.2 b (List.mem_of_mem_take hb)
          exact ⟨by omega, by simp; omega, k _ _ hw' (by simpa using hc.2) .app⟩
    · subst e4 e5
      cases l2 with
      | nil => simp at e2
      | cons c l2 =>
        simp at e2
        obtain ⟨rfl, rfl⟩ := e2
        have h1 := cut_take w 5
        simp at h1
        simp [inW_ref, hu, o2, h1]
        have hc : c ∈ abc := by rw [e1]; simp
        have hw' : Word (c :: w.take 5) := by
          refine ⟨by simp, by simp; omega, fun b hb => ?_⟩
          rcases List.mem_cons.mp hb with rfl | hb
          · exact abc_mem.mp hc
          · exact hw.2.2 b (List.mem_of_mem_take hb)
        have hl1 : l1.length ≤ 26 := by
          have := congrArg List.length e1
          simp [abc] at this
          omega
        have m1 := mem_str (c :: w.take 5) us
        refine ⟨by simp [SZ]; omega, by simp [SZ]; omega, hw'.ok, ?_⟩
        simp only [List.singleton_append, m1]
        have e1' : abc = (l1 ++ [c]) ++ l2 := by rw [e1]; simp
        by_cases hm2 : c :: w.take 5 ∈ us
        · simp [hm2]
          exact hK _ _ ⟨_, l2, e1', rfl, by rw [List.filter_append, List.map_append]; simp [hm2, e3], rfl, _, rfl⟩
        · simp [hm2]
          refine ⟨?_, hK _ _ ⟨_, l2, e1', rfl, by rw [List.filter_append, List.map_append]; simp [hm2, e3], rfl, _, rfl⟩⟩
          have := List.length_filter_le (fun c => decide (c :: w.take 5 ∉ us)) l1
          rw [e3, List.length_map]
          show _ < 16777216
          omega
    · simp
  · simp [hm]
    exact k _ _ hw hm .refl
theorem wordLoop_ok {P : Prg} {n tk p : Nat} (hf : P[tk]? = some ⟨2, 4, bTake⟩) {x1 x2 x4 x6 : Option D} {h : AH} {Z : En} {E : EK} (hp : Purse h p) {x5 : Option D}
    (k : ∀ w h' x5, Word w → Purse h' p → Keep [p] h h' → h'.length = h.length → Z.nx [some (.ref p), x1, x2, some (.str w), x4, x5, x6] h') :
    wS (wC P (n + 1)) (bWordLoop tk) [some (.ref p), x1, x2, some (.str []), x4, x5, x6] h Z E := by
  simp [bWordLoop]
  refine take_ok hf hp (by decide) (by decide) fun t h' t0 t1 hp' kp hl => ?_
  simp
  refine ⟨by omega, ?_⟩
  refine forW_ind (fun xs s h2 => ∃ (j : Nat) (w : List Nat) (y5 : Option D), j ≤ (1 + t).toNat ∧ xs = (List.range' j ((1 + t).toNat - j)).map (fun (i : Nat) => D.int (0 + (i : Int))) ∧ w.length = j ∧ (∀ c ∈ w, 97 ≤ c ∧ c ≤ 122) ∧ s = [some (.ref p), x1, x2, some (.str w), x4, y5, x6] ∧ Purse h2 p ∧ Keep [p] h h2 ∧ h2.length = h.length)
    (fun s h2 ⟨j, w, y5, hj, e1, e2, e3, e4, e5, e6, e7⟩ => ⟨trivial, ?_⟩) (fun x xs s h2 K ⟨j, w, y5, hj, e1, e2, e3, e4, e5, e6, e7⟩ hK => ⟨trivial, ?_⟩) _ _ _ ⟨0, [], x5, by omega, ?_, rfl, by simp, rfl, hp', kp, hl⟩
  · subst e4
    have : j = (1 + t).toNat := by
      have := congrArg List.length e1
      simp at this
      omega
    exact k _ _ _ ⟨by omega, by omega, e3⟩ e5 e6 e7
  · subst e4
    cases q : (1 + t).toNat - j with
    | zero => rw [q] at e1; simp at e1
    | succ r =>
      rw [q] at e1
      simp [List.range'_succ] at e1
      obtain ⟨rfl, rfl⟩ := e1
      simp
      refine take_ok hf e5 (by decide) (by decide) fun t2 h3 u0 u1 hp3 kp3 hl3 => ?_
      obtain ⟨c, hc, hc2⟩ := at_lt (xs := abc) u0 (by simpa [abc] using u1)
      simp [hc]
      refine ⟨by simp [abc, SZ], by simp [SZ]; omega, hK _ _ ⟨j + 1, w ++ [c], _, by omega, ?_, by simp [e2], ?_, rfl, hp3, e6.trans kp3, by omega⟩⟩
      · have : (1 + t).toNat - (j + 1) = r := by omega
        rw [this]
        simp
      · intro b hb
        rcases List.mem_append.mp hb with hb | hb
        · exact e3 b hb
        · rw [List.mem_singleton] at hb
          subst hb
          exact abc_mem.mp hc2
  · rw [List.range_eq_range']
    simp
theorem word_ok {P : Prg} {n f tk p u : Nat} {menu : List (List Nat)} (hf : P[f]? = some ⟨2, 7, bWord tk menu⟩) (ht : P[tk]? = some ⟨2, 4, bTake⟩) (hm : menu.length = 12) (hmw : ∀ w ∈ menu, Word w) {us : List (List Nat)} {h : AH} {Q : QD} {E : EC} (hp : Purse h p)
    (hu : getL h u = some (us.map .str)) (hok : ∀ x ∈ us, strOkL x = true) (hl : us.length < 26) (hup : u ≠ p) (k : ∀ w h', Word w → w ∉ us → Purse h' p → Keep [p] h h' → Q (.str w) h') : wC P (n + 2) f [.ref p, .ref u] h Q E := by
  refine call_ok hf rfl ?_
  have hpl := hp.lt
  have hul := getL_lt hu
  simp [startA, bWord, hm, SZ]
  refine take_ok ht (hp.keep (ps := []) .app (by simp)) (by decide) (by decide) fun t h1 t0 t1 hp1 kp1 hl1 => ?_
  obtain ⟨d, hd, hd2⟩ := at_lt (xs := menu.map D.str) t0 (by simpa [hm] using t1)
  obtain ⟨w, hw, rfl⟩ := List.mem_map.mp hd2
  have g1 : getL h1 h.length = some (menu.map D.str) := kp1.get getL_new (by simp; omega)
  simp [g1, hd]
  have u1 : getL h1 u = some (us.map .str) := kp1.get ((getL_app hul).trans hu) (by simpa using hup)
  refine take_ok ht hp1 (by decide) (by decide) fun t2 h2 t20 t21 hp2 kp2 hl2 => ?_
  have u2 : getL h2 u = some (us.map .str) := kp2.get u1 (by simpa using hup)
  have k2 : Keep [p] h h2 := (Keep.app.trans kp1).trans kp2
  by_cases hz : 0 < t2
  · simp [hz]
    refine wordLoop_ok ht hp2 fun w' h3 x5 hw' hp3 kp3 hl3 => ?_
    refine wordEnd_ok hw' (kp3.get u2 (by simpa using hup)) hok hl fun w'' h4 hw'' hn kp4 => ?_
    exact k _ _ hw'' hn (hp3.keep kp4 (by simp)) ((k2.trans kp3).trans (kp4.weak (by simp)))
  · simp [hz]
    refine wordEnd_ok (hmw w hw) u2 hok hl fun w'' h4 hw'' hn kp4 => ?_
    exact k _ _ hw'' hn (hp2.keep kp4 (by simp)) (k2.trans (kp4.weak (by simp)))
end Rf

namespace Rf
/-! ### several words -/
@[simp] theorem bmT_ref (h : AH) (f : Bm) (n : Nat) (hf : f ≠ .index := by decide) : bmT h f (.ref n) = ((getL h n).isSome = true) := by
  have e : bmT h f (.ref n) = ∃ xs, h[n]? = some (.lst xs) := by cases f <;> first | rfl | exact absurd rfl hf
  rw [e]
  apply propext
  rw [Option.isSome_iff_exists]
  exact ⟨fun ⟨xs, e⟩ => ⟨xs, getL_iff.mpr e⟩, fun ⟨xs, e⟩ => ⟨xs, getL_iff.mp e⟩⟩
@[simp] theorem bmw_append (h : AH) (n : Nat) (y : D) (Q : QD) : bmW h .append (.ref n) [y] Q = optK (getL h n) fun xs => xs.length < SZ ∧ Q .non (h.set n (.lst (xs ++ [y]))) := ex_lst h
theorem bmw_extend_ref (h : AH) (n k : Nat) (Q : QD) : bmW h .extend (.ref n) [.ref k] Q = optK (getL h n) fun xs => optK (getL h k) fun ys => xs.length + ys.length ≤ SZ ∧ Q .non (h.set n (.lst (xs ++ ys))) := by
  rw [← ex_lst]
  exact propext ⟨fun ⟨xs, ys, e, e2, k⟩ => ⟨xs, e, ys, e2, k⟩, fun ⟨xs, e, ys, e2, k⟩ => ⟨xs, ys, e, e2, k⟩⟩
theorem bmw_extend_tup (h : AH) (n : Nat) (ys : List D) (Q : QD) : bmW h .extend (.ref n) [.tup ys] Q = optK (getL h n) fun xs => xs.length + ys.length ≤ SZ ∧ Q .non (h.set n (.lst (xs ++ ys))) := by
  rw [← ex_lst]
  exact propext ⟨fun ⟨xs, ys, e, e2, k⟩ => by cases e2; exact ⟨xs, e, k⟩, fun ⟨xs, e, k⟩ => ⟨xs, ys, e, rfl, k⟩⟩
theorem bmw_pop (h : AH) (n : Nat) (Q : QD) : bmW h .pop (.ref n) [] Q = optK (getL h n) fun xs => optK xs[xs.length - 1]? fun y => Q y (h.set n (.lst xs.dropLast)) := by
  rw [← ex_lst]
  exact propext ⟨fun ⟨xs, y, e, e2, k⟩ => ⟨xs, e, y, e2, k⟩, fun ⟨xs, e, y, e2, k⟩ => ⟨xs, y, e, e2, k⟩⟩
def bWords (wd : Nat) : MS := (.seq (.set 3 (.lst .nil))
    (.seq (.for_ (.one 4) (.rng1 (.var 1)) (.seq (.expr (.bm .append (.var 3) (.cons (.call wd (.cons (.var 0) (.cons (.bin .add (.var 2) (.var 3)) .nil))) .nil)))
    .nil))
    (.seq (.ret (.var 3))
    .nil)))
structure WordsAt (h : AH) (q : Nat) (ws : List (List Nat)) : Prop where
  at_ : getL h q = some (ws.map .str)
  nd : ws.Nodup
  w : ∀ x ∈ ws, Word x
theorem words_ok {P : Prg} {n f wd tk p u : Nat} {menu : List (List Nat)} (hf : P[f]? = some ⟨3, 5, bWords wd⟩) (hw : P[wd]? = some ⟨2, 7, bWord tk menu⟩) (ht : P[tk]? = some ⟨2, 4, bTake⟩) (hm : menu.length = 12) (hmw : ∀ w ∈ menu, Word w)
    {us : List (List Nat)} {m : Int} {h : AH} {Q : QD} {E : EC} (hp : Purse h p) (hu : getL h u = some (us.map .str)) (hok : ∀ x ∈ us, strOkL x = true) (hup : u ≠ p) (hm0 : 0 ≤ m) (hl : us.length + m ≤ 26)
    (k : ∀ ws h', WordsAt h' h.length ws → (ws.length : Int) = m → (∀ x ∈ ws, x ∉ us) → Purse h' p → Keep [p] h h' → h.length < h'.length → Q (.ref h.length) h') : wC P (n + 3) f [.ref p, .int m, .ref u] h Q E := by
  refine call_ok hf rfl ?_
  have hpl := hp.lt
  have hul := getL_lt hu
  simp [startA, bWords, SZ]
  refine ⟨by omega, ?_⟩
  refine forW_ind (fun xs s h2 => ∃ (j : Nat) (ws : List (List Nat)) (y4 : Option D), j ≤ m.toNat ∧ xs = (List.range' j (m.toNat - j)).map (fun (i : Nat) => D.int (0 + (i : Int))) ∧ ws.length = j ∧ WordsAt h2 h.length ws ∧ (∀ x ∈ ws, x ∉ us) ∧ s = [some (.ref p), some (.int m), some (.ref u), some (.ref h.length), y4] ∧ Purse h2 p ∧ Keep [p] h h2)
    (fun s h2 ⟨j, ws, y4, hj, e1, e2, e3, e4, e5, e6, e7⟩ => ⟨trivial, ?_⟩) (fun x xs s h2 K ⟨j, ws, y4, hj, e1, e2, e3, e4, e5, e6, e7⟩ hK => ⟨trivial, ?_⟩) _ _ _ ⟨0, [], none, by omega, ?_, rfl, ⟨by simp, by simp, by simp⟩, by simp, rfl, hp.keep (ps := []) .app (by simp), .app⟩
  · subst e5
    simp
    have : j = m.toNat := by
      have := congrArg List.length e1
      simp at this
      omega
    exact k ws _ e3 (by omega) e4 e6 e7 (getL_lt e3.at_)
  · subst e5
    cases q : m.toNat - j with
    | zero => rw [q] at e1; simp at e1
    | succ r =>
      rw [q] at e1
      simp [List.range'_succ] at e1
      obtain ⟨rfl, rfl⟩ := e1
      have g3 := e3.at_
      have gu : getL h2 u = some (us.map .str) := e7.get hu (by simpa using hup)
      have hlt := getL_lt g3
      simp [g3, gu]
      refine ⟨by simp [SZ]; omega, ?_⟩
      rw [← List.map_append]
      refine word_ok hw ht hm hmw (us := us ++ ws) (e6.keep (ps := []) .app (by simp)) getL_new ?_ (by simp; omega) (by have := e6.lt; omega) fun w h3 hw3 hn hp3 kp3 => ?_
      · intro x hx
        rcases List.mem_append.mp hx with hx | hx
        · exact hok x hx
        · exact (e3.w x hx).ok
      · have k3 : Keep [p] h2 h3 := Keep.app.trans kp3
        have g4 : getL h3 h.length = some (ws.map .str) := k3.get g3 (by simp; omega)
        have hlt3 := getL_lt g4
        simp [g4]
        simp only [List.mem_append, not_or] at hn
        refine ⟨by simp [SZ]; omega, hK _ _ ⟨j + 1, ws ++ [w], _, by omega, ?_, by simp [e2], ⟨?_, ?_, ?_⟩, ?_, rfl, ?_, ?_⟩⟩
        · have : m.toNat - (j + 1) = r := by omega
          rw [this]
          simp
        · rw [getL_set_self hlt3]; simp
        · rw [List.nodup_append]
          exact ⟨e3.nd, by simp, fun a ha b hb e => by simp at hb; subst hb; subst e; exact hn.2 ha⟩
        · intro x hx
          rcases List.mem_append.mp hx with hx | hx
          · exact e3.w x hx
          · simp at hx; subst hx; exact hw3
        · intro x hx
          rcases List.mem_append.mp hx with hx | hx
          · exact e4 x hx
          · simp at hx; subst hx; exact hn.1
        · exact hp3.keep (ps := [h.length]) (.set (by simp)) (by simp; omega)
        · exact (((e7.trans k3).weak (qs := [p, h.length]) (by simp)).trans (Keep.set (by simp))).new (by simp)
  · rw [List.range_eq_range']
    simp
end Rf

namespace Rf
/-! ### plain values: alike to themselves -/
mutual
def D.pl : Nat → D → Bool
  | _, .non => true
  | _, .bl _ => true
  | _, .int _ => true
  | _, .str x => strOkL x
  | n, .tup xs => (match n with | 0 => false | n + 1 => decide (xs.length < 16777216) && D.pls n xs)
  | _, .rol _ => false
  | _, .wtup _ => false
  | _, .ref _ => false
def D.pls : Nat → List D → Bool
  | _, [] => true
  | n, x :: xs => D.pl n x && D.pls n xs
end
theorem pls_mem : ∀ {n : Nat} {xs : List D}, D.pls n xs = true ↔ ∀ x ∈ xs, D.pl n x = true
  | n, [] => by simp [D.pls]
  | n, x :: xs => by
    have := pls_mem (n := n) (xs := xs)
    simp [D.pls, this]
theorem oks_mem : ∀ {n : Nat} {xs : List D}, D.oks n xs = true ↔ ∀ x ∈ xs, D.ok n x = true
  | n, [] => by simp [D.oks]
  | n, x :: xs => by
    have := oks_mem (n := n) (xs := xs)
    simp [D.oks, this]
theorem pl_ok : ∀ {n m : Nat} {x : D}, n ≤ m → D.pl n x = true → D.ok m x = true
  | n, m, .non, _, _ => by cases m <;> rfl
  | n, m, .bl _, _, _ => by cases m <;> rfl
  | n, m, .int _, _, _ => by cases m <;> rfl
  | n, m, .str x, _, h => by cases n <;> cases m <;> exact h
  | 0, m, .tup xs, _, h => by simp [D.pl] at h
  | n + 1, 0, .tup xs, l, h => by omega
  | n + 1, m + 1, .tup xs, l, h => by
    simp only [D.pl, Bool.and_eq_true] at h
    simp only [D.ok]
    rw [oks_mem]
    rw [pls_mem] at h
    exact fun x hx => pl_ok (by omega) (h.2 x hx)
  | n, m, .rol _, _, h => by cases n <;> simp [D.pl] at h
  | n, m, .wtup _, _, h => by cases n <;> simp [D.pl] at h
  | n, m, .ref _, _, h => by cases n <;> simp [D.pl] at h
theorem pl_mono : ∀ {n m : Nat} {x : D}, n ≤ m → D.pl n x = true → D.pl m x = true
  | n, m, .non, _, _ => by cases m <;> rfl
  | n, m, .bl _, _, _ => by cases m <;> rfl
  | n, m, .int _, _, _ => by cases m <;> rfl
  | n, m, .str x, _, h => by cases n <;> cases m <;> exact h
  | 0, m, .tup xs, _, h => by simp [D.pl] at h
  | n + 1, 0, .tup xs, l, h => by omega
  | n + 1, m + 1, .tup xs, l, h => by
    simp only [D.pl, Bool.and_eq_true] at h ⊢
    rw [pls_mem] at h ⊢
    exact ⟨h.1, fun x hx => pl_mono (by omega) (h.2 x hx)⟩
  | n, m, .rol _, _, h => by cases n <;> simp [D.pl] at h
  | n, m, .wtup _, _, h => by cases n <;> simp [D.pl] at h
  | n, m, .ref _, _, h => by cases n <;> simp [D.pl] at h
mutual
theorem eqv_refl : ∀ {n : Nat} {x : D}, D.pl n x = true → D.eqv x x = true
  | _, .non, _ => rfl
  | _, .bl b, _ => by simp [D.eqv]
  | _, .int i, _ => by simp [D.eqv]
  | _, .str x, _ => by simp [D.eqv]
  | 0, .tup xs, h => by simp [D.pl] at h
  | n + 1, .tup xs, h => by
    simp only [D.pl, Bool.and_eq_true] at h
    simp only [D.eqv]
    exact eqvs_refl h.2
  | n, .rol _, h => by cases n <;> simp [D.pl] at h
  | n, .wtup _, h => by cases n <;> simp [D.pl] at h
  | n, .ref _, h => by cases n <;> simp [D.pl] at h
theorem eqvs_refl : ∀ {n : Nat} {xs : List D}, D.pls n xs = true → D.eqvs xs xs = true
  | _, [], _ => rfl
  | n, x :: xs, h => by
    simp only [D.pls, Bool.and_eq_true] at h
    simp only [D.eqvs, Bool.and_eq_true]
    exact ⟨eqv_refl h.1, eqvs_refl h.2⟩
end
theorem unl_pl {n : Nat} {x : D} (h : AH) (p : D.pl n x = true) : unl h x = x := by
  cases x <;> first | rfl | (cases n <;> simp [D.pl] at p)
theorem eqW_pl {n m : Nat} {x y : D} (h : AH) (K : Bool → Prop) (hn : n ≤ 60) (hm : m ≤ 60) (p : D.pl n x = true) (q : D.pl m y = true) : eqW h x y K = K (D.eqv x y) := by
  unfold eqW
  rw [unl_pl h p, unl_pl h q]
  exact propext ⟨fun z => z.2.2, fun z => ⟨pl_ok hn p, pl_ok hm q, z⟩⟩
theorem ok_int (n : Nat) (a : Int) : D.ok n (.int a) = true := by cases n <;> rfl
@[simp] theorem eqW_int (h : AH) (a b : Int) (K : Bool → Prop) : eqW h (.int a) (.int b) K = K (decide (a = b)) := by
  have e : D.eqv (.int a) (.int b) = decide (a = b) := by simp [D.eqv]; rfl
  unfold eqW
  exact propext ⟨fun z => by rw [← e]; exact z.2.2, fun z => ⟨ok_int 60 a, ok_int 60 b, by show K (D.eqv (.int a) (.int b)); rw [e]; exact z⟩⟩
@[simp] theorem eqW_str (h : AH) (a b : List Nat) (K : Bool → Prop) : eqW h (.str a) (.str b) K = (strOkL a = true ∧ strOkL b = true ∧ K (decide (a = b))) := rfl
theorem lstOf_ref (h : AH) (n : Nat) : lstOf h (.ref n) = getL h n := by unfold lstOf getL; rfl
@[simp] theorem all_ref (h : AH) (n : Nat) (Q : QD) : bfW h .all [.ref n] Q = ∃ bs : List Bool, getL h n = some (bs.map D.bl) ∧ Q (.bl (bs.all id)) h := by
  rw [← lstOf_ref]; rfl
@[simp] theorem any_ref (h : AH) (n : Nat) (Q : QD) : bfW h .any [.ref n] Q = ∃ bs : List Bool, getL h n = some (bs.map D.bl) ∧ Q (.bl (bs.any id)) h := by
  rw [← lstOf_ref]; rfl
@[simp] theorem seqW_tup (h : AH) (xs : List D) (K : It → Prop) : seqW h (.tup xs) K = K ⟨xs, fun _ => True⟩ := rfl
@[simp] theorem seqW_rol (h : AH) (xs : List D) (K : It → Prop) : seqW h (.rol xs) K = K ⟨xs, fun _ => True⟩ := rfl
@[simp] theorem seqW_ref (h : AH) (n : Nat) (K : It → Prop) : seqW h (.ref n) K = optK (getL h n) fun xs => K ⟨xs, fun h' => getL h' n = some xs⟩ := itW_ref h n K
def bSame (sm : Nat) : MS := (.seq (.cond (.or (.tv (.isi .tuple (.var 0))) (.tv (.isi .tuple (.var 1)))) (.seq (.cond (.or (.not (.tv (.isi .tuple (.var 0)))) (.or (.not (.tv (.isi .tuple (.var 1)))) (.cmp .ne (.bf .len (.cons (.var 0) .nil)) (.bf .len (.cons (.var 1) .nil))))) (.seq (.ret (.k (.bl false)))
    .nil) .nil)
    (.seq (.ret (.bf .all (.cons (.lc (.call sm (.cons (.var 2) (.cons (.var 3) .nil))) (.many [2, 3]) (.zip (.var 0) (.var 1)) .nil [2, 3]) .nil)))
    .nil)) .nil)
    (.seq (.cond (.or (.tv (.isi .bool (.var 0))) (.tv (.isi .bool (.var 1)))) (.seq (.ret (.and (.isi .bool (.var 0)) (.and (.isi .bool (.var 1)) (.cmp .eq (.var 0) (.var 1)))))
    .nil) .nil)
    (.seq (.ret (.cmp .eq (.var 0) (.var 1)))
    .nil)))
@[simp] theorem isTy_tt (xs : List D) : D.isTy .tuple (.tup xs) = some true := rfl
@[simp] theorem isTy_tn : D.isTy .tuple .non = some false := rfl
@[simp] theorem isTy_tb (b : Bool) : D.isTy .tuple (.bl b) = some false := rfl
@[simp] theorem isTy_ti (b : Int) : D.isTy .tuple (.int b) = some false := rfl
@[simp] theorem isTy_ts (b : List Nat) : D.isTy .tuple (.str b) = some false := rfl
@[simp] theorem isTy_bt (xs : List D) : D.isTy .bool (.tup xs) = some false := rfl
@[simp] theorem isTy_bn : D.isTy .bool .non = some false := rfl
@[simp] theorem isTy_bb (b : Bool) : D.isTy .bool (.bl b) = some true := rfl
@[simp] theorem isTy_bi (b : Int) : D.isTy .bool (.int b) = some false := rfl
@[simp] theorem isTy_bs (b : List Nat) : D.isTy .bool (.str b) = some false := rfl
@[simp] theorem isTy_it (xs : List D) : D.isTy .int (.tup xs) = some false := rfl
@[simp] theorem isTy_in : D.isTy .int .non = some false := rfl
@[simp] theorem isTy_ib (b : Bool) : D.isTy .int (.bl b) = some true := rfl
@[simp] theorem isTy_ii (b : Int) : D.isTy .int (.int b) = some true := rfl
@[simp] theorem isTy_is (b : List Nat) : D.isTy .int (.str b) = some false := rfl
@[simp] theorem isTy_st (xs : List D) : D.isTy .str (.tup xs) = some false := rfl
@[simp] theorem isTy_sn : D.isTy .str .non = some false := rfl
@[simp] theorem isTy_sb (b : Bool) : D.isTy .str (.bl b) = some false := rfl
@[simp] theorem isTy_si (b : Int) : D.isTy .str (.int b) = some false := rfl
@[simp] theorem isTy_ss (b : List Nat) : D.isTy .str (.str b) = some true := rfl
theorem eqW_non (h : AH) (K : Bool → Prop) : eqW h .non .non K = K true := propext ⟨fun z => z.2.2, fun z => ⟨rfl, rfl, z⟩⟩
theorem eqW_bl (h : AH) (b : Bool) (K : Bool → Prop) : eqW h (.bl b) (.bl b) K = K true := by
  have e : D.eqv (.bl b) (.bl b) = true := by simp [D.eqv]
  exact propext ⟨fun z => by rw [← e]; exact z.2.2, fun z => ⟨rfl, rfl, by show K (D.eqv (.bl b) (.bl b)); rw [e]; exact z⟩⟩
theorem zipL_cons (x y : D) (xs ys : List D) : zipL (x :: xs) (y :: ys) = .wtup [x, y] :: zipL xs ys := rfl
theorem same_ok {P : Prg} {sm : Nat} (hf : P[sm]? = some ⟨2, 4, bSame sm⟩) : ∀ (n : Nat) {x : D} {h : AH} {Q : QD} {E : EC}, D.pl n x = true → (∀ h', Keep [] h h' → Q (.bl true) h') → wC P (n + 1) sm [x, x] h Q E
  | n, .non, h, Q, E, p, k => by
    refine call_ok hf rfl ?_
    simp [startA, bSame, eqW_non]
    exact k _ .refl
  | n, .bl b, h, Q, E, p, k => by
    refine call_ok hf rfl ?_
    simp [startA, bSame, eqW_bl]
    exact k _ .refl
  | n, .int b, h, Q, E, p, k => by
    refine call_ok hf rfl ?_
    simp [startA, bSame]
    exact k _ .refl
  | n, .str b, h, Q, E, p, k => by
    refine call_ok hf rfl ?_
    have : strOkL b = true := by cases n <;> exact p
    simp [startA, bSame, this]
    exact k _ .refl
  | 0, .tup xs, h, Q, E, p, k => by simp [D.pl] at p
  | n + 1, .tup xs, h, Q, E, p, k => by
    simp only [D.pl, Bool.and_eq_true, decide_eq_true_eq] at p
    obtain ⟨hz, p⟩ := p
    rw [pls_mem] at p
    refine call_ok hf rfl ?_
    simp [startA, bSame]
    refine lcW_ind (fun ys acc s h2 => ∃ (l : List D) (b : Nat), ys = zipL l l ∧ (∀ x ∈ l, D.pl n x = true) ∧ acc = (List.replicate b true).map D.bl ∧ b + l.length = xs.length ∧ s = [some (.tup xs), some (.tup xs), none, none] ∧ Keep [] h h2)
      (fun acc s h2 ⟨l, b, e1, e2, e3, e4, e5, e6⟩ => ⟨trivial, ?_⟩) (fun y ys acc s h2 K ⟨l, b, e1, e2, e3, e4, e5, e6⟩ hK => ⟨trivial, ?_⟩) _ _ _ _ ⟨xs, 0, rfl, p, rfl, by simp, rfl, .refl⟩
    · subst e3 e5
      simp
      refine ⟨List.replicate b true, by simp, ?_⟩
      have e : (List.replicate b true).all id = true := by rw [List.all_eq_true]; intro x hx; exact (List.mem_replicate.mp hx).2
      rw [e]
      exact k _ (e6.trans .app)
    · subst e5
      cases l with
      | nil => simp [zipL] at e1
      | cons x l =>
        rw [zipL_cons] at e1
        cases e1
        simp
        refine same_ok hf n (e2 x List.mem_cons_self) fun h3 kp => ?_
        refine ⟨?_, hK _ _ ⟨l, b + 1, rfl, fun z hz => e2 z (List.mem_cons_of_mem _ hz), ?_, ?_, rfl, e6.trans kp⟩⟩
        · rw [e3]; simp at e4 ⊢; show _ < 16777216; omega
        · rw [e3, List.replicate_succ']; simp
        · simp at e4 ⊢; omega
  | n, .rol _, _, _, _, h, _ => by cases n <;> simp [D.pl] at h
  | n, .wtup _, _, _, _, h, _ => by cases n <;> simp [D.pl] at h
  | n, .ref _, _, _, _, h, _ => by cases n <;> simp [D.pl] at h
end Rf

namespace Rf
/-! ### while; statements one by one -/
theorem seq_step {C : CT} {a r : MS} {s : Sa} {h : AH} {Z : En} {E : EK} (H : ∀ K : Sa → AH → Prop, (∀ s' h', K s' h' = wS C r s' h' Z E) → wS C a s h { nx := K, rt := Z.rt, bk := Z.bk, ct := Z.ct } E) : wS C (.seq a r) s h Z E := by
  rw [wS_seq]
  exact H _ fun _ _ => rfl
theorem whileW_ind {c : Sa → AH → (Bool → AH → Prop) → EK → Prop} {body : Sa → AH → En → EK → Prop} {Z : En} {E : EK} (I : Nat → Sa → AH → Prop)
    (step : ∀ n s h (K : Sa → AH → Prop), I n s h → (∀ m s' h', m < n → I m s' h' → K s' h') → c s h (fun b h1 => if b = true then body s h1 { nx := K, rt := Z.rt, bk := Z.nx, ct := K } E else Z.nx s h1) E) :
    ∀ (N : Nat) (s : Sa) (h : AH), (∃ n, n < N ∧ I n s h) → whileW c body N s h Z E
  | 0, s, h, ⟨n, hn, _⟩ => absurd hn (Nat.not_lt_zero _)
  | N + 1, s, h, ⟨n, hn, i⟩ => step n s h (fun s' h' => whileW c body N s' h' Z E) i fun m s' h' hm i' => whileW_ind I step N s' h' ⟨m, by omega, i'⟩
theorem while_ok {C : CT} {c : M} {b : MS} {s : Sa} {h : AH} {Z : En} {E : EK} (I : Nat → Sa → AH → Prop)
    (step : ∀ n s h (K : Sa → AH → Prop), I n s h → (∀ m s' h', m < n → I m s' h' → K s' h') → wT C c s h (fun t h1 => if t = true then wS C b s h1 { nx := K, rt := Z.rt, bk := Z.nx, ct := K } E else Z.nx s h1) E)
    {n : Nat} (i : I n s h) : wS C (.while_ c b) s h Z E := by
  rw [wS_while_]
  exact ⟨n + 1, whileW_ind I step _ _ _ ⟨n, Nat.lt_succ_self _, i⟩⟩
@[simp] theorem slst_ref (h : AH) (n : Nat) (k : Int) (Q : QD) : slstW h (.ref n) k Q = ((k = 1 ∨ k = -1) ∧ optK (getL h n) fun xs => Q (.ref h.length) (h ++ [.lst (stepL xs k)])) := by
  rw [← ex_lst]; rfl
@[simp] theorem slst_tup (h : AH) (xs : List D) (k : Int) (Q : QD) : slstW h (.tup xs) k Q = ((k = 1 ∨ k = -1) ∧ Q (.tup (stepL xs k)) h) := rfl
@[simp] theorem slst_rol (h : AH) (xs : List D) (k : Int) (Q : QD) : slstW h (.rol xs) k Q = ((k = 1 ∨ k = -1) ∧ Q (.ref h.length) (h ++ [.lst (stepL xs k)])) := rfl
theorem bmw_remove (h : AH) (n : Nat) (w : List Nat) (Q : QD) : bmW h .remove (.ref n) [.str w] Q = ∃ (xs : List (List Nat)) (j : Nat), getL h n = some (xs.map .str) ∧ xs.findIdx? (fun z => decide (z = w)) = some j ∧ Q .non (h.set n (.lst ((xs.eraseIdx j).map .str))) := by
  apply propext
  constructor
  · rintro ⟨xs, j, e, e2, q⟩
    exact ⟨xs, j, getL_iff.mpr e, e2, q⟩
  · rintro ⟨xs, j, e, e2, q⟩
    exact ⟨xs, j, getL_iff.mp e, e2, q⟩
@[simp] theorem tru_ref (h : AH) (n : Nat) (K : Bool → Prop) : truW h (.ref n) K = optK (getL h n) fun xs => K (!xs.isEmpty) := by
  rw [← ex_lst]
  unfold truW
  simp only
  split
  · rename_i xs e
    rw [e]
    simp
  · rename_i e
    apply propext
    constructor
    · exact False.elim
    · rintro ⟨xs, e2, _⟩
      exact e xs e2
theorem forW_cons (ck : AH → Prop) (tg : Tg) (body : Sa → AH → En → EK → Prop) (x : D) (xs : List D) (s : Sa) (h : AH) (Z : En) (E : EK) :
    forW ck tg body (x :: xs) s h Z E = (ck h ∧ tgW tg x s fun s1 => body s1 h { nx := fun s' h' => forW ck tg body xs s' h' Z E, rt := Z.rt, bk := Z.nx, ct := fun s' h' => forW ck tg body xs s' h' Z E } E) := rfl
theorem forW_nil (ck : AH → Prop) (tg : Tg) (body : Sa → AH → En → EK → Prop) (s : Sa) (h : AH) (Z : En) (E : EK) : forW ck tg body [] s h Z E = (ck h ∧ Z.nx s h) := rfl
theorem lcW_cons (ck : AH → Prop) (tg : Tg) (c : Sa → AH → (Bool → AH → Prop) → Prop) (e : Sa → AH → QD → Prop) (x : D) (xs acc : List D) (s : Sa) (h : AH) (Q : QL) :
    lcW ck tg c e (x :: xs) acc s h Q = (ck h ∧ tgW tg x s fun s1 => c s1 h fun b h1 => if b = true then e s1 h1 fun d h2 => acc.length < SZ ∧ lcW ck tg c e xs (acc ++ [d]) s h2 Q else lcW ck tg c e xs acc s h1 Q) := rfl
theorem lcW_nil (ck : AH → Prop) (tg : Tg) (c : Sa → AH → (Bool → AH → Prop) → Prop) (e : Sa → AH → QD → Prop) (acc : List D) (s : Sa) (h : AH) (Q : QL) : lcW ck tg c e [] acc s h Q = (ck h ∧ Q acc h) := rfl
theorem cut_drop {α : Type} (xs : List α) (k : Nat) : cut xs (some (k : Int)) none = xs.drop k := by
  unfold cut
  rw [HT.sIx_nat, HT.sIx_none]
  by_cases h : k ≤ xs.length
  · rw [Nat.min_eq_left h, List.take_of_length_le (by simp)]
  · rw [Nat.min_eq_right (by omega), Nat.sub_self, List.take_zero, List.drop_eq_nil_of_le (by omega)]
theorem getL_new2 (h : AH) (a : O) (ys : List D) : getL (h ++ [a, .lst ys]) (h.length + 1) = some ys := getL_iff.mpr (by simp)
theorem getL_new1 (h : AH) (b : O) (ys : List D) : getL (h ++ [.lst ys, b]) h.length = some ys := getL_iff.mpr (by simp)
theorem getL_new2' (h : AH) (a : O) (ys : List D) : getL (h ++ [a, .lst ys]) (h.length + 1) = some ys := getL_new2 h a ys
theorem inW_tup (h : AH) (x : D) (ys : List D) (K : Bool → Prop) : inW h x (.tup ys) K = (D.ok 60 x = true ∧ D.oks 59 ys = true ∧ K (D.mem x ys)) := by
  have e : inW h x (.tup ys) K = ∃ zs, itemsOf h (.tup ys) = some zs ∧ D.ok 60 x = true ∧ D.oks 59 zs = true ∧ K (D.mem x zs) := by
    cases x with
    | str x => rcases x with _ | ⟨c, _ | ⟨d, r⟩⟩ <;> rfl
    | _ => rfl
  rw [e]
  apply propext
  constructor
  · rintro ⟨zs, e1, q⟩
    cases e1
    exact q
  · exact fun q => ⟨ys, rfl, q⟩
@[simp] theorem eqW_bl2 (h : AH) (a b : Bool) (K : Bool → Prop) : eqW h (.bl a) (.bl b) K = K (a == b) := propext ⟨fun z => z.2.2, fun z => ⟨rfl, rfl, z⟩⟩
@[simp] theorem max2_int (h : AH) (i j : Int) (Q : QD) : bfW h .max2 [.int i, .int j] Q = Q (.int (if j > i then j else i)) h := rfl
@[simp] theorem min2_int (h : AH) (i j : Int) (Q : QD) : bfW h .min2 [.int i, .int j] Q = Q (.int (if j < i then j else i)) h := rfl
@[simp] theorem tuple_ref (h : AH) (n : Nat) (Q : QD) : bfW h .tuple [.ref n] Q = optK (getL h n) fun xs => Q (.tup xs) h := by
  rw [← itemsOf_ref]; rfl
@[simp] theorem tuple_tup (h : AH) (xs : List D) (Q : QD) : bfW h .tuple [.tup xs] Q = Q (.tup xs) h := propext ⟨fun ⟨_, e, q⟩ => by cases e; exact q, fun q => ⟨_, rfl, q⟩⟩
@[simp] theorem list_ref (h : AH) (n : Nat) (Q : QD) : bfW h .list [.ref n] Q = optK (getL h n) fun xs => Q (.ref h.length) (h ++ [.lst xs]) := by
  rw [← itemsOf_ref]; rfl
@[simp] theorem list_tup (h : AH) (xs : List D) (Q : QD) : bfW h .list [.tup xs] Q = Q (.ref h.length) (h ++ [.lst xs]) := propext ⟨fun ⟨_, e, q⟩ => by cases e; exact q, fun q => ⟨_, rfl, q⟩⟩
@[simp] theorem bf_int_bl (h : AH) (b : Bool) (Q : QD) : bfW h .int [.bl b] Q = Q (.int (if b then 1 else 0)) h := rfl
@[simp] theorem bf_int_int (h : AH) (b : Int) (Q : QD) : bfW h .int [.int b] Q = Q (.int b) h := rfl
theorem mem_int (t : Int) (ns : List Int) : D.mem (.int t) (ns.map .int) = decide (t ∈ ns) := by
  unfold D.mem
  induction ns with
  | nil => rfl
  | cons u us ih =>
    rw [List.map_cons, List.any_cons, ih]
    by_cases h : u = t
    · subst h; simp [D.eqv]
    · simp [D.eqv, h, Ne.symm h]
theorem oks_int (n : Nat) (ns : List Int) : D.oks n (ns.map .int) = true := by
  rw [oks_mem]
  intro x hx
  obtain ⟨j, _, rfl⟩ := List.mem_map.mp hx
  exact ok_int n j
theorem bmT_ix (h : AH) (n : Nat) : bmT h .index (.ref n) = ((getL h n).isSome = true) := by
  apply propext
  rw [Option.isSome_iff_exists]
  exact ⟨fun ⟨xs, e⟩ => ⟨xs, by rw [← itemsOf_ref]; exact e⟩, fun ⟨xs, e⟩ => ⟨xs, by rw [itemsOf_ref]; exact e⟩⟩
theorem bmw_ix (h : AH) (n : Nat) (y : D) (Q : QD) : bmW h .index (.ref n) [y] Q = optK (getL h n) fun xs => D.ok 59 y = true ∧ D.oks 59 xs = true ∧ optK (xs.findIdx? fun z => D.eqv z y) fun j => Q (.int j) h := by
  rw [← itemsOf_ref]
  apply propext
  constructor
  · rintro ⟨xs, e, a, b, j, c, d⟩
    exact ⟨xs, e, a, b, j, c, d⟩
  · rintro ⟨xs, e, a, b, j, c, d⟩
    exact ⟨xs, e, a, b, j, c, d⟩
theorem menu1_ok : ∀ w ∈ menu1, Word w := by
  unfold menu1 Word
  decide
end Rf

namespace Lw
open PySem PySem.Spec PyProof.Rows L2 Rf
/-! ### the text of the law, its tables -/
def b_is_shape : MS := (.seq (.cond (.or (.not (.tv (.isi .int (.var 1)))) (.tv (.isi .bool (.var 1)))) (.seq (.ret (.k (.bl false)))
    .nil) .nil)
    (.seq (.ret (.ch .le .lt (.k (.int 0)) (.var 1) (.bf .len (.cons (.var 0) .nil))))
    .nil))
def r_is_shape : Rw := ⟨"is_shape", ["shapes", "number"], ["shapes", "number"], ⟨2, 2, b_is_shape⟩⟩
def b_fields_at : MS := (.seq (.cond (.not (.tv (.call 0 (.cons (.var 0) (.cons (.var 1) .nil))))) (.seq .never
    .nil) .nil)
    (.seq (.set 2 (.lst .nil))
    (.seq (.while_ (.cmp .gt (.var 1) (.k (.int 0))) (.seq (.expr (.bm .append (.var 2) (.cons (.idx (.var 0) (.var 1)) .nil)))
    (.seq (.set 1 (.idx (.idx (.var 0) (.var 1)) (.k (.int 0))))
    .nil)))
    (.seq (.set 3 (.lst .nil))
    (.seq (.for_ (.one 4) (.itv (.slst (.var 2) (.neg (.k (.int 1))))) (.seq (.cond (.cmp .eq (.idx (.var 4) (.k (.int 1))) (.k (.str [112, 117, 116]))) (.seq (.expr (.bm .append (.var 3) (.cons (.idx (.var 4) (.k (.int 2))) .nil)))
    .nil) (.seq (.expr (.bm .remove (.var 3) (.cons (.idx (.var 4) (.k (.int 2))) .nil)))
    .nil))
    .nil))
    (.seq (.ret (.bf .tuple (.cons (.var 3) .nil)))
    .nil))))))
def r_fields_at : Rw := ⟨"fields_at", ["shapes", "number"], ["shapes", "number", "story", "fields", "shape"], ⟨2, 5, b_fields_at⟩⟩
def b_child_of : MS := (.seq (.for_ (.many [4, 5]) (.enum (.var 0)) (.seq (.cond (.cmp .eq (.var 5) (.tup (.cons (.var 1) (.cons (.var 2) (.cons (.var 3) .nil))))) (.seq (.ret (.var 4))
    .nil) .nil)
    .nil))
    (.seq (.ret (.k .non))
    .nil))
def r_child_of : Rw := ⟨"child_of", ["shapes", "number", "deed", "field"], ["shapes", "number", "deed", "field", "at", "shape"], ⟨4, 6, b_child_of⟩⟩
def b_shape_by : MS := (.seq (.set 4 (.cmp .isin (.var 3) (.call 1 (.cons (.var 0) (.cons (.var 1) .nil)))))
    (.seq (.cond (.cmp .ne (.var 4) (.cmp .eq (.var 2) (.k (.str [100, 114, 111, 112])))) (.seq .never
    .nil) .nil)
    (.seq (.set 5 (.call 2 (.cons (.var 0) (.cons (.var 1) (.cons (.var 2) (.cons (.var 3) .nil))))))
    (.seq (.cond (.cmp .notN (.var 5) (.k .non)) (.seq (.ret (.tup (.cons (.var 0) (.cons (.var 5) .nil))))
    .nil) .nil)
    (.seq (.ret (.tup (.cons (.bin .add (.var 0) (.tup (.cons (.tup (.cons (.var 1) (.cons (.var 2) (.cons (.var 3) .nil)))) .nil))) (.cons (.bf .len (.cons (.var 0) .nil)) .nil))))
    .nil)))))
def r_shape_by : Rw := ⟨"shape_by", ["shapes", "number", "deed", "field"], ["shapes", "number", "deed", "field", "has_it", "child"], ⟨4, 6, b_shape_by⟩⟩
def b__law_cell : MS := (.seq (.cond (.cmp .lt (.var 1) (.bf .len (.cons (.var 0) .nil))) (.seq (.ret (.idx (.var 0) (.var 1)))
    .nil) .nil)
    (.seq (.set 2 (.bin .mul (.bin .mul (.k (.int 39373)) (.bin .add (.var 1) (.k (.int 5)))) (.bin .add (.var 1) (.k (.int 5)))))
    (.seq (.for_ (.one 3) (.itv (.slc (.var 0) .nil (.cons (.k (.int 4)) .nil))) (.seq (.set 2 (.bin .mod (.bin .add (.bin .mul (.var 2) (.k (.int 16843))) (.var 3)) (.k (.int 2147483587))))
    .nil))
    (.seq (.ret (.var 2))
    .nil))))
def r__law_cell : Rw := ⟨"_law_cell", ["_law_script", "_law_k"], ["_law_script", "_law_k", "_law_state", "_law_cell_here"], ⟨2, 4, b__law_cell⟩⟩
def b__law_purse : MS := (.seq (.set 1 (.k (.int 0)))
    (.seq (.cond (.or (.cmp .lt (.var 0) (.k (.int 0))) (.cmp .ge (.var 0) (.bin .pow (.k (.int 10)) (.k (.int 18))))) (.seq (.set 1 (.bf .abs (.cons (.var 0) .nil)))
    .nil) .nil)
    (.seq (.ret (.lst (.cons (.bin .mod (.var 0) (.k (.int 2147483587))) (.cons (.var 1) (.cons (.k (.int 0)) .nil)))))
    .nil)))
def r__law_purse : Rw := ⟨"_law_purse", ["_law_cell_here"], ["_law_cell_here", "_law_digits"], ⟨1, 2, b__law_purse⟩⟩
def b__law_take : MS := (.seq (.setI (.var 0) (.k (.int 2)) (.bin .add (.idx (.var 0) (.k (.int 2))) (.k (.int 1))))
    (.seq (.set 2 (.idx (.var 0) (.k (.int 0))))
    (.seq (.setI (.var 0) (.k (.int 0)) (.bin .mod (.bin .add (.bin .mul (.var 2) (.bin .add (.bin .mod (.var 2) (.k (.int 46337))) (.k (.int 30011)))) (.bin .mul (.k (.int 104729)) (.idx (.var 0) (.k (.int 2))))) (.k (.int 2147483587))))
    (.seq (.cond (.cmp .gt (.idx (.var 0) (.k (.int 1))) (.k (.int 0))) (.seq (.set 3 (.bin .mod (.idx (.var 0) (.k (.int 1))) (.var 1)))
    (.seq (.setI (.var 0) (.k (.int 1)) (.bin .fdiv (.idx (.var 0) (.k (.int 1))) (.var 1)))
    (.seq (.ret (.var 3))
    .nil))) .nil)
    (.seq (.ret (.bin .mod (.bin .fdiv (.idx (.var 0) (.k (.int 0))) (.k (.int 32))) (.var 1)))
    .nil)))))
def r__law_take : Rw := ⟨"_law_take", ["_law_purse_here", "_law_many"], ["_law_purse_here", "_law_many", "_law_state", "_law_taken"], ⟨2, 4, b__law_take⟩⟩
def b__law_word : MS := (.seq (.set 2 (.lst (.cons (.k (.str [109, 97, 114, 107])) (.cons (.k (.str [103, 111])) (.cons (.k (.str [107, 101, 101, 112])) (.cons (.k (.str [116, 101, 108, 108])) (.cons (.k (.str [114, 111, 117, 110, 100])) (.cons (.k (.str [112, 117, 116])) (.cons (.k (.str [100, 114, 111, 112])) (.cons (.k (.str [110, 111, 110, 101])) (.cons (.k (.str [109, 101])) (.cons (.k (.str [97, 115, 107])) (.cons (.k (.str [116, 104, 105, 110, 103])) (.cons (.k (.str [101, 110, 100])) .nil))))))))))))))
    (.seq (.set 3 (.idx (.var 2) (.call 6 (.cons (.var 0) (.cons (.k (.int 12)) .nil)))))
    (.seq (.cond (.cmp .gt (.call 6 (.cons (.var 0) (.cons (.k (.int 5)) .nil))) (.k (.int 0))) (.seq (.set 3 (.k (.str [])))
    (.seq (.for_ (.one 5) (.rng1 (.bin .add (.k (.int 1)) (.call 6 (.cons (.var 0) (.cons (.k (.int 6)) .nil))))) (.seq (.set 3 (.bin .add (.var 3) (.idx (.k (.str [97, 98, 99, 100, 101, 102, 103, 104, 105, 106, 107, 108, 109, 110, 111, 112, 113, 114, 115, 116, 117, 118, 119, 120, 121, 122])) (.call 6 (.cons (.var 0) (.cons (.k (.int 26)) .nil))))))
    .nil))
    .nil)) .nil)
    (.seq (.cond (.cmp .notin (.var 3) (.var 1)) (.seq (.ret (.var 3))
    .nil) .nil)
    (.seq (.set 4 (.lc (.var 6) (.one 6) (.itv (.k (.str [97, 98, 99, 100, 101, 102, 103, 104, 105, 106, 107, 108, 109, 110, 111, 112, 113, 114, 115, 116, 117, 118, 119, 120, 121, 122]))) (.cmp .notin (.bin .add (.var 6) (.slc (.var 3) .nil (.cons (.k (.int 5)) .nil))) (.var 1)) [6]))
    (.seq (.ret (.bin .add (.idx (.var 4) (.k (.int 0))) (.slc (.var 3) .nil (.cons (.k (.int 5)) .nil))))
    .nil))))))
def r__law_word : Rw := ⟨"_law_word", ["_law_purse_here", "_law_used"], ["_law_purse_here", "_law_used", "_law_menu", "_law_word_here", "_law_first", "_law_k", "_law_a"], ⟨2, 7, b__law_word⟩⟩
def b__law_words : MS := (.seq (.set 3 (.lst .nil))
    (.seq (.for_ (.one 4) (.rng1 (.var 1)) (.seq (.expr (.bm .append (.var 3) (.cons (.call 7 (.cons (.var 0) (.cons (.bin .add (.var 2) (.var 3)) .nil))) .nil)))
    .nil))
    (.seq (.ret (.var 3))
    .nil)))
def r__law_words : Rw := ⟨"_law_words", ["_law_purse_here", "_law_many", "_law_used"], ["_law_purse_here", "_law_many", "_law_used", "_law_words_here", "_law_k"], ⟨3, 5, b__law_words⟩⟩
def b__law_same : MS := (.seq (.cond (.or (.tv (.isi .tuple (.var 0))) (.tv (.isi .tuple (.var 1)))) (.seq (.cond (.or (.not (.tv (.isi .tuple (.var 0)))) (.or (.not (.tv (.isi .tuple (.var 1)))) (.cmp .ne (.bf .len (.cons (.var 0) .nil)) (.bf .len (.cons (.var 1) .nil))))) (.seq (.ret (.k (.bl false)))
    .nil) .nil)
    (.seq (.ret (.bf .all (.cons (.lc (.call 9 (.cons (.var 2) (.cons (.var 3) .nil))) (.many [2, 3]) (.zip (.var 0) (.var 1)) .nil [2, 3]) .nil)))
    .nil)) .nil)
    (.seq (.cond (.or (.tv (.isi .bool (.var 0))) (.tv (.isi .bool (.var 1)))) (.seq (.ret (.and (.isi .bool (.var 0)) (.and (.isi .bool (.var 1)) (.cmp .eq (.var 0) (.var 1)))))
    .nil) .nil)
    (.seq (.ret (.cmp .eq (.var 0) (.var 1)))
    .nil)))
def r__law_same : Rw := ⟨"_law_same", ["_law_one", "_law_other"], ["_law_one", "_law_other", "_law_a", "_law_b"], ⟨2, 4, b__law_same⟩⟩
def b__law_behind : MS := (.seq (.cond (.cmp .eq (.var 1) (.k (.str [112, 117, 116]))) (.seq (.ret (.bin .add (.var 0) (.lst (.cons (.var 2) .nil))))
    .nil) .nil)
    (.seq (.ret (.lc (.var 3) (.one 3) (.itv (.var 0)) (.cmp .ne (.var 3) (.var 2)) [3]))
    .nil))
def r__law_behind : Rw := ⟨"_law_behind", ["_law_fields_here", "_law_deed", "_law_field"], ["_law_fields_here", "_law_deed", "_law_field", "_law_one"], ⟨3, 4, b__law_behind⟩⟩
def b__law_told : MS := (.seq (.ret (.call 9 (.cons (.var 2) (.cons (.tup (.cons (.bf .tuple (.cons (.var 0) .nil)) (.cons (.var 1) .nil))) .nil))))
    .nil)
def r__law_told : Rw := ⟨"_law_told", ["_law_model", "_law_number", "_law_told_here"], ["_law_model", "_law_number", "_law_told_here"], ⟨3, 3, b__law_told⟩⟩
def b__law_fields : MS := (.seq (.ret (.call 9 (.cons (.call 1 (.cons (.bf .tuple (.cons (.var 0) .nil)) (.cons (.var 2) .nil))) (.cons (.bf .tuple (.cons (.var 1) .nil)) .nil))))
    .nil)
def r__law_fields : Rw := ⟨"_law_fields", ["_law_model", "_law_fields_here", "_law_number"], ["_law_model", "_law_fields_here", "_law_number"], ⟨3, 3, b__law_fields⟩⟩
def b__law_again : MS := (.seq (.setT [2, 3, 4] (.idx (.var 0) (.var 1)))
    (.seq (.ret (.call 11 (.cons (.var 0) (.cons (.var 1) (.cons (.call 3 (.cons (.bf .tuple (.cons (.var 0) .nil)) (.cons (.var 2) (.cons (.var 3) (.cons (.var 4) .nil))))) .nil)))))
    .nil))
def r__law_again : Rw := ⟨"_law_again", ["_law_model", "_law_number"], ["_law_model", "_law_number", "_law_number_from", "_law_deed", "_law_field"], ⟨2, 5, b__law_again⟩⟩
def b__law_chain : MS := (.seq (.set 2 (.bin .add (.k (.int 100)) (.call 6 (.cons (.var 0) (.cons (.k (.int 201)) .nil)))))
    (.seq (.set 3 (.call 6 (.cons (.var 0) (.cons (.var 2) .nil))))
    (.seq (.setT [8, 9, 10] (.tup (.cons (.lst (.cons (.tup .nil) .nil)) (.cons (.lst .nil) (.cons (.lst .nil) .nil)))))
    (.seq (.for_ (.one 4) (.rng1 (.var 2)) (.seq (.cond (.cmp .eq (.var 4) (.var 3)) (.seq (.set 10 (.var 9))
    .nil) .nil)
    (.seq (.set 5 (.idx (.var 1) (.call 6 (.cons (.var 0) (.cons (.bf .len (.cons (.var 1) .nil)) .nil)))))
    (.seq (.set 6 (.idx (.lst (.cons (.k (.str [112, 117, 116])) (.cons (.k (.str [100, 114, 111, 112])) .nil))) (.bf .int (.cons (.cmp .isin (.var 5) (.var 9)) .nil))))
    (.seq (.expr (.bm .append (.var 8) (.cons (.tup (.cons (.var 4) (.cons (.var 6) (.cons (.var 5) .nil)))) .nil)))
    (.seq (.set 9 (.call 10 (.cons (.var 9) (.cons (.var 6) (.cons (.var 5) .nil)))))
    .nil))))))
    (.seq (.set 5 (.idx (.var 1) (.call 6 (.cons (.var 0) (.cons (.bf .len (.cons (.var 1) .nil)) .nil)))))
    (.seq (.set 6 (.idx (.lst (.cons (.k (.str [112, 117, 116])) (.cons (.k (.str [100, 114, 111, 112])) .nil))) (.bf .int (.cons (.cmp .isin (.var 5) (.var 9)) .nil))))
    (.seq (.cond (.or (.not (.tv (.call 12 (.cons (.var 8) (.cons (.var 9) (.cons (.var 2) .nil)))))) (.not (.tv (.call 12 (.cons (.var 8) (.cons (.var 10) (.cons (.var 3) .nil))))))) (.seq (.ret (.k (.bl false)))
    .nil) .nil)
    (.seq (.cond (.not (.tv (.call 13 (.cons (.var 8) (.cons (.bin .add (.var 3) (.k (.int 1))) .nil))))) (.seq (.ret (.k (.bl false)))
    .nil) .nil)
    (.seq (.set 7 (.call 3 (.cons (.bf .tuple (.cons (.var 8) .nil)) (.cons (.var 2) (.cons (.var 6) (.cons (.var 5) .nil))))))
    (.seq (.expr (.bm .append (.var 8) (.cons (.tup (.cons (.var 2) (.cons (.var 6) (.cons (.var 5) .nil)))) .nil)))
    (.seq (.ret (.and (.call 11 (.cons (.var 8) (.cons (.bin .add (.var 2) (.k (.int 1))) (.cons (.var 7) .nil)))) (.call 12 (.cons (.var 8) (.cons (.call 10 (.cons (.var 9) (.cons (.var 6) (.cons (.var 5) .nil)))) (.cons (.bin .add (.var 2) (.k (.int 1))) .nil))))))
    .nil)))))))))))
def r__law_chain : Rw := ⟨"_law_chain", ["_law_purse_here", "_law_names"], ["_law_purse_here", "_law_names", "_law_many", "_law_half", "_law_k", "_law_field", "_law_deed", "_law_told_here", "_law_model", "_law_fields_here", "_law_middle"], ⟨2, 11, b__law_chain⟩⟩
def b__law_step : MS := (.seq (.set 4 (.call 5 (.cons (.var 0) .nil)))
    (.seq (.set 5 (.call 6 (.cons (.var 4) (.cons (.k (.int 4)) .nil))))
    (.seq (.set 6 (.idx (.lst (.cons (.bin .sub (.bf .len (.cons (.var 2) .nil)) (.k (.int 1))) (.cons (.k (.int 0)) (.cons (.call 6 (.cons (.var 4) (.cons (.bf .len (.cons (.var 2) .nil)) .nil))) (.cons (.call 6 (.cons (.var 4) (.cons (.bf .len (.cons (.var 2) .nil)) .nil))) .nil))))) (.var 5)))
    (.seq (.cond (.and (.cmp .gt (.bf .len (.cons (.var 1) .nil)) (.k (.int 6))) (.cmp .gt (.var 5) (.k (.int 0)))) (.seq (.set 6 (.bin .sub (.bf .len (.cons (.var 2) .nil)) (.k (.int 1))))
    .nil) .nil)
    (.seq (.set 7 (.idx (.var 1) (.call 6 (.cons (.var 4) (.cons (.bf .len (.cons (.var 1) .nil)) .nil)))))
    (.seq (.cond (.and (.cmp .gt (.bf .len (.cons (.var 1) .nil)) (.k (.int 6))) (.cmp .isin (.var 7) (.idx (.var 3) (.var 6)))) (.seq (.set 7 (.idx (.var 1) (.call 6 (.cons (.var 4) (.cons (.bf .len (.cons (.var 1) .nil)) .nil)))))
    .nil) .nil)
    (.seq (.set 8 (.idx (.lst (.cons (.k (.str [112, 117, 116])) (.cons (.k (.str [100, 114, 111, 112])) .nil))) (.bf .int (.cons (.cmp .isin (.var 7) (.idx (.var 3) (.var 6))) .nil))))
    (.seq (.set 9 (.call 3 (.cons (.bf .tuple (.cons (.var 2) .nil)) (.cons (.var 6) (.cons (.var 8) (.cons (.var 7) .nil))))))
    (.seq (.cond (.cmp .notin (.tup (.cons (.var 6) (.cons (.var 8) (.cons (.var 7) .nil)))) (.var 2)) (.seq (.expr (.bm .append (.var 2) (.cons (.tup (.cons (.var 6) (.cons (.var 8) (.cons (.var 7) .nil)))) .nil)))
    (.seq (.expr (.bm .append (.var 3) (.cons (.call 10 (.cons (.idx (.var 3) (.var 6)) (.cons (.var 8) (.cons (.var 7) .nil)))) .nil)))
    .nil)) .nil)
    (.seq (.set 10 (.bm .index (.var 2) (.cons (.tup (.cons (.var 6) (.cons (.var 8) (.cons (.var 7) .nil)))) .nil)))
    (.seq (.cond (.not (.tv (.call 11 (.cons (.var 2) (.cons (.var 10) (.cons (.var 9) .nil)))))) (.seq (.ret (.k (.bl false)))
    .nil) .nil)
    (.seq (.ret (.or (.cmp .gt (.call 6 (.cons (.var 4) (.cons (.k (.int 3)) .nil))) (.k (.int 0))) (.call 12 (.cons (.var 2) (.cons (.idx (.var 3) (.var 10)) (.cons (.var 10) .nil))))))
    .nil))))))))))))
def r__law_step : Rw := ⟨"_law_step", ["_law_cell_here", "_law_names", "_law_model", "_law_fields_here"], ["_law_cell_here", "_law_names", "_law_model", "_law_fields_here", "_law_purse_here", "_law_pick", "_law_number", "_law_field", "_law_deed", "_law_told_here", "_law_due"], ⟨4, 11, b__law_step⟩⟩
def b_law : MS := (.seq (.set 1 (.call 5 (.cons (.call 4 (.cons (.var 0) (.cons (.k (.int 0)) .nil))) .nil)))
    (.seq (.set 2 (.call 6 (.cons (.var 1) (.cons (.k (.int 8)) .nil))))
    (.seq (.set 3 (.bin .sub (.k (.int 1)) (.bin .mul (.k (.int 2)) (.call 6 (.cons (.var 1) (.cons (.k (.int 2)) .nil))))))
    (.seq (.set 4 (.call 6 (.cons (.var 1) (.cons (.k (.int 61)) .nil))))
    (.seq (.set 5 (.call 8 (.cons (.var 1) (.cons (.idx (.lst (.cons (.bin .add (.k (.int 1)) (.call 6 (.cons (.var 1) (.cons (.k (.int 6)) .nil)))) (.cons (.k (.int 21)) .nil))) (.bf .int (.cons (.cmp .eq (.bin .mod (.var 2) (.k (.int 4))) (.k (.int 3))) .nil))) (.cons (.lst .nil) .nil)))))
    (.seq (.cond (.cmp .eq (.var 2) (.k (.int 5))) (.seq (.ret (.call 14 (.cons (.var 1) (.cons (.var 5) .nil))))
    .nil) .nil)
    (.seq (.setT [7, 8] (.tup (.cons (.lst (.cons (.tup .nil) .nil)) (.cons (.lst (.cons (.lst .nil) .nil)) .nil))))
    (.seq (.for_ (.one 6) (.rng1 (.var 4)) (.seq (.cond (.not (.tv (.call 15 (.cons (.call 4 (.cons (.var 0) (.cons (.bin .add (.k (.int 1)) (.var 6)) .nil))) (.cons (.var 5) (.cons (.var 7) (.cons (.var 8) .nil))))))) (.seq (.ret (.k (.bl false)))
    .nil) .nil)
    .nil))
    (.seq (.for_ (.one 6) (.itv (.slst (.lrng (.bf .len (.cons (.var 7) .nil))) (.var 3))) (.seq (.cond (.not (.tv (.call 12 (.cons (.var 7) (.cons (.idx (.var 8) (.var 6)) (.cons (.var 6) .nil)))))) (.seq (.ret (.k (.bl false)))
    .nil) .nil)
    (.seq (.cond (.and (.cmp .gt (.var 6) (.k (.int 0))) (.not (.tv (.call 13 (.cons (.var 7) (.cons (.var 6) .nil)))))) (.seq (.ret (.k (.bl false)))
    .nil) .nil)
    .nil)))
    (.seq (.ret (.k (.bl true)))
    .nil))))))))))
def r_law : Rw := ⟨"law", ["_law_script"], ["_law_script", "_law_purse_here", "_law_size", "_law_way", "_law_many", "_law_names", "_law_k", "_law_model", "_law_fields_here"], ⟨1, 9, b_law⟩⟩
def rs : List Rw := [r_is_shape, r_fields_at, r_child_of, r_shape_by, r__law_cell, r__law_purse, r__law_take, r__law_word, r__law_words, r__law_same, r__law_behind, r__law_told, r__law_fields, r__law_again, r__law_chain, r__law_step, r_law]
def G : Gi := ⟨["is_shape", "fields_at", "child_of", "shape_by", "_law_cell", "_law_purse", "_law_take", "_law_word", "_law_words", "_law_same", "_law_behind", "_law_told", "_law_fields", "_law_again", "_law_chain", "_law_step", "law"], [], []⟩
def prg : Prg := [⟨2, 2, b_is_shape⟩, ⟨2, 5, b_fields_at⟩, ⟨4, 6, b_child_of⟩, ⟨4, 6, b_shape_by⟩, ⟨2, 4, b__law_cell⟩, ⟨1, 2, b__law_purse⟩, ⟨2, 4, b__law_take⟩, ⟨2, 7, b__law_word⟩, ⟨3, 5, b__law_words⟩, ⟨2, 4, b__law_same⟩, ⟨3, 4, b__law_behind⟩, ⟨3, 3, b__law_told⟩, ⟨3, 3, b__law_fields⟩, ⟨2, 5, b__law_again⟩, ⟨2, 11, b__law_chain⟩, ⟨4, 11, b__law_step⟩, ⟨1, 9, b_law⟩]
end Lw
namespace Lw
open PySem PySem.Spec PyProof.Rows L2 Rf
theorem p4 : prg[4]? = some ⟨2, 4, bCell⟩ := rfl
theorem p5 : prg[5]? = some ⟨1, 2, bPurse⟩ := rfl
theorem p6 : prg[6]? = some ⟨2, 4, bTake⟩ := rfl
theorem p7 : prg[7]? = some ⟨2, 7, bWord 6 menu1⟩ := rfl
theorem p8 : prg[8]? = some ⟨3, 5, bWords 7⟩ := rfl
theorem p9 : prg[9]? = some ⟨2, 4, bSame 9⟩ := rfl
/-! ### shapes, their fields -/
abbrev sPut : List Nat := [112, 117, 116]
abbrev sDrop : List Nat := [100, 114, 111, 112]
structure Sh where
  par : Nat
  put : Bool
  f : List Nat
  deriving DecidableEq
def deedS (b : Bool) : List Nat := if b then sPut else sDrop
def Sh.d (s : Sh) : D := .tup [.int s.par, .str (deedS s.put), .str s.f]
def behind (F : List (List Nat)) (b : Bool) (f : List Nat) : List (List Nat) := if b then F ++ [f] else F.filter fun x => decide (x ≠ f)
def ev : List Sh → List (List Nat)
  | [] => []
  | s :: p => behind (ev p) s.put s.f
/-- the way of a shape to the first one -/
inductive Path (ms : List Sh) : Nat → List Sh → Prop
  | nil : Path ms 0 []
  | cons {k : Nat} {s : Sh} {p : List Sh} : ms[k]? = some s → s.par ≤ k → Path ms s.par p → Path ms (k + 1) (s :: p)
/-- each step of a way may be gone -/
def Fair : List Sh → Prop
  | [] => True
  | s :: p => s.put = decide (s.f ∉ ev p) ∧ Word s.f ∧ Fair p
theorem deed_ok (b : Bool) : strOkL (deedS b) = true := by cases b <;> rfl
theorem Path.len {ms : List Sh} {k : Nat} {p : List Sh} (h : Path ms k p) : p.length ≤ k := by
  induction h with
  | nil => exact Nat.le_refl _
  | cons _ h1 _ ih => simp; omega
theorem ev_len : ∀ p : List Sh, (ev p).length ≤ p.length
  | [] => Nat.le_refl _
  | s :: p => by
    have := ev_len p
    have h2 := List.length_filter_le (fun x => decide (x ≠ s.f)) (ev p)
    unfold ev behind
    split
    · simp; omega
    · exact Nat.le_succ_of_le (Nat.le_trans h2 this)
theorem filter_erase {F : List (List Nat)} {f : List Nat} (nd : F.Nodup) {j : Nat} (hj : F.findIdx? (fun z => decide (z = f)) = some j) : F.eraseIdx j = F.filter fun x => decide (x ≠ f) := by
  induction F generalizing j with
  | nil => simp at hj
  | cons a F ih =>
    rw [List.findIdx?_cons] at hj
    rw [List.nodup_cons] at nd
    by_cases ha : a = f
    · subst ha
      simp at hj
      subst hj
      have : F.filter (fun x => decide (x ≠ a)) = F := List.filter_eq_self.mpr fun x hx => by
        simp
        rintro rfl
        exact nd.1 hx
      rw [List.filter_cons, this]
      simp
    · simp only [ha, decide_false, Bool.false_eq_true, if_false, Option.map_eq_some_iff] at hj
      obtain ⟨i, h1, rfl⟩ := hj
      rw [List.filter_cons]
      simp only [List.eraseIdx_cons_succ, ih nd.2 h1]
      simp [ha]
theorem ev_nd : ∀ {p : List Sh}, Fair p → (ev p).Nodup
  | [], _ => List.nodup_nil
  | s :: p, ⟨h, _, r⟩ => by
    have ih := ev_nd r
    unfold ev behind
    split
    · rename_i e
      rw [e] at h
      have hn : s.f ∉ ev p := by simpa using h.symm
      rw [List.nodup_append]
      exact ⟨ih, by simp, fun a ha b hb e => by simp at hb; subst hb; subst e; exact hn ha⟩
    · exact ih.sublist List.filter_sublist
theorem find_mem {F : List (List Nat)} {f : List Nat} (h : f ∈ F) : ∃ j, F.findIdx? (fun z => decide (z = f)) = some j := by
  induction F with
  | nil => simp at h
  | cons a F ih =>
    rw [List.findIdx?_cons]
    by_cases ha : a = f
    · exact ⟨0, by simp [ha]⟩
    · obtain ⟨j, hj⟩ := ih (by rcases List.mem_cons.mp h with e | e; exact absurd e.symm ha; exact e)
      exact ⟨j + 1, by simp [ha, hj]⟩
theorem Fair.drop : ∀ {a b : List Sh}, Fair (a ++ b) → Fair b
  | [], _, h => h
  | _ :: a, _, h => Fair.drop (a := a) h.2.2
def shD (ms : List Sh) : List D := .tup [] :: ms.map Sh.d
theorem fields_ok {n k : Nat} {ms p : List Sh} {h : AH} {Q : QD} {E : EC} (hp : Path ms k p) (hf : Fair p) (hk : k ≤ ms.length) (hm : ms.length ≤ 10000)
    (q : ∀ h', Keep [] h h' → Q (.tup ((ev p).map .str)) h') : wC prg (n + 2) 1 [.tup (shD ms), .int k] h Q E := by
  refine call_ok (d := ⟨2, 5, b_fields_at⟩) rfl rfl ?_
  simp only [startA, b_fields_at]
  refine seq_step fun K hK => ?_
  simp
  refine call_ok (d := ⟨2, 2, b_is_shape⟩) rfl rfl ?_
  have hk0 : (k : Int) < (shD ms).length := by simp [shD]; omega
  simp [startA, b_is_shape, hk0]
  rw [hK]; clear hK K
  refine seq_step fun K hK => ?_
  simp [SZ]
  rw [hK]; clear hK K
  refine seq_step fun K hK => ?_
  refine while_ok (I := fun m s h2 => ∃ d r, p = d ++ r ∧ Path ms m r ∧ m ≤ ms.length ∧ s = [some (.tup (shD ms)), some (.int m), some (.ref h.length), none, none] ∧ getL h2 h.length = some (d.map Sh.d) ∧ Keep [] h h2)
    (fun m s h2 K2 ⟨d, r, e1, e2, e3, e4, e5, e6⟩ hK2 => ?_) (n := k) ⟨[], p, rfl, hp, hk, rfl, getL_new, .app⟩
  · subst e4
    cases e2 with
    | nil =>
      simp
      rw [hK]; clear hK K
      rw [List.append_nil] at e1
      subst e1
      -- the fields
      refine seq_step fun K hK => ?_
      simp [SZ]
      rw [hK]; clear hK K
      refine seq_step fun K hK => ?_
      have g1 : getL (h2 ++ [.lst []]) h.length = some (p.map Sh.d) := (getL_app (getL_lt e5)).trans e5
      have hl5 := getL_lt e5
      simp [g1]
      rw [getL_new2, optK_some]
      have hlp := hp.len
      have keep0 : Keep [] h (h2 ++ [.lst [], .lst (stepL (p.map Sh.d) (-1))]) := e6.trans .app
      have hrev : stepL (p.map Sh.d) (-1) = p.reverse.map Sh.d := by simp [stepL]
      refine forW_ind (fun xs s h3 => ∃ (l p2 : List Sh) (d4 : Option D), p = l.reverse ++ p2 ∧ xs = l.map Sh.d ∧ s = [some (.tup (shD ms)), some (.int 0), some (.ref h.length), some (.ref h2.length), d4] ∧ getL h3 h2.length = some ((ev p2).map .str) ∧ getL h3 (h2.length + 1) = some (stepL (p.map Sh.d) (-1)) ∧ Keep [] h h3)
        (fun s h3 ⟨l, p2, d4, e1, e2, e3, e4, e7, e8⟩ => ⟨e7, ?_⟩) (fun x xs s h3 K3 ⟨l, p2, d4, e1, e2, e3, e4, e7, e8⟩ hK3 => ⟨e7, ?_⟩) _ _ _ ⟨p.reverse, [], none, by simp, hrev, rfl, by rw [getL_new1]; rfl, getL_new2 _ _ _, keep0⟩
      · subst e3
        cases l with
        | cons _ _ => simp at e2
        | nil =>
          simp at e1
          subst e1
          show K _ _
          rw [hK]
          simp [e4]
          exact q _ e8
      · subst e3
        cases l with
        | nil => simp at e2
        | cons s l =>
          simp at e2
          obtain ⟨rfl, rfl⟩ := e2
          have e1' : p = l.reverse ++ (s :: p2) := by rw [e1]; simp
          have hfs : Fair (s :: p2) := Fair.drop (a := l.reverse) (by rw [← e1']; exact hf)
          have hT := getL_lt e4
          have hev := ev_len p2
          have hpl : p2.length ≤ 10000 := by
            rw [e1'] at hlp
            simp at hlp
            omega
          have do_ := deed_ok s.put
          have so : strOkL sPut = true := rfl
          have kp3 : ∀ o, Keep [] h (h3.set h2.length o) := fun o => ((e8.weak (qs := [h2.length]) (by simp)).trans (Keep.set (by simp))).new (by simp; have := e6.len; omega)
          have ne7 : ∀ o, getL (h3.set h2.length o) (h2.length + 1) = some (stepL (p.map Sh.d) (-1)) := fun o => by rw [getL_set_ne (by omega)]; exact e7
          simp [Sh.d, do_, so]
          cases hb : s.put with
          | true =>
            simp [deedS, e4, SZ]
            refine ⟨by omega, hK3 _ _ ⟨l, s :: p2, _, e1', rfl, rfl, ?_, ne7 _, kp3 _⟩⟩
            rw [getL_set_self hT]
            simp [ev, behind, hb]
          | false =>
            have hmem : s.f ∈ ev p2 := by
              have := hfs.1
              rw [hb] at this
              simpa using this.symm
            obtain ⟨j, hj⟩ := find_mem hmem
            have nd := ev_nd hfs.2.2
            simp [deedS, e4, bmw_remove]
            refine ⟨ev p2, rfl, j, hj, hK3 _ _ ⟨l, s :: p2, _, e1', rfl, rfl, ?_, ne7 _, kp3 _⟩⟩
            rw [getL_set_self hT, filter_erase nd hj]
            simp [ev, behind, hb]

    | @cons j s r' h1 h2' h3 =>
      have ix : (shD ms)[j + 1]? = some s.d := by simp [shD, h1]
      have a1 : atI (shD ms) ((j : Int) + 1) = some s.d := by
        have := Rf.atI_nat (shD ms) (j + 1)
        rw [ix] at this
        exact this
      have hl5 := getL_lt e5
      have hlp := (Path.cons h1 h2' h3).len
      have hl5' := getL_lt e5
      have hj0 : (0 : Int) < (j : Int) + 1 := by omega
      have hz : d.length < 16777216 := by
        have := hp.len
        rw [e1] at this
        simp at this
        omega
      simp [hj0, e5, a1, Sh.d, SZ, hz]
      exact hK2 s.par _ _ (by omega) ⟨d ++ [s], r', by simp [e1], h3, by omega, rfl, by rw [getL_set_self hl5']; simp [Sh.d], ((e6.weak (qs := [h.length]) (by simp)).trans (Keep.set (by simp))).new (by simp)⟩
end Lw

namespace Lw
open PySem PySem.Spec PyProof.Rows L2 Rf
theorem deed_inj {a b : Bool} : deedS a = deedS b ↔ a = b := by cases a <;> cases b <;> simp [deedS]
theorem sh_eqv (a b : Sh) : D.eqv a.d b.d = decide (a = b) := by
  have e : D.eqv a.d b.d = (((a.par : Int) == (b.par : Int)) && (decide (deedS a.put = deedS b.put) && (decide (a.f = b.f) && true))) := rfl
  rw [e]
  cases a
  cases b
  simp only [deed_inj, Sh.mk.injEq]
  rw [Bool.eq_iff_iff]
  simp
  intros
  omega
theorem nil_eqv (b : Sh) : D.eqv (.tup []) b.d = false := rfl
theorem sh_pl {s : Sh} (h : Word s.f) : D.pl 2 s.d = true := by
  have h1 := deed_ok s.put
  have h2 := h.ok
  simp [Sh.d, D.pl, D.pls, h1, h2]
def enumF (i : Nat) (xs : List D) : List D := (xs.zipIdx i).map fun p => D.wtup [.int (p.2 : Int), p.1]
theorem enumF_0 (xs : List D) : enumL xs = enumF 0 xs := rfl
theorem enumF_cons (i : Nat) (x : D) (xs : List D) : enumF i (x :: xs) = .wtup [.int (i : Int), x] :: enumF (i + 1) xs := rfl
theorem enumF_nil (i : Nat) : enumF i [] = [] := rfl
/-- where a shape stands -/
def place (ms : List Sh) (t : Sh) : Option Nat := (ms.findIdx? fun s => decide (s = t)).map (· + 1)
theorem child_ok {n : Nat} {ms : List Sh} {t : Sh} {h : AH} {Q : QD} {E : EC} (hw : ∀ s ∈ ms, Word s.f) (ht : Word t.f)
    (q : Q (match place ms t with | some j => .int (j : Nat) | none => .non) h) : wC prg (n + 1) 2 [.tup (shD ms), .int t.par, .str (deedS t.put), .str t.f] h Q E := by
  refine call_ok (d := ⟨4, 6, b_child_of⟩) rfl rfl ?_
  have et : D.tup [.int t.par, .str (deedS t.put), .str t.f] = t.d := rfl
  simp [startA, b_child_of, SZ, shD, enumF_0, enumF_cons, forW_cons]
  rw [et, eqW_pl (n := 2) (m := 2) _ _ (by decide) (by decide) rfl (sh_pl ht), nil_eqv]
  simp
  refine forW_ind (fun xs s h2 => ∃ (l1 l2 : List Sh) (d4 d5 : Option D), ms = l1 ++ l2 ∧ xs = enumF (l1.length + 1) (l2.map Sh.d) ∧ (∀ x ∈ l1, x ≠ t) ∧ h2 = h ∧ s = [some (.tup (shD ms)), some (.int t.par), some (.str (deedS t.put)), some (.str t.f), d4, d5])
    (fun s h2 ⟨l1, l2, d4, d5, e1, e2, e3, e4, e5⟩ => ⟨trivial, ?_⟩) (fun x xs s h2 K ⟨l1, l2, d4, d5, e1, e2, e3, e4, e5⟩ hK => ⟨trivial, ?_⟩) _ _ _ ⟨[], ms, _, _, rfl, rfl, by simp, rfl, rfl⟩
  · subst e4 e5
    cases l2 with
    | cons _ _ => simp [enumF_cons] at e2
    | nil =>
      rw [List.append_nil] at e1
      subst e1
      have : place ms t = none := by
        unfold place
        rw [Option.map_eq_none_iff, List.findIdx?_eq_none_iff]
        intro x hx
        simpa using e3 x hx
      rw [this] at q
      simpa using q
  · subst e4 e5
    cases l2 with
    | nil => simp [enumF_nil] at e2
    | cons s l2 =>
      rw [List.map_cons, enumF_cons] at e2
      cases e2
      simp
      rw [et, eqW_pl (n := 2) (m := 2) _ _ (by decide) (by decide) (sh_pl (hw s (by rw [e1]; simp))) (sh_pl ht), sh_eqv]
      by_cases hs : s = t
      · simp [hs, SZ]
        have : place ms t = some (l1.length + 1) := by
          unfold place
          rw [e1]
          have no : ∀ l : List Sh, (∀ x ∈ l, x ≠ t) → (l ++ s :: l2).findIdx? (fun s => decide (s = t)) = some l.length := fun l => by
            induction l with
            | nil => intro _; simp [List.findIdx?_cons, hs]
            | cons a l ih =>
              intro ha
              have h1 := ha a List.mem_cons_self
              have h2 := ih fun x hx => ha x (List.mem_cons_of_mem _ hx)
              simp only [List.cons_append, List.findIdx?_cons, h1, decide_false]
              rw [h2]
              rfl
          rw [no l1 e3]
          rfl
        rw [this] at q
        simpa using q
      · simp [hs, SZ]
        refine hK _ _ ⟨l1 ++ [s], l2, _, _, by simp [e1], by simp, ?_, rfl, rfl⟩
        intro x hx
        rcases List.mem_append.mp hx with hx | hx
        · exact e3 x hx
        · simp at hx; subst hx; exact hs
theorem ev_word : ∀ {p : List Sh}, Fair p → ∀ x ∈ ev p, Word x
  | [], _, x, hx => by simp [ev] at hx
  | s :: p, ⟨_, hw, r⟩, x, hx => by
    have ih := ev_word r
    unfold ev behind at hx
    split at hx
    · rcases List.mem_append.mp hx with hx | hx
      · exact ih x hx
      · simp at hx; subst hx; exact hw
    · exact ih x (List.mem_filter.mp hx).1
/-- the answer of shape_by -/
def byD (ms : List Sh) (t : Sh) : D := match place ms t with
  | some j => .tup [.tup (shD ms), .int (j : Nat)]
  | none => .tup [.tup (shD (ms ++ [t])), .int ((ms.length + 1 : Nat) : Int)]
theorem by_ok {n : Nat} {ms p : List Sh} {t : Sh} {h : AH} {Q : QD} {E : EC} (hp : Path ms t.par p) (hf : Fair p) (hk : t.par ≤ ms.length) (hm : ms.length ≤ 9000) (hw : ∀ s ∈ ms, Word s.f) (ht : Word t.f) (hb : t.put = decide (t.f ∉ ev p))
    (q : ∀ h', Keep [] h h' → Q (byD ms t) h') : wC prg (n + 3) 3 [.tup (shD ms), .int t.par, .str (deedS t.put), .str t.f] h Q E := by
  refine call_ok (d := ⟨4, 6, b_shape_by⟩) rfl rfl ?_
  simp only [startA, b_shape_by]
  refine seq_step fun K hK => ?_
  simp
  refine fields_ok (n := n) hp hf hk (by omega) fun h1 k1 => ?_
  have o1 : D.ok 60 (.str t.f) = true := ht.ok
  have o2 : D.oks 59 ((ev p).map .str) = true := oks_str fun x hx => (ev_word hf x hx).ok
  simp [inW_tup, o1, o2, mem_str]
  rw [hK]; clear hK K
  have so : strOkL sDrop = true := rfl
  have dd : decide (deedS t.put = sDrop) = !t.put := by cases t.put <;> simp [deedS]
  have hb' : decide (t.f ∈ ev p) = !t.put := by rw [hb]; simp
  refine seq_step fun K hK => ?_
  simp [so, deed_ok, dd, hb']
  rw [hK]; clear hK K
  refine seq_step fun K hK => ?_
  simp
  refine child_ok (n := n + 1) hw ht ?_
  unfold byD at q
  cases hpl : place ms t with
  | some j =>
    rw [hpl] at q
    simp
    rw [hK]; clear hK K
    simp [SZ]
    exact q _ k1
  | none =>
    rw [hpl] at q
    simp
    rw [hK]; clear hK K
    have e : shD ms ++ [.tup [.int t.par, .str (deedS t.put), .str t.f]] = shD (ms ++ [t]) := by simp [shD, Sh.d]
    have e2 : (shD ms).length = ms.length + 1 := by simp [shD]
    simp [SZ, e, e2]
    exact ⟨by omega, by simpa using q _ k1⟩
end Lw

namespace Lw
open PySem PySem.Spec PyProof.Rows L2 Rf
theorem shD_pl {ms : List Sh} (hw : ∀ s ∈ ms, Word s.f) (hm : ms.length ≤ 10000) (k : Nat) : D.pl 4 (.tup [.tup (shD ms), .int k]) = true := by
  have h1 : D.pl 3 (.tup (shD ms)) = true := by
    simp only [D.pl, Bool.and_eq_true, decide_eq_true_eq]
    refine ⟨by simp [shD]; omega, pls_mem.mpr fun x hx => ?_⟩
    rcases List.mem_cons.mp hx with rfl | hx
    · rfl
    · obtain ⟨s, hs, rfl⟩ := List.mem_map.mp hx
      exact sh_pl (hw s hs)
  rw [D.pl]
  simp only [D.pls, h1, Bool.and_eq_true]
  exact ⟨rfl, trivial, rfl, trivial⟩
theorem told_ok {n m k : Nat} {ms : List Sh} {h : AH} {Q : QD} {E : EC} (gm : getL h m = some (shD ms)) (hw : ∀ s ∈ ms, Word s.f) (hm : ms.length ≤ 10000) (q : ∀ h', Keep [] h h' → Q (.bl true) h') :
    wC prg (n + 7) 11 [.ref m, .int k, .tup [.tup (shD ms), .int k]] h Q E := by
  refine call_ok (d := ⟨3, 3, b__law_told⟩) rfl rfl ?_
  simp [startA, b__law_told, gm, SZ]
  exact same_ok p9 (n + 5) (pl_mono (by omega) (shD_pl hw hm k)) fun h' kp => q h' kp
theorem evs_pl {p : List Sh} (hf : Fair p) (hl : p.length ≤ 10000) : D.pl 3 (.tup ((ev p).map .str)) = true := by
  simp only [D.pl, Bool.and_eq_true, decide_eq_true_eq]
  have := ev_len p
  refine ⟨by simp; omega, pls_mem.mpr fun x hx => ?_⟩
  obtain ⟨w, hw, rfl⟩ := List.mem_map.mp hx
  exact (ev_word hf w hw).ok
theorem fieldsC_ok {n m r k : Nat} {ms p : List Sh} {h : AH} {Q : QD} {E : EC} (gm : getL h m = some (shD ms)) (hp : Path ms k p) (hf : Fair p) (gr : getL h r = some ((ev p).map .str)) (hk : k ≤ ms.length) (hm : ms.length ≤ 10000)
    (q : ∀ h', Keep [] h h' → Q (.bl true) h') : wC prg (n + 7) 12 [.ref m, .ref r, .int k] h Q E := by
  refine call_ok (d := ⟨3, 3, b__law_fields⟩) rfl rfl ?_
  simp [startA, b__law_fields, gm]
  refine fields_ok (n := n + 4) hp hf hk hm fun h1 k1 => ?_
  have hl := hp.len
  simp [k1.get gr (by simp)]
  exact same_ok p9 (n + 5) (pl_mono (by omega) (evs_pl hf (by omega))) fun h' kp => q h' (k1.trans kp)
theorem place_at {ms : List Sh} {j : Nat} {s : Sh} (nd : ms.Nodup) (h : ms[j]? = some s) : place ms s = some (j + 1) := by
  unfold place
  have : ms.findIdx? (fun x => decide (x = s)) = some j := by
    induction ms generalizing j with
    | nil => simp at h
    | cons a ms ih =>
      rw [List.nodup_cons] at nd
      rw [List.findIdx?_cons]
      cases j with
      | zero => simp at h; subst h; simp
      | succ j =>
        simp at h
        have hne : a ≠ s := fun e => nd.1 (by rw [e]; exact List.mem_of_getElem? h)
        simp only [hne, decide_false, Bool.false_eq_true, if_false]
        rw [ih nd.2 h]
        rfl
  rw [this]
  rfl
theorem again_ok {n m j : Nat} {ms p : List Sh} {h : AH} {Q : QD} {E : EC} (gm : getL h m = some (shD ms)) (hp : Path ms (j + 1) p) (hf : Fair p) (hw : ∀ s ∈ ms, Word s.f) (hm : ms.length ≤ 9000) (nd : ms.Nodup)
    (q : ∀ h', Keep [] h h' → Q (.bl true) h') : wC prg (n + 8) 13 [.ref m, .int ((j : Int) + 1)] h Q E := by
  cases hp with
  | @cons _ s p' h1 h2 h3 =>
    have hj : j < ms.length := (List.getElem?_eq_some_iff.mp h1).1
    have a1 : atI (shD ms) ((j : Int) + 1) = some s.d := by
      have := Rf.atI_nat (shD ms) (j + 1)
      rw [show (shD ms)[j + 1]? = some s.d by simp [shD, h1]] at this
      exact this
    refine call_ok (d := ⟨2, 5, b__law_again⟩) rfl rfl ?_
    simp [startA, b__law_again, gm, a1, Sh.d]
    refine by_ok (n := n + 4) (t := s) h3 hf.2.2 (by omega) hm hw (hw s (List.mem_of_getElem? h1)) hf.1 fun h4 k4 => ?_
    unfold byD
    rw [place_at nd h1]
    exact told_ok (n := n) (k := j + 1) (k4.get gm (by simp)) hw (by omega) fun h' kp => q h' (k4.trans kp)
theorem behind_ok {n r : Nat} {F : List (List Nat)} {b : Bool} {f : List Nat} {h : AH} {Q : QD} {E : EC} (gr : getL h r = some (F.map .str)) (hF : ∀ x ∈ F, Word x) (hf : Word f) (hl : F.length ≤ 10000)
    (q : ∀ z h', getL h' z = some ((behind F b f).map .str) → h.length ≤ z → Keep [] h h' → Q (.ref z) h') : wC prg (n + 1) 10 [.ref r, .str (deedS b), .str f] h Q E := by
  refine call_ok (d := ⟨3, 4, b__law_behind⟩) rfl rfl ?_
  have so : strOkL sPut = true := rfl
  have dd : decide (deedS b = sPut) = b := by cases b <;> simp [deedS]
  have hrl := getL_lt gr
  cases b with
  | true =>
    have g1 : getL (h ++ [.lst [.str f]]) r = some (F.map .str) := (getL_app hrl).trans gr
    simp [startA, b__law_behind, so, deed_ok, dd, SZ, g1]
    refine ⟨by omega, q _ _ (by rw [getL_new2]; simp [behind]) (by omega) .app⟩
  | false =>
    simp [startA, b__law_behind, so, deed_ok, dd, gr]
    refine lcW_ind (fun xs acc s h2 => ∃ l1 l2 : List (List Nat), F = l1 ++ l2 ∧ xs = l2.map .str ∧ acc = (l1.filter fun x => decide (x ≠ f)).map .str ∧ s = [some (.ref r), some (.str (deedS false)), some (.str f), none] ∧ h2 = h)
      (fun acc s h2 ⟨l1, l2, e1, e2, e3, e4, e5⟩ => ⟨by rw [e5]; exact gr, ?_⟩) (fun x xs acc s h2 K ⟨l1, l2, e1, e2, e3, e4, e5⟩ hK => ⟨by rw [e5]; exact gr, ?_⟩) _ _ _ _ ⟨[], F, rfl, rfl, rfl, rfl, rfl⟩
    · subst e4 e5 e3
      cases l2 with
      | cons _ _ => simp at e2
      | nil =>
        rw [List.append_nil] at e1
        subst e1
        exact q _ _ getL_new (Nat.le_refl _) .app
    · subst e4 e5
      cases l2 with
      | nil => simp at e2
      | cons w l2 =>
        simp at e2
        obtain ⟨rfl, rfl⟩ := e2
        have hww := hF w (by rw [e1]; simp)
        have hle := List.length_filter_le (fun x => decide (x ≠ f)) l1
        have hl1 : l1.length ≤ 10000 := by rw [e1] at hl; simp at hl; omega
        simp [hww.ok, hf.ok]
        by_cases hwf : w = f
        · simp [hwf]
          exact hK _ _ ⟨l1 ++ [w], l2, by simp [e1], rfl, by simp [e3, hwf], rfl, rfl⟩
        · simp [hwf]
          exact ⟨by rw [e3, List.length_map]; show _ < 16777216; omega, hK _ _ ⟨l1 ++ [w], l2, by simp [e1], rfl, by simp [e3, hwf], rfl, rfl⟩⟩
end Lw

namespace Lw
open PySem PySem.Spec PyProof.Rows L2 Rf
/-- the law's tables: shapes at m, fields (lists) at fl -/
structure St (h : AH) (m fl : Nat) (ms : List Sh) (Ps : List (List Sh)) (refs : List Nat) : Prop where
  gm : getL h m = some (shD ms)
  gf : getL h fl = some (refs.map .ref)
  ne : m ≠ fl
  lp : Ps.length = ms.length + 1
  lr : refs.length = ms.length + 1
  pa : ∀ (k : Nat) p, Ps[k]? = some p → Path ms k p ∧ Fair p
  fs : ∀ (k : Nat) p r, Ps[k]? = some p → refs[k]? = some r → getL h r = some ((ev p).map .str)
  ap : ∀ r ∈ refs, r ≠ m ∧ r ≠ fl
  nd : ms.Nodup
  wd : ∀ s ∈ ms, Word s.f
  le : ms.length ≤ 400
theorem St.keep {h h' : AH} {m fl : Nat} {ms : List Sh} {Ps : List (List Sh)} {refs qs : List Nat} (S : St h m fl ms Ps refs) (k : Keep qs h h') (hm : m ∉ qs) (hf : fl ∉ qs) (hr : ∀ r ∈ refs, r ∉ qs) : St h' m fl ms Ps refs :=
  ⟨k.get S.gm hm, k.get S.gf hf, S.ne, S.lp, S.lr, S.pa, fun i p r h1 h2 => k.get (S.fs i p r h1 h2) (hr r (List.mem_of_getElem? h2)), S.ap, S.nd, S.wd, S.le⟩
theorem St.keep0 {h h' : AH} {m fl : Nat} {ms : List Sh} {Ps : List (List Sh)} {refs : List Nat} (S : St h m fl ms Ps refs) (k : Keep [] h h') : St h' m fl ms Ps refs := S.keep k (by simp) (by simp) (by simp)
theorem Path.more {ms more : List Sh} {k : Nat} {p : List Sh} (h : Path ms k p) : Path (ms ++ more) k p := by
  induction h with
  | nil => exact .nil
  | cons h1 h2 _ ih => exact .cons (by rw [List.getElem?_append_left (List.getElem?_eq_some_iff.mp h1).1]; exact h1) h2 ih
/-- one shape more -/
theorem St.add {h h' : AH} {m fl r : Nat} {ms : List Sh} {Ps : List (List Sh)} {refs : List Nat} {t : Sh} {p : List Sh} (S : St h m fl ms Ps refs) (hp : Ps[t.par]? = some p) (ht : t.put = decide (t.f ∉ ev p)) (hw : Word t.f) (hn : t ∉ ms) (hl : ms.length < 400)
    (gm : getL h' m = some (shD (ms ++ [t]))) (gf : getL h' fl = some ((refs ++ [r]).map .ref)) (gr : getL h' r = some ((behind (ev p) t.put t.f).map .str)) (hr : r ≠ m ∧ r ≠ fl) (k : ∀ x ∈ refs, getL h' x = getL h x) : St h' m fl (ms ++ [t]) (Ps ++ [t :: p]) (refs ++ [r]) := by
  have hpl : t.par < Ps.length := (List.getElem?_eq_some_iff.mp hp).1
  have lp := S.lp
  have lr := S.lr
  refine ⟨gm, gf, S.ne, by simp [lp], by simp [lr], fun i q hi => ?_, fun i q x h1 h2 => ?_, fun x hx => ?_, ?_, fun s hs => ?_, by simp; omega⟩
  · by_cases hi2 : i < Ps.length
    · rw [List.getElem?_append_left hi2] at hi
      exact ⟨(S.pa i q hi).1.more, (S.pa i q hi).2⟩
    · have : i = Ps.length := by
        have := (List.getElem?_eq_some_iff.mp hi).1
        simp at this
        omega
      subst this
      simp at hi
      subst hi
      obtain ⟨h1, h2⟩ := S.pa _ _ hp
      refine ⟨?_, ht, hw, h2⟩
      rw [lp]
      exact .cons (by simp) (by omega) h1.more
  · by_cases hi2 : i < Ps.length
    · rw [List.getElem?_append_left hi2] at h1
      rw [List.getElem?_append_left (by omega)] at h2
      rw [k x (List.mem_of_getElem? h2)]
      exact S.fs i q x h1 h2
    · have : i = Ps.length := by
        have := (List.getElem?_eq_some_iff.mp h1).1
        simp at this
        omega
      subst this
      simp at h1
      subst h1
      rw [List.getElem?_append_right (by omega)] at h2
      have e0 : Ps.length - refs.length = 0 := by omega
      rw [e0] at h2
      simp at h2
      subst h2
      exact gr
  · rcases List.mem_append.mp hx with hx | hx
    · exact S.ap x hx
    · simp at hx; subst hx; exact hr
  · rw [List.nodup_append]
    exact ⟨S.nd, by simp, fun a ha b hb e => by simp at hb; subst hb; subst e; exact hn ha⟩
  · rcases List.mem_append.mp hs with hs | hs
    · exact S.wd s hs
    · simp at hs; subst hs; exact hw
theorem mem_sh (t : Sh) (ms : List Sh) : D.mem t.d (shD ms) = decide (t ∈ ms) := by
  have e : D.mem t.d (shD ms) = D.mem t.d (ms.map Sh.d) := by
    unfold D.mem shD
    rw [List.any_cons]
    rw [nil_eqv]
    rfl
  rw [e]
  clear e
  unfold D.mem
  induction ms with
  | nil => rfl
  | cons a ms ih =>
    rw [List.map_cons, List.any_cons, ih, sh_eqv]
    by_cases h : a = t
    · subst h; simp
    · simp [h, Ne.symm h]
theorem find_sh {t : Sh} : ∀ {ms : List Sh} {j : Nat}, ms.Nodup → ms[j]? = some t → (shD ms).findIdx? (fun z => D.eqv z t.d) = some (j + 1) := by
  intro ms j nd h
  have h1 := place_at nd h
  unfold place at h1
  rw [Option.map_eq_some_iff] at h1
  obtain ⟨i, hi, e⟩ := h1
  have : i = j := by omega
  subst this
  unfold shD
  rw [List.findIdx?_cons, nil_eqv]
  have gen : ∀ l : List Sh, (l.map Sh.d).findIdx? (fun z => D.eqv z t.d) = l.findIdx? fun s => decide (s = t) := by
    intro l
    induction l with
    | nil => rfl
    | cons a l ih => rw [List.map_cons, List.findIdx?_cons, List.findIdx?_cons, sh_eqv, ih]
  rw [gen, hi]
  rfl
end Lw

namespace Lw
open PySem PySem.Spec PyProof.Rows L2 Rf
theorem St.ref {h : AH} {m fl : Nat} {ms : List Sh} {Ps : List (List Sh)} {refs : List Nat} (S : St h m fl ms Ps refs) {k : Nat} (hk : k ≤ ms.length) : ∃ p r, Ps[k]? = some p ∧ refs[k]? = some r ∧ getL h r = some ((ev p).map .str) ∧ Path ms k p ∧ Fair p ∧ r ≠ m ∧ r ≠ fl ∧ r < h.length := by
  have h1 : k < Ps.length := by have := S.lp; omega
  have h2 : k < refs.length := by have := S.lr; omega
  have g := S.fs k _ _ (List.getElem?_eq_getElem h1) (List.getElem?_eq_getElem h2)
  have pa := S.pa k _ (List.getElem?_eq_getElem h1)
  have ap := S.ap _ (List.getElem_mem h2)
  exact ⟨Ps[k], refs[k], List.getElem?_eq_getElem h1, List.getElem?_eq_getElem h2, g, pa.1, pa.2, ap.1, ap.2, getL_lt g⟩
theorem shD_len (ms : List Sh) : (shD ms).length = ms.length + 1 := by simp [shD]
theorem idx_ref {refs : List Nat} {k r : Nat} (h : refs[k]? = some r) : atI (refs.map D.ref) (k : Int) = some (.ref r) := by
  rw [Rf.atI_nat, List.getElem?_map, h]
  rfl
def bStepLast : MS := (.seq (.set 10 (.bm .index (.var 2) (.cons (.tup (.cons (.var 6) (.cons (.var 8) (.cons (.var 7) .nil)))) .nil)))
    (.seq (.cond (.not (.tv (.call 11 (.cons (.var 2) (.cons (.var 10) (.cons (.var 9) .nil)))))) (.seq (.ret (.k (.bl false)))
    .nil) .nil)
    (.seq (.ret (.or (.cmp .gt (.call 6 (.cons (.var 4) (.cons (.k (.int 3)) .nil))) (.k (.int 0))) (.call 12 (.cons (.var 2) (.cons (.idx (.var 3) (.var 10)) (.cons (.var 10) .nil))))))
    .nil)))
theorem sok {l : List Sh} {n : Nat} (hn : 5 ≤ n) (hw : ∀ s ∈ l, Word s.f) : D.oks n (shD l) = true := oks_mem.mpr fun x hx => by
  rcases List.mem_cons.mp hx with rfl | hx
  · cases n with
    | zero => omega
    | succ n => rfl
  · obtain ⟨s, hs, rfl⟩ := List.mem_map.mp hx
    exact pl_ok (by omega) (sh_pl (hw s hs))
theorem stepLast_ok {n m fl pp j : Nat} {ms : List Sh} {Ps : List (List Sh)} {refs : List Nat} {t : Sh} {d0 d1 d5 d10 : Option D} {h : AH} {Z : En} {E : EK} (S : St h m fl ms Ps refs) (hj : ms[j]? = some t) (hp : Purse h pp)
    (q : ∀ h', Keep [pp] h h' → Z.rt (.bl true) h') (hpm : pp ≠ m ∧ pp ≠ fl ∧ pp ∉ refs) :
    wS (wC prg (n + 8)) bStepLast [d0, d1, some (.ref m), some (.ref fl), some (.ref pp), d5, some (.int t.par), some (.str t.f), some (.str (deedS t.put)), some (.tup [.tup (shD ms), .int ((j : Int) + 1)]), d10] h Z E := by
  have hjl : j < ms.length := (List.getElem?_eq_some_iff.mp hj).1
  have tw := S.wd t (List.mem_of_getElem? hj)
  have tok9 : D.ok 59 t.d = true := pl_ok (by decide) (sh_pl tw)
  have ed : D.tup [.int t.par, .str (deedS t.put), .str t.f] = t.d := rfl
  obtain ⟨p, r, e1, e2, e3, e4, e5, e6, e7, e8⟩ := S.ref (k := j + 1) (by omega)
  have le := S.le
  unfold bStepLast
  refine seq_step fun K hK => ?_
  simp [bmT_ix, bmw_ix, S.gm, SZ, ed, tok9, sok (by decide : 5 ≤ 59) S.wd, find_sh S.nd hj]
  rw [hK]; clear hK K
  refine seq_step fun K hK => ?_
  simp
  refine told_ok (n := n + 1) (k := j + 1) S.gm S.wd (by omega) fun h2 k2 => ?_
  simp
  rw [hK]; clear hK K
  refine seq_step fun K hK => ?_
  clear hK
  simp
  refine take_ok p6 (hp.keep k2 (by simp)) (by decide) (by decide) fun u h3 u0 u1 hp3 k3 l3 => ?_
  have k23 : Keep [pp] h h3 := (k2.weak (by simp)).trans k3
  by_cases hu : 0 < u
  · simp [hu]
    exact q _ k23
  · have S3 := S.keep k23 (by simpa using Ne.symm hpm.1) (by simpa using Ne.symm hpm.2.1) (fun x hx => by simp; rintro rfl; exact hpm.2.2 hx)
    have g3 := k23.get e3 (by simp; rintro rfl; exact hpm.2.2 (List.mem_of_getElem? e2))
    have ix := idx_ref e2
    simp at ix
    simp [hu, S3.gf, ix]
    exact fieldsC_ok (n := n + 1) (k := j + 1) S3.gm e4 e5 g3 (by omega) (by omega) fun h' kp => q _ (k23.trans (kp.weak (by simp)))
def bStepEnd : MS := (.seq (.set 8 (.idx (.lst (.cons (.k (.str [112, 117, 116])) (.cons (.k (.str [100, 114, 111, 112])) .nil))) (.bf .int (.cons (.cmp .isin (.var 7) (.idx (.var 3) (.var 6))) .nil))))
    (.seq (.set 9 (.call 3 (.cons (.bf .tuple (.cons (.var 2) .nil)) (.cons (.var 6) (.cons (.var 8) (.cons (.var 7) .nil))))))
    (.seq (.cond (.cmp .notin (.tup (.cons (.var 6) (.cons (.var 8) (.cons (.var 7) .nil)))) (.var 2)) (.seq (.expr (.bm .append (.var 2) (.cons (.tup (.cons (.var 6) (.cons (.var 8) (.cons (.var 7) .nil)))) .nil)))
    (.seq (.expr (.bm .append (.var 3) (.cons (.call 10 (.cons (.idx (.var 3) (.var 6)) (.cons (.var 8) (.cons (.var 7) .nil)))) .nil)))
    .nil)) .nil)
    bStepLast)))
theorem idx_sh {ms : List Sh} {k : Nat} {d : D} (h : (shD ms)[k]? = some d) : atI (shD ms) (k : Int) = some d := by rw [Rf.atI_nat]; exact h
/-- what is left behind a step -/
def Left (h h' : AH) (m fl pp : Nat) (ms : List Sh) : Prop := ∃ ms' Ps' refs', St h' m fl ms' Ps' refs' ∧ ms'.length ≤ ms.length + 1 ∧ Keep [m, fl, pp] h h'
theorem stepEnd_ok {n m fl pp k : Nat} {ms : List Sh} {Ps : List (List Sh)} {refs : List Nat} {f : List Nat} {d0 d1 d5 : Option D} {h : AH} {Z : En} {E : EK} (S : St h m fl ms Ps refs) (hk : k ≤ ms.length) (hf : Word f) (hl : ms.length < 400) (hp : Purse h pp) (hpm : pp ≠ m ∧ pp ≠ fl ∧ pp ∉ refs)
    (q : ∀ h', Left h h' m fl pp ms → Z.rt (.bl true) h') :
    wS (wC prg (n + 8)) bStepEnd [d0, d1, some (.ref m), some (.ref fl), some (.ref pp), d5, some (.int k), some (.str f), none, none, none] h Z E := by
  obtain ⟨p, r, e1, e2, e3, e4, e5, e6, e7, e8⟩ := S.ref hk
  have hpl := e4.len
  have hmL := getL_lt S.gm
  have hfL := getL_lt S.gf
  have o1 : D.ok 60 (.str f) = true := hf.ok
  have o2 : D.oks 59 ((ev p).map .str) = true := oks_str fun x hx => (ev_word e5 x hx).ok
  unfold bStepEnd
  refine seq_step fun K hK => ?_
  have S1 : St (h ++ [.lst [.str sPut, .str sDrop]]) m fl ms Ps refs := S.keep0 .app
  have g1 : getL (h ++ [.lst [.str sPut, .str sDrop]]) r = some ((ev p).map .str) := (getL_app e8).trans e3
  have gf1 := S1.gf
  simp [SZ, gf1, idx_ref e2, inW_ref, g1, o1, o2, mem_str]
  have dd : ∀ b : Bool, atI [D.str sPut, D.str sDrop] (if b = true then 1 else 0) = some (.str (deedS (!b))) := fun b => by cases b <;> simp [deedS]
  have dd' := dd (decide (f ∈ ev p))
  simp only [decide_eq_true_eq] at dd'
  simp [dd']
  rw [hK]; clear hK K
  -- the shape
  generalize hg : h ++ [O.lst [D.str [112, 117, 116], D.str [100, 114, 111, 112]]] = g at *
  have kg : Keep [] h g := by rw [← hg]; exact .app
  refine seq_step fun K hK => ?_
  simp [S1.gm]
  refine by_ok (n := n + 5) (t := ⟨k, !decide (f ∈ ev p), f⟩) e4 e5 hk (by omega) S.wd hf (by simp) fun h2 k2 => ?_
  rw [hK]; clear hK K
  have hput : (⟨k, !decide (f ∈ ev p), f⟩ : Sh).put = decide (f ∉ ev p) := by simp
  have ed : D.tup [.int k, .str (deedS (!decide (f ∈ ev p))), .str f] = (⟨k, !decide (f ∈ ev p), f⟩ : Sh).d := rfl
  have epar : (⟨k, !decide (f ∈ ev p), f⟩ : Sh).par = k := rfl
  have ef : (⟨k, !decide (f ∈ ev p), f⟩ : Sh).f = f := rfl
  have hdeed : deedS (!decide (f ∈ ev p)) = deedS (⟨k, !decide (f ∈ ev p), f⟩ : Sh).put := rfl
  have eb : (⟨k, !decide (f ∈ ev p), f⟩ : Sh).put = !decide (f ∈ ev p) := rfl
  revert hput ed epar ef eb
  generalize (⟨k, !decide (f ∈ ev p), f⟩ : Sh) = t
  intro hput ed epar ef eb
  have S2 := S1.keep0 k2
  have g2 := k2.get g1 (by simp)
  have tw : Word t.f := by rw [ef]; exact hf
  have tok : D.ok 60 t.d = true := pl_ok (by decide) (sh_pl tw)
  have tok9 : D.ok 59 t.d = true := pl_ok (by decide) (sh_pl tw)
  refine seq_step fun K hK => ?_
  simp [ed, inW_ref, S2.gm, tok, sok (by decide : 5 ≤ 59) S2.wd, mem_sh]
  have hp2 : Purse h2 pp := hp.keep (kg.trans k2) (by simp)
  by_cases hin : t ∈ ms
  · obtain ⟨j, hjl, hj⟩ := List.getElem_of_mem hin
    have hj' : ms[j]? = some t := by rw [List.getElem?_eq_getElem hjl, hj]
    have pl := place_at S2.nd hj'
    simp [hin]
    rw [hK]; clear hK K
    rw [← eb, ← epar, ← ef]
    simp only [byD, pl]
    refine ⟨by simp [SZ], ?_⟩
    exact stepLast_ok S2 hj' hp2 (fun h' kp => q h' ⟨ms, Ps, refs, S2.keep kp (by simpa using Ne.symm hpm.1) (by simpa using Ne.symm hpm.2.1) (fun x hx => by simp; rintro rfl; exact hpm.2.2 hx), by omega, (kg.trans k2).weak (qs := [m, fl, pp]) (by simp) |>.trans (kp.weak (by simp))⟩) hpm
  · simp [hin, SZ, S2.gm]
    have hmL2 := getL_lt S2.gm
    have gf3 : getL (h2.set m (.lst (shD ms ++ [t.d]))) fl = some (refs.map .ref) := (getL_set_ne S2.ne).trans S2.gf
    have gr3 : getL (h2.set m (.lst (shD ms ++ [t.d]))) r = some ((ev p).map .str) := (getL_set_ne (Ne.symm e6)).trans g2
    have hevl := ev_len p
    have hnone : place ms t = none := by
      unfold place
      rw [Option.map_eq_none_iff, List.findIdx?_eq_none_iff]
      intro x hx
      simp
      rintro rfl
      exact hin hx
    refine ⟨by rw [shD_len]; omega, by rw [gf3]; rfl, ?_⟩
    rw [gf3, optK_some, idx_ref e2, optK_some, ← eb]
    refine behind_ok (n := n + 7) (F := ev p) gr3 (ev_word e5) hf (by omega) fun z h4 gz hz k4 => ?_
    have gf4 := k4.get gf3 (by simp)
    have gm4 := k4.get (getL_set_self (xs := shD ms ++ [t.d]) hmL2) (by simp)
    have hz2 : h2.length ≤ z := by simpa using hz
    have hfL2 := getL_lt S2.gf
    have zm : z ≠ m := by omega
    have zf : z ≠ fl := by omega
    rw [gf4, optK_some]
    have lr := S.lr
    refine ⟨by simp; omega, ?_⟩
    rw [hK]; clear hK K
    rw [← epar, ← ef]
    have hby : byD ms t = .tup [.tup (shD (ms ++ [t])), .int ((ms.length : Int) + 1)] := by
      unfold byD
      rw [hnone]
      rfl
    rw [hby]
    have hf4L := getL_lt gf4
    have S5 : St (h4.set fl (.lst (refs.map .ref ++ [.ref z]))) m fl (ms ++ [t]) (Ps ++ [t :: p]) (refs ++ [z]) := by
      refine S2.add (r := z) (by rw [epar]; exact e1) (by rw [ef]; exact hput) tw hin hl ?_ ?_ ?_ ⟨zm, zf⟩ fun x hx => ?_
      · rw [getL_set_ne (Ne.symm S.ne), gm4]
        simp [shD]
      · rw [getL_set_self hf4L]
        simp
      · rw [getL_set_ne (Ne.symm zf), gz, ef]
      · have hxl : x < h2.length := by
          obtain ⟨i, hi, rfl⟩ := List.getElem_of_mem hx
          have hi2 : i < Ps.length := by have := S.lp; omega
          exact getL_lt (S2.fs i _ _ (List.getElem?_eq_getElem hi2) (List.getElem?_eq_getElem hi))
        have ap := S.ap x hx
        rw [getL_set_ne (Ne.symm ap.2)]
        have e9 := k4.at_ x (by simpa using hxl) (by simp)
        unfold getL
        rw [e9, List.getElem?_set_ne (Ne.symm ap.1)]
    have kall : Keep [m, fl, pp] h (h4.set fl (.lst (refs.map .ref ++ [.ref z]))) :=
      ((((kg.trans k2).weak (qs := [m, fl, pp]) (by simp)).trans (Keep.set (by simp))).trans (k4.weak (by simp))).trans (Keep.set (by simp))
    have hp5 : Purse (h4.set fl (.lst (refs.map .ref ++ [.ref z]))) pp := ((hp2.keep (ps := [m]) (.set (by simp)) (by simpa using hpm.1)).keep k4 (by simp)).keep (ps := [fl]) (.set (by simp)) (by simpa using hpm.2.1)
    have zpp : pp ≠ z := by have := hp2.lt; omega
    have hj : (ms ++ [t])[ms.length]? = some t := by simp
    refine stepLast_ok S5 hj hp5 (fun h' kp => q h' ⟨_, _, _, S5.keep kp (by simpa using Ne.symm hpm.1) (by simpa using Ne.symm hpm.2.1) (fun x hx => ?_), by simp, kall.trans (kp.weak (by simp))⟩) ⟨hpm.1, hpm.2.1, fun hx => ?_⟩
    · simp
      rintro rfl
      rcases List.mem_append.mp hx with hx | hx
      · exact hpm.2.2 hx
      · simp at hx; exact zpp hx
    · rcases List.mem_append.mp hx with hx | hx
      · exact hpm.2.2 hx
      · simp at hx; exact zpp hx
end Lw

namespace Lw
open PySem PySem.Spec PyProof.Rows L2 Rf
def bStepMid : MS := (.seq (.set 7 (.idx (.var 1) (.call 6 (.cons (.var 4) (.cons (.bf .len (.cons (.var 1) .nil)) .nil)))))
    (.seq (.cond (.and (.cmp .gt (.bf .len (.cons (.var 1) .nil)) (.k (.int 6))) (.cmp .isin (.var 7) (.idx (.var 3) (.var 6)))) (.seq (.set 7 (.idx (.var 1) (.call 6 (.cons (.var 4) (.cons (.bf .len (.cons (.var 1) .nil)) .nil)))))
    .nil) .nil) bStepEnd))
def bStep : MS := (.seq (.set 4 (.call 5 (.cons (.var 0) .nil)))
    (.seq (.set 5 (.call 6 (.cons (.var 4) (.cons (.k (.int 4)) .nil))))
    (.seq (.set 6 (.idx (.lst (.cons (.bin .sub (.bf .len (.cons (.var 2) .nil)) (.k (.int 1))) (.cons (.k (.int 0)) (.cons (.call 6 (.cons (.var 4) (.cons (.bf .len (.cons (.var 2) .nil)) .nil))) (.cons (.call 6 (.cons (.var 4) (.cons (.bf .len (.cons (.var 2) .nil)) .nil))) .nil))))) (.var 5)))
    (.seq (.cond (.and (.cmp .gt (.bf .len (.cons (.var 1) .nil)) (.k (.int 6))) (.cmp .gt (.var 5) (.k (.int 0)))) (.seq (.set 6 (.bin .sub (.bf .len (.cons (.var 2) .nil)) (.k (.int 1))))
    .nil) .nil) bStepMid))))
/-- the names at nm -/
structure Nms (h : AH) (nm : Nat) (ws : List (List Nat)) : Prop where
  g : getL h nm = some (ws.map .str)
  w : ∀ x ∈ ws, Word x
  l0 : 0 < ws.length
  l1 : ws.length ≤ 1000
theorem Nms.keep {h h' : AH} {nm : Nat} {ws : List (List Nat)} {qs : List Nat} (N : Nms h nm ws) (k : Keep qs h h') (hn : nm ∉ qs) : Nms h' nm ws := ⟨k.get N.g hn, N.w, N.l0, N.l1⟩
theorem Nms.pick {h : AH} {nm : Nat} {ws : List (List Nat)} (N : Nms h nm ws) {t : Int} (t0 : 0 ≤ t) (t1 : t < ws.length) : ∃ w, Word w ∧ atI (ws.map D.str) t = some (.str w) := by
  obtain ⟨d, hd, hd2⟩ := at_lt (xs := ws.map D.str) t0 (by simpa using t1)
  obtain ⟨w, hw, rfl⟩ := List.mem_map.mp hd2
  exact ⟨w, N.w w hw, hd⟩
theorem stepMid_ok {n m fl pp k nm : Nat} {ms : List Sh} {Ps : List (List Sh)} {refs : List Nat} {ws : List (List Nat)} {d0 d5 : Option D} {h : AH} {Z : En} {E : EK} (S : St h m fl ms Ps refs) (hk : k ≤ ms.length) (hl : ms.length < 400) (hp : Purse h pp) (hpm : pp ≠ m ∧ pp ≠ fl ∧ pp ∉ refs)
    (N : Nms h nm ws) (hn : nm ≠ pp) (q : ∀ h', Left h h' m fl pp ms → Z.rt (.bl true) h') :
    wS (wC prg (n + 8)) bStepMid [d0, some (.ref nm), some (.ref m), some (.ref fl), some (.ref pp), d5, some (.int k), none, none, none, none] h Z E := by
  have keepS : ∀ {h'}, Keep [pp] h h' → St h' m fl ms Ps refs := fun kp => S.keep kp (by simpa using Ne.symm hpm.1) (by simpa using Ne.symm hpm.2.1) (fun x hx => by simp; rintro rfl; exact hpm.2.2 hx)
  unfold bStepMid
  have l0 := N.l0
  have l1 := N.l1
  refine seq_step fun K hK => ?_
  simp [N.g]
  refine take_ok p6 hp (by omega) (by omega) fun t h1 t0 t1 hp1 k1 _ => ?_
  obtain ⟨w, hw, hw2⟩ := N.pick t0 t1
  have N1 := N.keep k1 (by simpa using hn)
  have S1 := keepS k1
  simp [N1.g, hw2]
  rw [hK]; clear hK K
  refine seq_step fun K hK => ?_
  obtain ⟨p, r, e1, e2, e3, e4, e5, e6, e7, e8⟩ := S1.ref hk
  have o1 : D.ok 60 (.str w) = true := hw.ok
  have o2 : D.oks 59 ((ev p).map .str) = true := oks_str fun x hx => (ev_word e5 x hx).ok
  by_cases h6 : (6 : Int) < ws.length
  · by_cases hin : w ∈ ev p
    · simp [N1.g, h6, S1.gf, idx_ref e2, inW_ref, e3, o1, o2, mem_str, hin]
      refine take_ok p6 hp1 (by omega) (by omega) fun t2 h2 t20 t21 hp2 k2 _ => ?_
      obtain ⟨w2, hw3, hw4⟩ := N1.pick t20 t21
      have N2 := N1.keep k2 (by simpa using hn)
      simp [N2.g, hw4]
      rw [hK]; clear hK K
      have k12 := k1.trans k2
      exact stepEnd_ok (keepS k12) hk hw3 hl hp2 hpm fun h' ⟨a, b, c, d, e, f⟩ => q h' ⟨a, b, c, d, e, (k12.weak (by simp)).trans f⟩
    · simp [N1.g, h6, S1.gf, idx_ref e2, inW_ref, e3, o1, o2, mem_str, hin]
      rw [hK]; clear hK K
      exact stepEnd_ok S1 hk hw hl hp1 hpm fun h' ⟨a, b, c, d, e, f⟩ => q h' ⟨a, b, c, d, e, (k1.weak (by simp)).trans f⟩
  · simp [N1.g, h6]
    rw [hK]; clear hK K
    exact stepEnd_ok S1 hk hw hl hp1 hpm fun h' ⟨a, b, c, d, e, f⟩ => q h' ⟨a, b, c, d, e, (k1.weak (by simp)).trans f⟩
theorem step_ok {n m fl nm : Nat} {c : Int} {ms : List Sh} {Ps : List (List Sh)} {refs : List Nat} {ws : List (List Nat)} {h : AH} {Q : QD} {E : EC} (S : St h m fl ms Ps refs) (hl : ms.length < 400) (N : Nms h nm ws)
    (q : ∀ ms' Ps' refs' h', St h' m fl ms' Ps' refs' → ms'.length ≤ ms.length + 1 → Keep [m, fl] h h' → Q (.bl true) h') : wC prg (n + 9) 15 [.int c, .ref nm, .ref m, .ref fl] h Q E := by
  refine call_ok (d := ⟨4, 11, bStep⟩) rfl rfl ?_
  have hmL := getL_lt S.gm
  have hfL := getL_lt S.gf
  have hnL := getL_lt N.g
  have l0 := N.l0
  have l1 := N.l1
  have hrefs : ∀ x ∈ refs, x < h.length := fun x hx => by
    obtain ⟨i, hi, rfl⟩ := List.getElem_of_mem hx
    have hi2 : i < Ps.length := by have := S.lp; have := S.lr; omega
    exact getL_lt (S.fs i _ _ (List.getElem?_eq_getElem hi2) (List.getElem?_eq_getElem hi))
  simp only [startA, bStep]
  refine seq_step fun K hK => ?_
  simp
  refine purse_ok p5 fun h1 hp1 k1 _ => ?_
  rw [hK]; clear hK K
  have hpm : h.length ≠ m ∧ h.length ≠ fl ∧ h.length ∉ refs := ⟨by omega, by omega, fun hx => by have := hrefs _ hx; omega⟩
  have hn : nm ≠ h.length := by omega
  have keepS : ∀ {h'}, Keep [h.length] h h' → St h' m fl ms Ps refs := fun kp => S.keep kp (by simpa using Ne.symm hpm.1) (by simpa using Ne.symm hpm.2.1) (fun x hx => by simp; rintro rfl; exact hpm.2.2 hx)
  have fin : ∀ h2 h', Keep [h.length] h h2 → Left h2 h' m fl h.length ms → Q (.bl true) h' := fun h2 h' k2 ⟨a, b, c, d, e, f⟩ =>
    q a b c h' d e (((k2.weak (qs := [m, fl, h.length]) (by simp)).trans f).new (by simp))
  have k1' : Keep [h.length] h h1 := k1.weak (by simp)
  generalize hpp : h.length = pp at *
  refine seq_step fun K hK => ?_
  simp
  refine take_ok p6 hp1 (by decide) (by decide) fun pick h2 t0 t1 hp2 k2 _ => ?_
  rw [hK]; clear hK K
  have k12 := k1'.trans k2
  refine seq_step fun K hK => ?_
  have S2 := keepS k12
  have le := S.le
  simp [SZ, S2.gm, shD_len]
  refine take_ok p6 hp2 (by omega) (by omega) fun u1 h3 a0 a1 hp3 k3 _ => ?_
  have S3 := keepS (k12.trans k3)
  simp [S3.gm, shD_len]
  refine take_ok p6 hp3 (by omega) (by omega) fun u2 h4 b0 b1 hp4 k4 _ => ?_
  have k14 := (k12.trans k3).trans k4
  obtain ⟨d, hd, hd2⟩ := at_lt (xs := [D.int ms.length, .int 0, .int u1, .int u2]) t0 (by simpa using t1)
  simp [hd]
  have : ∃ k : Nat, k ≤ ms.length ∧ d = .int k := by
    simp at hd2
    rcases hd2 with rfl | rfl | rfl | rfl
    · exact ⟨ms.length, Nat.le_refl _, rfl⟩
    · exact ⟨0, by omega, rfl⟩
    · exact ⟨u1.toNat, by omega, by congr 1; omega⟩
    · exact ⟨u2.toNat, by omega, by congr 1; omega⟩
  obtain ⟨k, hk, rfl⟩ := this
  rw [hK]; clear hK K
  have k15 : Keep [pp] h (h4 ++ [.lst [.int ms.length, .int 0, .int u1, .int u2]]) := k14.trans .app
  have hp5 := hp4.keep (ps := []) (Keep.app (t := [.lst [.int ms.length, .int 0, .int u1, .int u2]])) (by simp)
  revert k15 hp5
  generalize h4 ++ [O.lst [D.int ms.length, .int 0, .int u1, .int u2]] = h5
  intro k15 hp5
  have S5 := keepS k15
  have N5 := N.keep k15 (by simpa using hn)
  refine seq_step fun K hK => ?_
  by_cases h6 : (6 : Int) < ws.length
  · by_cases h0 : 0 < pick
    · simp [N5.g, h6, h0, S5.gm, shD_len]
      rw [hK]; clear hK K
      exact stepMid_ok S5 (Nat.le_refl _) hl hp5 hpm N5 hn fun h' l => fin _ _ k15 l
    · simp [N5.g, h6, h0]
      rw [hK]; clear hK K
      exact stepMid_ok S5 hk hl hp5 hpm N5 hn fun h' l => fin _ _ k15 l
  · simp [N5.g, h6]
    rw [hK]; clear hK K
    exact stepMid_ok S5 hk hl hp5 hpm N5 hn fun h' l => fin _ _ k15 l
end Lw

namespace Lw
open PySem PySem.Spec PyProof.Rows L2 Rf
/-- the chain's tables -/
structure Cn (h : AH) (m : Nat) (ms : List Sh) (Ps : List (List Sh)) (r : Nat) (half r2 : Nat) : Prop where
  gm : getL h m = some (shD ms)
  lp : Ps.length = ms.length + 1
  pa : ∀ (k : Nat) p, Ps[k]? = some p → Path ms k p ∧ Fair p
  pr : ∀ (i : Nat) s, ms[i]? = some s → s.par = i ∧ Word s.f
  gr : ∀ p, Ps[ms.length]? = some p → getL h r = some ((ev p).map .str)
  g2 : half < ms.length → ∀ p, Ps[half]? = some p → getL h r2 = some ((ev p).map .str)
  ne : r ≠ m ∧ r2 ≠ m
  le : ms.length ≤ 301
theorem Cn.nd {h : AH} {m r half r2 : Nat} {ms : List Sh} {Ps : List (List Sh)} (c : Cn h m ms Ps r half r2) : ms.Nodup := by
  refine List.pairwise_iff_getElem.mpr fun i j hi hj hij e => ?_
  have h1 := (c.pr i _ (List.getElem?_eq_getElem hi)).1
  have h2 := (c.pr j _ (List.getElem?_eq_getElem hj)).1
  rw [e] at h1
  omega
theorem Cn.wd {h : AH} {m r half r2 : Nat} {ms : List Sh} {Ps : List (List Sh)} (c : Cn h m ms Ps r half r2) : ∀ s ∈ ms, Word s.f := fun s hs => by
  obtain ⟨i, hi, rfl⟩ := List.getElem_of_mem hs
  exact (c.pr i _ (List.getElem?_eq_getElem hi)).2
theorem Cn.keep {h h' : AH} {m r half r2 : Nat} {ms : List Sh} {Ps : List (List Sh)} {qs : List Nat} (c : Cn h m ms Ps r half r2) (k : Keep qs h h') (hm : m ∉ qs) (hr : r ∉ qs) (hr2 : r2 ∉ qs) : Cn h' m ms Ps r half r2 :=
  ⟨k.get c.gm hm, c.lp, c.pa, c.pr, fun p hp => k.get (c.gr p hp) hr, fun a p hp => k.get (c.g2 a p hp) hr2, c.ne, c.le⟩
theorem Cn.path {h : AH} {m r half r2 : Nat} {ms : List Sh} {Ps : List (List Sh)} (c : Cn h m ms Ps r half r2) {k : Nat} (hk : k ≤ ms.length) : ∃ p, Ps[k]? = some p ∧ Path ms k p ∧ Fair p := by
  have h1 : k < Ps.length := by have := c.lp; omega
  exact ⟨_, List.getElem?_eq_getElem h1, c.pa k _ (List.getElem?_eq_getElem h1)⟩
def bChainEnd : MS := (.seq (.set 5 (.idx (.var 1) (.call 6 (.cons (.var 0) (.cons (.bf .len (.cons (.var 1) .nil)) .nil)))))
    (.seq (.set 6 (.idx (.lst (.cons (.k (.str [112, 117, 116])) (.cons (.k (.str [100, 114, 111, 112])) .nil))) (.bf .int (.cons (.cmp .isin (.var 5) (.var 9)) .nil))))
    (.seq (.cond (.or (.not (.tv (.call 12 (.cons (.var 8) (.cons (.var 9) (.cons (.var 2) .nil)))))) (.not (.tv (.call 12 (.cons (.var 8) (.cons (.var 10) (.cons (.var 3) .nil))))))) (.seq (.ret (.k (.bl false)))
    .nil) .nil)
    (.seq (.cond (.not (.tv (.call 13 (.cons (.var 8) (.cons (.bin .add (.var 3) (.k (.int 1))) .nil))))) (.seq (.ret (.k (.bl false)))
    .nil) .nil)
    (.seq (.set 7 (.call 3 (.cons (.bf .tuple (.cons (.var 8) .nil)) (.cons (.var 2) (.cons (.var 6) (.cons (.var 5) .nil))))))
    (.seq (.expr (.bm .append (.var 8) (.cons (.tup (.cons (.var 2) (.cons (.var 6) (.cons (.var 5) .nil)))) .nil)))
    (.seq (.ret (.and (.call 11 (.cons (.var 8) (.cons (.bin .add (.var 2) (.k (.int 1))) (.cons (.var 7) .nil)))) (.call 12 (.cons (.var 8) (.cons (.call 10 (.cons (.var 9) (.cons (.var 6) (.cons (.var 5) .nil)))) (.cons (.bin .add (.var 2) (.k (.int 1))) .nil))))))
    .nil)))))))
theorem dd (b : Bool) : atI [D.str sPut, D.str sDrop] (if b = true then 1 else 0) = some (.str (deedS (!b))) := by cases b <;> simp [deedS]
theorem chainEnd_ok {n m r half r2 nm pp : Nat} {ms : List Sh} {Ps : List (List Sh)} {ws : List (List Nat)} {d4 d5 d6 d7 : Option D} {h : AH} {Z : En} {E : EK} (c : Cn h m ms Ps r half r2) (N : Nms h nm ws) (hp : Purse h pp) (hh : half < ms.length) (hl : ms.length ≤ 300)
    (hn : nm ≠ pp ∧ m ≠ pp ∧ r ≠ pp ∧ r2 ≠ pp) (q : ∀ h', Z.rt (.bl true) h') :
    wS (wC prg (n + 8)) bChainEnd [some (.ref pp), some (.ref nm), some (.int ms.length), some (.int half), d4, d5, d6, d7, some (.ref m), some (.ref r), some (.ref r2)] h Z E := by
  have l0 := N.l0
  have l1 := N.l1
  obtain ⟨p, e1, e2, e3⟩ := c.path (Nat.le_refl _)
  obtain ⟨ph, f1, f2, f3⟩ := c.path (k := half) (by omega)
  obtain ⟨pq, z1, z2, z3⟩ := c.path (k := half + 1) (by omega)
  unfold bChainEnd
  refine seq_step fun K hK => ?_
  simp [N.g]
  refine take_ok p6 hp (by omega) (by omega) fun t h1 t0 t1 hp1 k1 _ => ?_
  obtain ⟨w, hw, hw2⟩ := N.pick t0 t1
  have N1 := N.keep k1 (by simpa using hn.1)
  have c1 := c.keep k1 (by simpa using hn.2.1) (by simpa using hn.2.2.1) (by simpa using hn.2.2.2)
  simp [N1.g, hw2]
  rw [hK]; clear hK K
  refine seq_step fun K hK => ?_
  have c2 : Cn (h1 ++ [.lst [.str sPut, .str sDrop]]) m ms Ps r half r2 := c1.keep (qs := []) .app (by simp) (by simp) (by simp)
  have o1 : D.ok 60 (.str w) = true := hw.ok
  have o2 : D.oks 59 ((ev p).map .str) = true := oks_str fun x hx => (ev_word e3 x hx).ok
  have dd' := dd (decide (w ∈ ev p))
  simp only [decide_eq_true_eq] at dd'
  simp [SZ, inW_ref, c2.gr p e1, o1, o2, mem_str, dd']
  rw [hK]; clear hK K
  revert c2
  generalize h1 ++ [O.lst [D.str [112, 117, 116], D.str [100, 114, 111, 112]]] = g
  intro c2
  refine seq_step fun K hK => ?_
  simp
  refine fieldsC_ok (n := n + 1) c2.gm e2 e3 (c2.gr p e1) (Nat.le_refl _) (by omega) fun h3 k3 => ?_
  have c3 := c2.keep k3 (by simp) (by simp) (by simp)
  simp
  refine fieldsC_ok (n := n + 1) c3.gm f2 f3 (c3.g2 hh ph f1) (by omega) (by omega) fun h4 k4 => ?_
  have c4 := c3.keep k4 (by simp) (by simp) (by simp)
  simp
  rw [hK]; clear hK K
  refine seq_step fun K hK => ?_
  simp
  refine again_ok (n := n) c4.gm z2 z3 c4.wd (by omega) c4.nd fun h5 k5 => ?_
  have c5 := c4.keep k5 (by simp) (by simp) (by simp)
  simp
  rw [hK]; clear hK K
  refine seq_step fun K hK => ?_
  simp [c5.gm]
  refine by_ok (n := n + 5) (t := ⟨ms.length, !decide (w ∈ ev p), w⟩) e2 e3 (Nat.le_refl _) (by omega) c5.wd hw (by simp) fun h6 k6 => ?_
  have c6 := c5.keep k6 (by simp) (by simp) (by simp)
  rw [hK]; clear hK K
  have hnot : (⟨ms.length, !decide (w ∈ ev p), w⟩ : Sh) ∉ ms := fun hx => by
    obtain ⟨i, hi, e⟩ := List.getElem_of_mem hx
    have := (c.pr i _ (List.getElem?_eq_getElem hi)).1
    rw [e] at this
    simp at this
    omega
  have hput : (⟨ms.length, !decide (w ∈ ev p), w⟩ : Sh).put = decide (w ∉ ev p) := by simp
  have ed : D.tup [.int ms.length, .str (deedS (!decide (w ∈ ev p))), .str w] = (⟨ms.length, !decide (w ∈ ev p), w⟩ : Sh).d := rfl
  have epar : (⟨ms.length, !decide (w ∈ ev p), w⟩ : Sh).par = ms.length := rfl
  have ef : (⟨ms.length, !decide (w ∈ ev p), w⟩ : Sh).f = w := rfl
  have eb : (⟨ms.length, !decide (w ∈ ev p), w⟩ : Sh).put = !decide (w ∈ ev p) := rfl
  revert hput ed epar ef eb hnot
  generalize (⟨ms.length, !decide (w ∈ ev p), w⟩ : Sh) = t
  intro hnot hput ed epar ef eb
  have hnone : place ms t = none := by
    unfold place
    rw [Option.map_eq_none_iff, List.findIdx?_eq_none_iff]
    intro x hx
    simp
    rintro rfl
    exact hnot hx
  have hby : byD ms t = .tup [.tup (shD (ms ++ [t])), .int ((ms.length : Int) + 1)] := by
    unfold byD
    rw [hnone]
    rfl
  rw [hby]
  refine seq_step fun K hK => ?_
  simp [c6.gm, ed, SZ, shD_len]
  refine ⟨by omega, ?_⟩
  rw [hK]; clear hK K
  have es : shD ms ++ [t.d] = shD (ms ++ [t]) := by simp [shD]
  rw [es]
  have gm7 : getL (h6.set m (.lst (shD (ms ++ [t])))) m = some (shD (ms ++ [t])) := getL_set_self (getL_lt c6.gm)
  have gr7 : getL (h6.set m (.lst (shD (ms ++ [t])))) r = some ((ev p).map .str) := (getL_set_ne (Ne.symm c.ne.1)).trans (c6.gr p e1)
  have wd7 : ∀ s ∈ ms ++ [t], Word s.f := fun s hs => by
    rcases List.mem_append.mp hs with hs | hs
    · exact c.wd s hs
    · simp at hs; subst hs; rw [ef]; exact hw
  refine seq_step fun K hK => ?_
  clear hK
  simp
  refine told_ok (n := n + 1) (k := ms.length + 1) gm7 wd7 (by simp; omega) fun h8 k8 => ?_
  simp
  have hevl := ev_len p
  have hpl := e2.len
  refine behind_ok (n := n + 7) (F := ev p) (b := !decide (w ∈ ev p)) (k8.get gr7 (by simp)) (ev_word e3) hw (by omega) fun z h9 gz hz k9 => ?_
  have pt : Path (ms ++ [t]) (ms.length + 1) (t :: p) := .cons (by simp) (by omega) (by rw [epar]; exact e2.more)
  have ft : Fair (t :: p) := ⟨by rw [ef]; exact hput, by rw [ef]; exact hw, e3⟩
  have gz' : getL h9 z = some ((ev (t :: p)).map .str) := by
    rw [gz]
    show some ((behind (ev p) (!decide (w ∈ ev p)) w).map D.str) = some ((behind (ev p) t.put t.f).map D.str)
    rw [eb, ef]
  exact fieldsC_ok (n := n + 1) (k := ms.length + 1) (k9.get (k8.get gm7 (by simp)) (by simp)) pt ft gz' (by simp) (by simp; omega) fun h' _ => q h'
end Lw

namespace Lw
open PySem PySem.Spec PyProof.Rows L2 Rf
def bChainBody : MS := (.seq (.cond (.cmp .eq (.var 4) (.var 3)) (.seq (.set 10 (.var 9))
    .nil) .nil)
    (.seq (.set 5 (.idx (.var 1) (.call 6 (.cons (.var 0) (.cons (.bf .len (.cons (.var 1) .nil)) .nil)))))
    (.seq (.set 6 (.idx (.lst (.cons (.k (.str [112, 117, 116])) (.cons (.k (.str [100, 114, 111, 112])) .nil))) (.bf .int (.cons (.cmp .isin (.var 5) (.var 9)) .nil))))
    (.seq (.expr (.bm .append (.var 8) (.cons (.tup (.cons (.var 4) (.cons (.var 6) (.cons (.var 5) .nil)))) .nil)))
    (.seq (.set 9 (.call 10 (.cons (.var 9) (.cons (.var 6) (.cons (.var 5) .nil)))))
    .nil)))))
def bChain : MS := (.seq (.set 2 (.bin .add (.k (.int 100)) (.call 6 (.cons (.var 0) (.cons (.k (.int 201)) .nil)))))
    (.seq (.set 3 (.call 6 (.cons (.var 0) (.cons (.var 2) .nil))))
    (.seq (.setT [8, 9, 10] (.tup (.cons (.lst (.cons (.tup .nil) .nil)) (.cons (.lst .nil) (.cons (.lst .nil) .nil)))))
    (.seq (.for_ (.one 4) (.rng1 (.var 2)) bChainBody) bChainEnd))))
theorem chainBody_ok {n m r half r2 nm pp : Nat} {ms : List Sh} {Ps : List (List Sh)} {ws : List (List Nat)} {d2 d5 d6 d7 : Option D} {h : AH} {Z : En} {E : EK} (c : Cn h m ms Ps r half r2) (N : Nms h nm ws) (hp : Purse h pp) (hl : ms.length < 300)
    (hn : nm ≠ pp ∧ m ≠ pp ∧ r ≠ pp ∧ r2 ≠ pp ∧ nm ≠ m ∧ pp ≠ m)
    (q : ∀ (h' : AH) (t : Sh) (p : List Sh) (r' r2' : Nat) (e5 e6 : Option D), Cn h' m (ms ++ [t]) (Ps ++ [t :: p]) r' half r2' → Nms h' nm ws → Purse h' pp → r' ≠ pp → r2' ≠ pp →
      Z.nx [some (.ref pp), some (.ref nm), d2, some (.int half), some (.int ms.length), e5, e6, d7, some (.ref m), some (.ref r'), some (.ref r2')] h') :
    wS (wC prg (n + 8)) bChainBody [some (.ref pp), some (.ref nm), d2, some (.int half), some (.int ms.length), d5, d6, d7, some (.ref m), some (.ref r), some (.ref r2)] h Z E := by
  have l0 := N.l0
  have l1 := N.l1
  obtain ⟨p, e1, e2, e3⟩ := c.path (Nat.le_refl _)
  have hpl := e2.len
  have hevl := ev_len p
  -- the middle
  obtain ⟨r3, hr3⟩ : ∃ r3, r3 = if ms.length = half then r else r2 := ⟨_, rfl⟩
  have r3p : r3 ≠ pp := by rw [hr3]; split <;> simp [hn]
  have r3m : r3 ≠ m := by rw [hr3]; split <;> simp [c.ne]
  have g3 : half < ms.length + 1 → ∀ ph, Ps[half]? = some ph → getL h r3 = some ((ev ph).map .str) := fun hh ph hph => by
    rw [hr3]
    by_cases he : ms.length = half
    · simp only [he, if_true]
      exact c.gr ph (by rw [he]; exact hph)
    · simp only [he, if_false]
      exact c.g2 (by omega) ph hph
  unfold bChainBody
  refine seq_step fun K hK => ?_
  have hmid : wS (wC prg (n + 8)) (.cond (.cmp .eq (.var 4) (.var 3)) (.seq (.set 10 (.var 9)) .nil) .nil) [some (.ref pp), some (.ref nm), d2, some (.int half), some (.int ms.length), d5, d6, d7, some (.ref m), some (.ref r), some (.ref r2)] h { nx := K, rt := Z.rt, bk := Z.bk, ct := Z.ct } E =
      K [some (.ref pp), some (.ref nm), d2, some (.int half), some (.int ms.length), d5, d6, d7, some (.ref m), some (.ref r), some (.ref r3)] h := by
    by_cases he : ms.length = half
    · have e : r3 = r := by rw [hr3]; simp [he]
      simp [he, e]
    · have e : r3 = r2 := by rw [hr3]; simp [he]
      have he2 : ¬ (ms.length : Int) = half := by omega
      simp [he2, he, e]
  rw [hmid, hK]; clear hmid hK K
  refine seq_step fun K hK => ?_
  simp [N.g]
  refine take_ok p6 hp (by omega) (by omega) fun t h1 t0 t1 hp1 k1 _ => ?_
  obtain ⟨w, hw, hw2⟩ := N.pick t0 t1
  have N1 := N.keep k1 (by simpa using hn.1)
  have c1 := c.keep k1 (by simpa using hn.2.1) (by simpa using hn.2.2.1) (by simpa using hn.2.2.2.1)
  simp [N1.g, hw2]
  rw [hK]; clear hK K
  refine seq_step fun K hK => ?_
  have kg : Keep [] h1 (h1 ++ [.lst [.str sPut, .str sDrop]]) := .app
  have c2 : Cn (h1 ++ [.lst [.str sPut, .str sDrop]]) m ms Ps r half r2 := c1.keep (qs := []) .app (by simp) (by simp) (by simp)
  have o1 : D.ok 60 (.str w) = true := hw.ok
  have o2 : D.oks 59 ((ev p).map .str) = true := oks_str fun x hx => (ev_word e3 x hx).ok
  have dd' := dd (decide (w ∈ ev p))
  simp only [decide_eq_true_eq] at dd'
  simp [SZ, inW_ref, c2.gr p e1, o1, o2, mem_str, dd']
  rw [hK]; clear hK K
  revert c2 kg
  generalize h1 ++ [O.lst [D.str [112, 117, 116], D.str [100, 114, 111, 112]]] = g
  intro kg c2
  have k01 : Keep [pp] h g := k1.trans (kg.weak (by simp))
  have Ng := N.keep k01 (by simpa using hn.1)
  have hpg := hp1.keep kg (by simp)
  have hput : (⟨ms.length, !decide (w ∈ ev p), w⟩ : Sh).put = decide (w ∉ ev p) := by simp
  have ed : D.tup [.int ms.length, .str (deedS (!decide (w ∈ ev p))), .str w] = (⟨ms.length, !decide (w ∈ ev p), w⟩ : Sh).d := rfl
  have epar : (⟨ms.length, !decide (w ∈ ev p), w⟩ : Sh).par = ms.length := rfl
  have ef : (⟨ms.length, !decide (w ∈ ev p), w⟩ : Sh).f = w := rfl
  have eb : (⟨ms.length, !decide (w ∈ ev p), w⟩ : Sh).put = !decide (w ∈ ev p) := rfl
  revert hput ed epar ef eb
  generalize (⟨ms.length, !decide (w ∈ ev p), w⟩ : Sh) = t
  intro hput ed epar ef eb
  refine seq_step fun K hK => ?_
  simp [c2.gm, ed, SZ, shD_len]
  refine ⟨by omega, ?_⟩
  rw [hK]; clear hK K
  have es : shD ms ++ [t.d] = shD (ms ++ [t]) := by simp [shD]
  rw [es]
  have gmL := getL_lt c2.gm
  have gm7 : getL (g.set m (.lst (shD (ms ++ [t])))) m = some (shD (ms ++ [t])) := getL_set_self gmL
  have gr7 : getL (g.set m (.lst (shD (ms ++ [t])))) r = some ((ev p).map .str) := (getL_set_ne (Ne.symm c.ne.1)).trans (c2.gr p e1)
  refine seq_step fun K hK => ?_
  simp
  refine behind_ok (n := n + 7) (F := ev p) (b := !decide (w ∈ ev p)) gr7 (ev_word e3) hw (by omega) fun z h9 gz hz k9 => ?_
  rw [hK]; clear hK K
  have k79 : Keep [m] g h9 := (Keep.set (by simp)).trans (k9.weak (by simp))
  have hz' : g.length ≤ z := by simpa using hz
  have hpgl := hpg.lt
  refine q h9 t p z r3 _ _ ⟨k9.get gm7 (by simp), by simp [c.lp], fun i x hi => ?_, fun i s hs => ?_, fun x hx => ?_, fun hh x hx => ?_, ⟨by omega, r3m⟩, by simp; omega⟩ (Ng.keep k79 (by simpa using hn.2.2.2.2.1)) (hpg.keep k79 (by simpa using hn.2.2.2.2.2)) (by omega) r3p
  · by_cases hi2 : i < Ps.length
    · rw [List.getElem?_append_left hi2] at hi
      exact ⟨(c.pa i x hi).1.more, (c.pa i x hi).2⟩
    · have lp := c.lp
      have : i = Ps.length := by
        have := (List.getElem?_eq_some_iff.mp hi).1
        simp at this
        omega
      subst this
      simp at hi
      subst hi
      refine ⟨?_, by rw [ef]; exact hput, by rw [ef]; exact hw, e3⟩
      rw [lp]
      exact .cons (by simp) (by omega) (by rw [epar]; exact e2.more)
  · by_cases hi2 : i < ms.length
    · rw [List.getElem?_append_left hi2] at hs
      exact c.pr i s hs
    · have : i = ms.length := by
        have := (List.getElem?_eq_some_iff.mp hs).1
        simp at this
        omega
      subst this
      simp at hs
      subst hs
      exact ⟨epar, by rw [ef]; exact hw⟩
  · have e : x = t :: p := by
      have lp := c.lp
      rw [List.length_append, List.length_singleton, ← lp] at hx
      simp at hx
      exact hx.symm
    subst e
    rw [gz]
    show some ((behind (ev p) (!decide (w ∈ ev p)) w).map D.str) = some ((behind (ev p) t.put t.f).map D.str)
    rw [eb, ef]
  · have lp := c.lp
    simp at hh
    rw [List.getElem?_append_left (by omega)] at hx
    have ga := g3 hh x hx
    have gb := k01.get ga (by simpa using r3p)
    exact k79.get gb (by simpa using r3m)
end Lw

namespace Lw
open PySem PySem.Spec PyProof.Rows L2 Rf
theorem chain_ok {n nm pp : Nat} {ws : List (List Nat)} {h : AH} {Q : QD} {E : EC} (N : Nms h nm ws) (hp : Purse h pp) (hn : nm ≠ pp) (q : ∀ h', Q (.bl true) h') : wC prg (n + 9) 14 [.ref pp, .ref nm] h Q E := by
  refine call_ok (d := ⟨2, 11, bChain⟩) rfl rfl ?_
  simp only [startA, bChain]
  refine seq_step fun K hK => ?_
  simp
  refine take_ok p6 hp (by decide) (by decide) fun t h1 t0 t1 hp1 k1 _ => ?_
  simp
  rw [hK]; clear hK K
  refine seq_step fun K hK => ?_
  simp
  refine take_ok p6 hp1 (by omega) (by omega) fun u h2 u0 u1 hp2 k2 _ => ?_
  rw [hK]; clear hK K
  have N2 := (N.keep k1 (by simpa using hn)).keep k2 (by simpa using hn)
  obtain ⟨M, hM⟩ : ∃ M : Nat, (M : Int) = 100 + t := ⟨(100 + t).toNat, by omega⟩
  obtain ⟨half, hh⟩ : ∃ x : Nat, (x : Int) = u := ⟨u.toNat, by omega⟩
  rw [← hM] at u1 ⊢
  rw [← hh] at u0 u1 ⊢
  refine seq_step fun K hK => ?_
  simp [SZ]
  rw [hK]; clear hK K
  have a1 : getL (h2 ++ [.lst [.tup []], .lst [], .lst []]) h2.length = some [.tup []] := getL_iff.mpr (by simp)
  have a2 : getL (h2 ++ [.lst [.tup []], .lst [], .lst []]) (h2.length + 1) = some [] := getL_iff.mpr (by simp)
  have N3 := N2.keep (qs := []) (Keep.app (t := [.lst [.tup []], .lst [], .lst []])) (by simp)
  have hp3 := hp2.keep (ps := []) (Keep.app (t := [.lst [.tup []], .lst [], .lst []])) (by simp)
  have nL := getL_lt N2.g
  have pL := hp2.lt
  revert a1 a2 N3 hp3
  generalize h2 ++ [O.lst [D.tup []], .lst [], .lst []] = g
  intro a1 a2 N3 hp3
  have c0 : Cn g h2.length [] [[]] (h2.length + 1) half (h2.length + 2) := by
    refine ⟨a1, rfl, fun k p hk => ?_, fun i s hs => by simp at hs, fun p hp => ?_, fun hx => absurd hx (Nat.not_lt_zero _), ⟨by omega, by omega⟩, by simp⟩
    · cases k with
      | zero => simp at hk; subst hk; exact ⟨.nil, trivial⟩
      | succ k => simp at hk
    · simp at hp
      subst hp
      exact a2
  refine seq_step fun K hK => ?_
  simp
  refine ⟨by omega, ?_⟩
  refine forW_ind (fun xs s h3 => ∃ (ms : List Sh) (Ps : List (List Sh)) (r r2 : Nat) (e4 e5 e6 : Option D), ms.length ≤ M ∧ xs = (List.range' ms.length (M - ms.length)).map (fun (i : Nat) => D.int (i : Int)) ∧ Cn h3 h2.length ms Ps r half r2 ∧ Nms h3 nm ws ∧ Purse h3 pp ∧ r ≠ pp ∧ r2 ≠ pp ∧
      s = [some (.ref pp), some (.ref nm), some (.int M), some (.int half), e4, e5, e6, none, some (.ref h2.length), some (.ref r), some (.ref r2)])
    (fun s h3 ⟨ms, Ps, r, r2, e4, e5, e6, b1, b2, b3, b4, b5, b6, b7, b8⟩ => ⟨trivial, ?_⟩) (fun x xs s h3 K3 ⟨ms, Ps, r, r2, e4, e5, e6, b1, b2, b3, b4, b5, b6, b7, b8⟩ hK3 => ⟨trivial, ?_⟩) _ _ _ ⟨[], [[]], h2.length + 1, h2.length + 2, none, none, none, by simp, ?_, c0, N3, hp3, by omega, by omega, rfl⟩
  · subst b8
    have eM : ms.length = M := by
      have := congrArg List.length b2
      simp at this
      omega
    show K _ _
    rw [hK]
    rw [← eM]
    exact chainEnd_ok b3 b4 b5 (by omega) (by omega) ⟨hn, by omega, b6, b7⟩ q
  · subst b8
    cases qq : M - ms.length with
    | zero => rw [qq] at b2; simp at b2
    | succ k =>
      rw [qq] at b2
      simp [List.range'_succ] at b2
      obtain ⟨rfl, rfl⟩ := b2
      rw [tg_one]
      refine chainBody_ok (n := n) b3 b4 b5 (by omega) ⟨hn, by omega, b6, b7, by omega, by omega⟩ fun h' t p r' r2' f5 f6 c' N' hp' r'p r2'p => ?_
      refine hK3 _ _ ⟨ms ++ [t], Ps ++ [t :: p], r', r2', _, _, _, by simp; omega, ?_, c', N', hp', r'p, r2'p, rfl⟩
      have : M - (ms ++ [t]).length = k := by simp; omega
      rw [this]
      simp
  · rw [List.range_eq_range']
    simp
end Lw

namespace Lw
open PySem PySem.Spec PyProof.Rows L2 Rf
theorem law_true : ∀ ns : List Int, ns.length ≤ 63 → wC (rs.map (·.d)) 60 16 [.rol (ns.map .int)] [] (fun d _ => d = .bl true) fun _ _ => False := by
  intro ns _
  show wC prg (48 + 12) 16 _ _ _ _
  refine call_ok (d := ⟨1, 9, b_law⟩) rfl rfl ?_
  simp only [startA, b_law]
  refine seq_step fun K hK => ?_
  simp
  refine cell_ok (i := 0) p4 (by decide) fun c h0 k0 => ?_
  refine purse_ok p5 fun h1 hp1 k1 l1 => ?_
  rw [hK]; clear hK K
  generalize hpp : h0.length = pp at *
  refine seq_step fun K hK => ?_
  simp
  refine take_ok p6 hp1 (by decide) (by decide) fun size h2 s0 s1 hp2 k2 _ => ?_
  rw [hK]; clear hK K
  refine seq_step fun K hK => ?_
  simp
  refine take_ok p6 hp2 (by decide) (by decide) fun w h3 w0 w1 hp3 k3 _ => ?_
  simp
  rw [hK]; clear hK K
  refine seq_step fun K hK => ?_
  simp
  refine take_ok p6 hp3 (by decide) (by decide) fun many h4 m0 m1 hp4 k4 _ => ?_
  rw [hK]; clear hK K
  refine seq_step fun K hK => ?_
  simp [SZ]
  refine take_ok p6 hp4 (by decide) (by decide) fun t h5 t0 t1 hp5 k5 _ => ?_
  simp
  have hcount : ∃ cnt : Int, 1 ≤ cnt ∧ cnt ≤ 21 ∧ atI [D.int (1 + t), .int 21] (if size % 4 = 3 then 1 else 0) = some (.int cnt) := by
    by_cases hs : size % 4 = 3
    · exact ⟨21, by decide, by decide, by simp [hs]⟩
    · exact ⟨1 + t, by omega, by omega, by simp [hs]⟩
  obtain ⟨cnt, c0, c1, hc⟩ := hcount
  simp [hc]
  have hp6 := hp5.keep (ps := []) (Keep.app (t := [.lst [.int (1 + t), .int 21], .lst []])) (by simp)
  have pl5 := hp5.lt
  refine words_ok p8 p7 p6 rfl menu1_ok (us := []) hp6 (getL_new2 _ _ _) (by simp) (by omega) (by omega) (by simp; omega) fun ws h7 hw hwl _ hp7 k7 hlen => ?_
  rw [hK]; clear hK K
  have hnp : (h5 ++ [O.lst [D.int (1 + t), .int 21], .lst []]).length ≠ pp := by simp; omega
  have N : Nms h7 (h5 ++ [O.lst [D.int (1 + t), .int 21], .lst []]).length ws := ⟨hw.at_, hw.w, by omega, by omega⟩
  revert N hnp
  have e22 : (h5 ++ [O.lst [D.int (1 + t), .int 21], .lst []]).length = h5.length + 2 := by simp
  rw [e22]
  generalize h5.length + 2 = nm
  intro hnp N
  refine seq_step fun K hK => ?_
  by_cases hs5 : size = 5
  · simp [hs5]
    exact chain_ok (n := 50) N hp7 hnp fun _ => rfl
  · simp [hs5]
    rw [hK]; clear hK K
    refine seq_step fun K hK => ?_
    simp [SZ]
    rw [hK]; clear hK K
    have nL := getL_lt N.g
    have a1 : getL (h7 ++ [.lst [.tup []], .lst [], .lst [.ref (h7.length + 1)]]) h7.length = some [.tup []] := getL_iff.mpr (by simp)
    have a2 : getL (h7 ++ [.lst [.tup []], .lst [], .lst [.ref (h7.length + 1)]]) (h7.length + 1) = some [] := getL_iff.mpr (by simp)
    have a3 : getL (h7 ++ [.lst [.tup []], .lst [], .lst [.ref (h7.length + 1)]]) (h7.length + 2) = some [.ref (h7.length + 1)] := getL_iff.mpr (by simp)
    have N3 := N.keep (qs := []) (Keep.app (t := [.lst [.tup []], .lst [], .lst [.ref (h7.length + 1)]])) (by simp)
    revert a1 a2 a3 N3
    generalize h7 ++ [O.lst [D.tup []], .lst [], .lst [.ref (h7.length + 1)]] = g
    intro a1 a2 a3 N3
    have S0 : St g h7.length (h7.length + 2) [] [[]] [h7.length + 1] := by
      refine ⟨a1, a3, by omega, rfl, rfl, fun k p hk => ?_, fun k p r hk hr => ?_, fun r hr => by simp at hr; omega, List.nodup_nil, by simp, by simp⟩
      · cases k with
        | zero => simp at hk; subst hk; exact ⟨.nil, trivial⟩
        | succ k => simp at hk
      · cases k with
        | zero => simp at hk hr; subst hk hr; exact a2
        | succ k => simp at hk
    have nf : nm ≠ h7.length ∧ nm ≠ h7.length + 2 := ⟨by omega, by omega⟩
    refine seq_step fun K hK => ?_
    simp
    refine ⟨by omega, ?_⟩
    refine forW_ind (fun xs s h2 => ∃ (j : Nat) (ms : List Sh) (Ps : List (List Sh)) (refs : List Nat) (e6 : Option D), j ≤ many.toNat ∧ xs = (List.range' j (many.toNat - j)).map (fun (i : Nat) => D.int (i : Int)) ∧ ms.length ≤ j ∧ St h2 h7.length (h7.length + 2) ms Ps refs ∧ Nms h2 nm ws ∧
        s = [some (.rol (ns.map .int)), some (.ref pp), some (.int size), some (.int (1 - 2 * w)), some (.int many), some (.ref nm), e6, some (.ref h7.length), some (.ref (h7.length + 2))])
      (fun s h2 ⟨j, ms, Ps, refs, e6, b1, b2, b3, b4, b5, b6⟩ => ⟨trivial, ?_⟩) (fun x xs s h2 K2 ⟨j, ms, Ps, refs, e6, b1, b2, b3, b4, b5, b6⟩ hK2 => ⟨trivial, ?_⟩) _ _ _ ⟨0, [], [[]], [h7.length + 1], none, by omega, ?_, by simp, S0, N3, rfl⟩
    · subst b6
      show K _ _
      rw [hK]; clear hK K
      have le := b4.le
      have m2 := getL_lt b4.gm
      refine seq_step fun K hK => ?_
      simp [b4.gm, shD_len, SZ]
      have hway : 1 - 2 * w = 1 ∨ 1 - 2 * w = -1 := by omega
      refine ⟨by omega, hway, ?_⟩
      rw [getL_new2, optK_some]
      have S5 : St (h2 ++ [.lst ((List.range (ms.length + 1)).map fun (i : Nat) => D.int (i : Int)), .lst (stepL ((List.range (ms.length + 1)).map fun (i : Nat) => D.int (i : Int)) (1 - 2 * w))]) h7.length (h7.length + 2) ms Ps refs := b4.keep0 .app
      refine forW_ind (fun xs s h3 => (∀ x ∈ xs, ∃ k : Nat, k ≤ ms.length ∧ x = .int k) ∧ St h3 h7.length (h7.length + 2) ms Ps refs ∧ getL h3 (h2.length + 1) = some (stepL ((List.range (ms.length + 1)).map fun (i : Nat) => D.int (i : Int)) (1 - 2 * w)) ∧
          ∃ f6 : Option D, s = [some (.rol (ns.map .int)), some (.ref pp), some (.int size), some (.int (1 - 2 * w)), some (.int many), some (.ref nm), f6, some (.ref h7.length), some (.ref (h7.length + 2))])
        (fun s h3 ⟨_, _, g3, f6, f7⟩ => ⟨g3, ?_⟩) (fun x xs s h3 K3 ⟨f1, f2, f3, f6, f7⟩ hK3 => ⟨f3, ?_⟩) _ _ _ ⟨fun x hx => ?_, S5, getL_new2 _ _ _, _, rfl⟩
      · subst f7
        show K _ _
        rw [hK]
        simp
      · subst f7
        obtain ⟨k, hk, rfl⟩ := f1 x List.mem_cons_self
        rw [tg_one]
        obtain ⟨p, r, e1, e2, e3, e4, e5, _⟩ := f2.ref hk
        simp only [List.set_cons_succ, List.set_cons_zero]
        refine seq_step fun K4 hK4 => ?_
        simp [f2.gf, idx_ref e2]
        refine fieldsC_ok (n := 52) f2.gm e4 e5 e3 hk (by omega) fun h4 k4 => ?_
        simp
        rw [hK4]; clear hK4 K4
        have S6 := f2.keep0 k4
        refine seq_step fun K4 hK4 => ?_
        have fin : ∀ h', Keep [] h4 h' → K3 [some (.rol (ns.map .int)), some (.ref pp), some (.int size), some (.int (1 - 2 * w)), some (.int many), some (.ref nm), some (.int k), some (.ref h7.length), some (.ref (h7.length + 2))] h' := fun h' k5 =>
          hK3 _ _ ⟨fun y hy => f1 y (List.mem_cons_of_mem _ hy), S6.keep0 k5, (k4.trans k5).get f3 (by simp), _, rfl⟩
        cases k with
        | zero =>
          simp
          rw [hK4]
          simp
          exact fin _ .refl
        | succ j =>
          have hj0 : (0 : Int) < (j : Int) + 1 := by omega
          simp [hj0]
          refine again_ok (n := 51) S6.gm e4 e5 S6.wd (by omega) S6.nd fun h5 k5 => ?_
          simp
          rw [hK4]
          simp
          simpa using fin _ k5
      · have hx' : x ∈ (List.range (ms.length + 1)).map fun (i : Nat) => D.int (i : Int) := by
          rcases hway with e | e
          · rw [e] at hx; simpa [stepL] using hx
          · rw [e] at hx; simpa [stepL] using hx
        obtain ⟨k, hk, rfl⟩ := List.mem_map.mp hx'
        exact ⟨k, by have := List.mem_range.mp hk; omega, rfl⟩
    · subst b6
      cases qq : many.toNat - j with
      | zero => rw [qq] at b2; simp at b2
      | succ k =>
        rw [qq] at b2
        simp [List.range'_succ] at b2
        obtain ⟨rfl, rfl⟩ := b2
        simp
        have ej : (1 : Int) + (j : Int) = ((1 + j : Nat) : Int) := by omega
        rw [ej]
        refine cell_ok (i := 1 + j) p4 (by omega) fun c2 h3 k3 => ?_
        refine step_ok (n := 50) (b4.keep0 k3) (by omega) (b5.keep k3 (by simp)) fun ms' Ps' refs' h' S' hl' kk => ?_
        simp
        refine hK2 _ _ ⟨j + 1, ms', Ps', refs', _, by omega, ?_, by omega, S', (b5.keep k3 (by simp)).keep kk (by simpa using nf), rfl⟩
        have : many.toNat - (j + 1) = k := by omega
        rw [this]
    · rw [List.range_eq_range']
      simp
end Lw

set_option maxHeartbeats 0
namespace Lw
open PySem PySem.Spec PyProof.Rows L2 Rf
/-! ### the head -/
def top (i : Nat) : Stmt := PySem.Challenge.pw_warmrows_k19_shapes_by_puts_and_drops.main.body.getD i (.Pass ⟨0, 0, 0, 0⟩)
def h_is_shape : He.DefD := ⟨("is_shape", none), "is_shape", "is_shape", defArgs (top 5), defBody (top 5), defScope (top 5), [], []⟩
def h_fields_at : He.DefD := ⟨("fields_at", none), "fields_at", "fields_at", defArgs (top 6), defBody (top 6), defScope (top 6), [], []⟩
def h_child_of : He.DefD := ⟨("child_of", none), "child_of", "child_of", defArgs (top 7), defBody (top 7), defScope (top 7), [], []⟩
def h_shape_by : He.DefD := ⟨("shape_by", none), "shape_by", "shape_by", defArgs (top 8), defBody (top 8), defScope (top 8), [], []⟩
def h__law_cell : He.DefD := ⟨("_law_cell", none), "_law_cell", "_law_cell", defArgs (top 10), defBody (top 10), defScope (top 10), [], []⟩
def h__law_purse : He.DefD := ⟨("_law_purse", none), "_law_purse", "_law_purse", defArgs (top 11), defBody (top 11), defScope (top 11), [], []⟩
def h__law_take : He.DefD := ⟨("_law_take", none), "_law_take", "_law_take", defArgs (top 12), defBody (top 12), defScope (top 12), [], []⟩
def h__law_word : He.DefD := ⟨("_law_word", none), "_law_word", "_law_word", defArgs (top 13), defBody (top 13), defScope (top 13), [], []⟩
def h__law_words : He.DefD := ⟨("_law_words", none), "_law_words", "_law_words", defArgs (top 14), defBody (top 14), defScope (top 14), [], []⟩
def h__law_same : He.DefD := ⟨("_law_same", none), "_law_same", "_law_same", defArgs (top 15), defBody (top 15), defScope (top 15), [], []⟩
def h__law_behind : He.DefD := ⟨("_law_behind", none), "_law_behind", "_law_behind", defArgs (top 16), defBody (top 16), defScope (top 16), [], []⟩
def h__law_told : He.DefD := ⟨("_law_told", none), "_law_told", "_law_told", defArgs (top 17), defBody (top 17), defScope (top 17), [], []⟩
def h__law_fields : He.DefD := ⟨("_law_fields", none), "_law_fields", "_law_fields", defArgs (top 18), defBody (top 18), defScope (top 18), [], []⟩
def h__law_again : He.DefD := ⟨("_law_again", none), "_law_again", "_law_again", defArgs (top 19), defBody (top 19), defScope (top 19), [], []⟩
def h__law_chain : He.DefD := ⟨("_law_chain", none), "_law_chain", "_law_chain", defArgs (top 20), defBody (top 20), defScope (top 20), [], []⟩
def h__law_step : He.DefD := ⟨("_law_step", none), "_law_step", "_law_step", defArgs (top 21), defBody (top 21), defScope (top 21), [], []⟩
def h_law : He.DefD := ⟨("law", none), "law", "law", defArgs (top 22), defBody (top 22), defScope (top 22), [], []⟩
def hs : List He.DefD := [h_is_shape, h_fields_at, h_child_of, h_shape_by, h__law_cell, h__law_purse, h__law_take, h__law_word, h__law_words, h__law_same, h__law_behind, h__law_told, h__law_fields, h__law_again, h__law_chain, h__law_step, h_law]
def nm0 : List PySem.Str := ["RowError", "NoShape", "NoField", "is_shape", "fields_at", "child_of", "shape_by", "_law_cell", "_law_purse", "_law_take", "_law_word", "_law_words", "_law_same", "_law_behind", "_law_told", "_law_fields", "_law_again", "_law_chain", "_law_step"]
def names : List PySem.Str := nm0
abbrev R : PySem.W.OpenRow := PySem.W.OpenLaw.row PySem.Challenge.rw_warmrows_k19_shapes_by_puts_and_drops
abbrev hk : PySem.W.Hook := hookR 4 G hs
def ob (s : PySem.W.SharedT) : He.AlD := obsRG 4 G hs (HandSHeadRun.getT s)
theorem ob_eq (s : PySem.W.SharedT) : ob s = hk.obs s.abs := obsRG_eq (HandSHeadRun.getT_eq s)
theorem run (w : World) : HandSHeadRun.RunEq R (PySem.W.view R.prog [22]) hk ob 20000 names w := by
  intro os
  kernel_rfl
theorem c_is_shape : rwC G r_is_shape h_is_shape = true := by decide +kernel
theorem bi_is_shape : BindsR r_is_shape h_is_shape := fun _ _ _ _ _ _ us hl => match us, hl with | [_, _], _ => rfl
theorem c_fields_at : rwC G r_fields_at h_fields_at = true := by decide +kernel
theorem bi_fields_at : BindsR r_fields_at h_fields_at := fun _ _ _ _ _ _ us hl => match us, hl with | [_, _], _ => rfl
theorem c_child_of : rwC G r_child_of h_child_of = true := by decide +kernel
theorem bi_child_of : BindsR r_child_of h_child_of := fun _ _ _ _ _ _ us hl => match us, hl with | [_, _, _, _], _ => rfl
theorem c_shape_by : rwC G r_shape_by h_shape_by = true := by decide +kernel
theorem bi_shape_by : BindsR r_shape_by h_shape_by := fun _ _ _ _ _ _ us hl => match us, hl with | [_, _, _, _], _ => rfl
theorem c__law_cell : rwC G r__law_cell h__law_cell = true := by decide +kernel
theorem bi__law_cell : BindsR r__law_cell h__law_cell := fun _ _ _ _ _ _ us hl => match us, hl with | [_, _], _ => rfl
theorem c__law_purse : rwC G r__law_purse h__law_purse = true := by decide +kernel
theorem bi__law_purse : BindsR r__law_purse h__law_purse := fun _ _ _ _ _ _ us hl => match us, hl with | [_], _ => rfl
theorem c__law_take : rwC G r__law_take h__law_take = true := by decide +kernel
theorem bi__law_take : BindsR r__law_take h__law_take := fun _ _ _ _ _ _ us hl => match us, hl with | [_, _], _ => rfl
theorem c__law_word : rwC G r__law_word h__law_word = true := by decide +kernel
theorem bi__law_word : BindsR r__law_word h__law_word := fun _ _ _ _ _ _ us hl => match us, hl with | [_, _], _ => rfl
theorem c__law_words : rwC G r__law_words h__law_words = true := by decide +kernel
theorem bi__law_words : BindsR r__law_words h__law_words := fun _ _ _ _ _ _ us hl => match us, hl with | [_, _, _], _ => rfl
theorem c__law_same : rwC G r__law_same h__law_same = true := by decide +kernel
theorem bi__law_same : BindsR r__law_same h__law_same := fun _ _ _ _ _ _ us hl => match us, hl with | [_, _], _ => rfl
theorem c__law_behind : rwC G r__law_behind h__law_behind = true := by decide +kernel
theorem bi__law_behind : BindsR r__law_behind h__law_behind := fun _ _ _ _ _ _ us hl => match us, hl with | [_, _, _], _ => rfl
theorem c__law_told : rwC G r__law_told h__law_told = true := by decide +kernel
theorem bi__law_told : BindsR r__law_told h__law_told := fun _ _ _ _ _ _ us hl => match us, hl with | [_, _, _], _ => rfl
theorem c__law_fields : rwC G r__law_fields h__law_fields = true := by decide +kernel
theorem bi__law_fields : BindsR r__law_fields h__law_fields := fun _ _ _ _ _ _ us hl => match us, hl with | [_, _, _], _ => rfl
theorem c__law_again : rwC G r__law_again h__law_again = true := by decide +kernel
theorem bi__law_again : BindsR r__law_again h__law_again := fun _ _ _ _ _ _ us hl => match us, hl with | [_, _], _ => rfl
theorem c__law_chain : rwC G r__law_chain h__law_chain = true := by decide +kernel
theorem bi__law_chain : BindsR r__law_chain h__law_chain := fun _ _ _ _ _ _ us hl => match us, hl with | [_, _], _ => rfl
theorem c__law_step : rwC G r__law_step h__law_step = true := by decide +kernel
theorem bi__law_step : BindsR r__law_step h__law_step := fun _ _ _ _ _ _ us hl => match us, hl with | [_, _, _, _], _ => rfl
theorem c_law : rwC G r_law h_law = true := by decide +kernel
theorem bi_law : BindsR r_law h_law := fun _ _ _ _ _ _ us hl => match us, hl with | [_], _ => rfl
theorem rws : Rws G rs hs := .cons c_is_shape bi_is_shape (.cons c_fields_at bi_fields_at (.cons c_child_of bi_child_of (.cons c_shape_by bi_shape_by (.cons c__law_cell bi__law_cell (.cons c__law_purse bi__law_purse (.cons c__law_take bi__law_take (.cons c__law_word bi__law_word (.cons c__law_words bi__law_words (.cons c__law_same bi__law_same (.cons c__law_behind bi__law_behind (.cons c__law_told bi__law_told (.cons c__law_fields bi__law_fields (.cons c__law_again bi__law_again (.cons c__law_chain bi__law_chain (.cons c__law_step bi__law_step (.cons c_law bi_law (.nil)))))))))))))))))
end Lw
open PySem PySem.W PySem.Calls PyProof.Rows
theorem PySem.Challenge.cw_warmrows_k19_shapes_by_puts_and_drops_holds : PySem.Challenge.rw_warmrows_k19_shapes_by_puts_and_drops.Holds := by
  w_on; o_law
  refine HandSHeadRun.head_any (r := OpenLaw.row PySem.Challenge.rw_warmrows_k19_shapes_by_puts_and_drops) (q := view (OpenLaw.row PySem.Challenge.rw_warmrows_k19_shapes_by_puts_and_drops).prog [22]) (H := Lw.hk) (ob := Lw.ob) (M := 20000) (loose := Lw.names) (d := HandSHeadRun.topDef (OpenLaw.row PySem.Challenge.rw_warmrows_k19_shapes_by_puts_and_drops).prog 22) (kwd := []) Lw.ob_eq
    (by kernel_rfl) (fun s => by kernel_rfl) Lw.run (by kernel_rfl) (by kernel_rfl) (by kernel_rfl) (by rfl) (by first | assumption | decide +kernel) (by decide +kernel) ⟨rfl, rfl, rfl, rfl, rfl, by decide +kernel⟩ ?hw ?hc
  case hw => w_witness2
  case hc =>
    refine Rf.walk_M (l := PySem.Challenge.rw_warmrows_k19_shapes_by_puts_and_drops) (k := 60) (n := 63) (x := "_law_script") (G := Lw.G) (fn := Lw.hs) (rs := Lw.rs) (f := 16) rfl (by decide) (by kernel_rfl) ⟨rfl, by decide, by decide⟩ rfl Lw.rws (r := Lw.r_law) rfl rfl (by kernel_rfl) Lw.law_true
