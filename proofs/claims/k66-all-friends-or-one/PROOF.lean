import PyProof.Rows.All
import Wide.All
import OpenK.AllK
import Wide.FinOn
import HandS.ForMost
import PyProof.ReprRoads
import HandS.ExcOwn
import KE.GoesEnum
import KE.GoesMore
import HandS.Zip
import HandS.TupAny
import HandS.TupMul
import HandS.Conv
import HandS.IsInst
import HandS.SortInts
import HandS.Ends
import HandS.TryOnly
import HandS.Deep
import HandS.TupLe
import HandS.Strs
import HandS.Style
import KE.DataMinMax
import KE.SortData
import HandS.SetFor
import HandS.TupSets
import HandS.Iter
import KE.KDictPairs
import HandS.ExcInit
import HandS.ExcIs
import HandS.ExcField
import HandS.FStr
import HandS.FStrTup
import KE.KExcInit
import KE.KTryMore
import PyProof.ExcBaseAll.LookupError
import PyProof.ExcBaseAll.OverflowError
import PyProof.ExcBaseAll.RuntimeError
import PyProof.ExcBaseAll.ValueError
import KE.KExcIs
import HandS.WordsExc
import PyProof.ReprLen
import PyProof.FitsInt
import PySem.Challenge.RW_enoughcame_k66_whole_all_friends_or_one
set_option Elab.async false
set_option linter.all false
set_option maxRecDepth 100000
set_option maxHeartbeats 4000000
/-! a logic of pure data and own cells, over the readings of the layer -/
namespace Ec
open PySem PySem.Spec PyProof.Rows L2

/-! ### heaps that grow -/
theorem same_t {K : PySem.W.Frag} {H H' : Hp} {a : Addr} {xs : List V} (e : Same H H') (h : SqT K H a xs) : SqT K H' a xs := by
  rcases h with (h | ⟨o, h⟩) | h
  · exact .inl (.inl (e _ _ h))
  · exact .inl (.inr ⟨o, e _ _ h⟩)
  · exact .inr h
theorem same_new {H : Hp} {p : Addr} {o : HO} (h : H p = none) : Same H (upd H p o) := fun b x e => by
  rw [upd_ne (ne_of_none e h)]
  exact e
/-! ### data: tuples have no dict of their own -/
mutual
inductive De (K : PySem.W.Frag) (F : Hp) : V → PyData → Prop
  | non : De K F .non .none
  | bl (b : Bool) : De K F (.bl b) (.bool b)
  | int (i : Int) : De K F (.int i) (.int i)
  | str (x : Str) : De K F (.str x) (.str x)
  | lst {a : Addr} {vs : List V} {ds : List PyData} (h : F a = some (.lst vs)) (g : DeAll K F vs ds) : De K F (.ref a) (.list ds)
  | tup {a : Addr} {vs : List V} {ds : List PyData} {o : Obj} (h : F a = some (.frz o (.tup vs))) (n : o.dict = none) (g : DeAll K F vs ds) : De K F (.ref a) (.tuple ds)
inductive DeAll (K : PySem.W.Frag) (F : Hp) : List V → List PyData → Prop
  | nil : DeAll K F [] []
  | cons {v : V} {vs : List V} {d : PyData} {ds : List PyData} (h : De K F v d) (g : DeAll K F vs ds) : DeAll K F (v :: vs) (d :: ds)
end
mutual
theorem De.dp {K : PySem.W.Frag} {F : Hp} : ∀ {d : PyData} {v : V}, De K F v d → Dp K F v d
  | .none, _, h => by cases h; exact .non
  | .bool b, _, h => by cases h; exact .bl b
  | .int i, _, h => by cases h; exact .int i
  | .str x, _, h => by cases h; exact .str x
  | .list ds, _, h => by
    cases h with
    | lst hs ha => exact .lst (.of hs) ha.dps
  | .tuple ds, _, h => by
    cases h with
    | tup hs hn ha => exact .tup (.inl (.inr ⟨_, hs⟩)) ha.dps
  | .dict _, _, h => by cases h
theorem DeAll.dps {K : PySem.W.Frag} {F : Hp} : ∀ {ds : List PyData} {vs : List V}, DeAll K F vs ds → DpAll K F vs ds
  | [], _, h => by cases h; exact .nil
  | d :: ds, _, h => by
    cases h with
    | cons h1 h2 => exact .cons h1.dp h2.dps
end
mutual
theorem dp_up {K : PySem.W.Frag} {H H' : Hp} (e : Same H H') : ∀ (d : PyData) (v : V), De K H v d → De K H' v d
  | .none, _, h => by cases h; exact .non
  | .bool b, _, h => by cases h; exact .bl b
  | .int i, _, h => by cases h; exact .int i
  | .str x, _, h => by cases h; exact .str x
  | .list ds, _, h => by
    cases h with
    | lst hs ha => exact .lst (e _ _ hs) (dps_up e ds _ ha)
  | .tuple ds, _, h => by
    cases h with
    | tup hs hn ha => exact .tup (e _ _ hs) hn (dps_up e ds _ ha)
  | .dict _, _, h => by cases h
theorem dps_up {K : PySem.W.Frag} {H H' : Hp} (e : Same H H') : ∀ (ds : List PyData) (vs : List V), DeAll K H vs ds → DeAll K H' vs ds
  | [], _, h => by cases h; exact .nil
  | d :: ds, _, h => by
    cases h with
    | cons h1 h2 => exact .cons (dp_up e d _ h1) (dps_up e ds _ h2)
end
theorem dps_len {K : PySem.W.Frag} {H : Hp} : ∀ {ds : List PyData} {vs : List V}, DeAll K H vs ds → vs.length = ds.length
  | [], _, h => by cases h; rfl
  | d :: ds, _, h => by
    cases h with
    | cons h1 h2 => simp only [List.length_cons, dps_len h2]
theorem dps_get {K : PySem.W.Frag} {H : Hp} : ∀ {ds : List PyData} {vs : List V} {i : Nat} {d : PyData}, DeAll K H vs ds → ds[i]? = some d → ∃ v, vs[i]? = some v ∧ De K H v d
  | [], _, _, _, _, e => by simp at e
  | d :: ds, _, 0, _, h, e => by
    cases h with
    | cons h1 h2 =>
      simp at e
      subst e
      exact ⟨_, rfl, h1⟩
  | d :: ds, _, i + 1, x, h, e => by
    cases h with
    | cons h1 h2 =>
      obtain ⟨v, e1, e2⟩ := dps_get (i := i) (d := x) h2 (by simpa using e)
      exact ⟨v, by simpa using e1, e2⟩
theorem dps_app {K : PySem.W.Frag} {H : Hp} : ∀ {ds es : List PyData} {vs ws : List V}, DeAll K H vs ds → DeAll K H ws es → DeAll K H (vs ++ ws) (ds ++ es)
  | [], _, _, _, h, g => by cases h; exact g
  | d :: ds, _, _, _, h, g => by
    cases h with
    | cons h1 h2 => exact .cons h1 (dps_app h2 g)
theorem dps_take {K : PySem.W.Frag} {H : Hp} : ∀ {ds : List PyData} {vs : List V} (n : Nat), DeAll K H vs ds → DeAll K H (vs.take n) (ds.take n)
  | _, _, 0, _ => by simpa using DeAll.nil
  | [], _, n + 1, h => by cases h; simpa using DeAll.nil
  | d :: ds, _, n + 1, h => by
    cases h with
    | cons h1 h2 => exact .cons h1 (dps_take n h2)
theorem dps_drop {K : PySem.W.Frag} {H : Hp} : ∀ {ds : List PyData} {vs : List V} (n : Nat), DeAll K H vs ds → DeAll K H (vs.drop n) (ds.drop n)
  | _, _, 0, h => h
  | [], _, n + 1, h => by cases h; simpa using DeAll.nil
  | d :: ds, _, n + 1, h => by
    cases h with
    | cons h1 h2 => exact dps_drop n h2
theorem dps_set {K : PySem.W.Frag} {H : Hp} {v : V} {d : PyData} (hv : De K H v d) : ∀ {ds : List PyData} {vs : List V} (n : Nat), DeAll K H vs ds → DeAll K H (vs.set n v) (ds.set n d)
  | [], _, _, h => by cases h; exact .nil
  | _ :: _, _, 0, h => by
    cases h with
    | cons h1 h2 => exact .cons hv h2
  | _ :: _, _, n + 1, h => by
    cases h with
    | cons h1 h2 => exact .cons h1 (dps_set hv n h2)
theorem dp_int {K : PySem.W.Frag} {H : Hp} {v : V} {i : Int} (h : De K H v (.int i)) : v = .int i := by cases h; rfl
theorem dp_bl {K : PySem.W.Frag} {H : Hp} {v : V} {b : Bool} (h : De K H v (.bool b)) : v = .bl b := by cases h; rfl
theorem dp_non {K : PySem.W.Frag} {H : Hp} {v : V} (h : De K H v .none) : v = .non := by cases h; rfl
theorem dp_str {K : PySem.W.Frag} {H : Hp} {v : V} {x : Str} (h : De K H v (.str x)) : v = .str x := by cases h; rfl
theorem dp_lst {K : PySem.W.Frag} {H : Hp} {v : V} {ds : List PyData} (h : De K H v (.list ds)) : ∃ a vs, v = .ref a ∧ SqL K H a vs ∧ DeAll K H vs ds := by
  cases h with
  | lst h1 h2 => exact ⟨_, _, rfl, .of h1, h2⟩
theorem dp_lstX {K : PySem.W.Frag} {H : Hp} {v : V} {ds : List PyData} (h : De K H v (.list ds)) : ∃ a vs, v = .ref a ∧ H a = some (.lst vs) ∧ DeAll K H vs ds := by
  cases h with
  | lst h1 h2 => exact ⟨_, _, rfl, h1, h2⟩
theorem dp_tupX {K : PySem.W.Frag} {H : Hp} {v : V} {ds : List PyData} (h : De K H v (.tuple ds)) : ∃ a vs o, v = .ref a ∧ H a = some (.frz o (.tup vs)) ∧ o.dict = none ∧ DeAll K H vs ds := by
  cases h with
  | tup h1 h2 h3 => exact ⟨_, _, _, rfl, h1, h2, h3⟩
theorem dp_tup {K : PySem.W.Frag} {H : Hp} {v : V} {ds : List PyData} (h : De K H v (.tuple ds)) : ∃ a vs, v = .ref a ∧ SqT K H a vs ∧ DeAll K H vs ds := by
  obtain ⟨a, vs, o, e, h1, _, h3⟩ := dp_tupX h
  exact ⟨a, vs, e, .inl (.inr ⟨o, h1⟩), h3⟩
abbrev intsD (ns : List Int) : List PyData := ns.map PyData.int
theorem dps_ints {K : PySem.W.Frag} {H : Hp} : ∀ {ns : List Int} {vs : List V}, DeAll K H vs (intsD ns) → vs = ns.map V.int
  | [], _, h => by cases h; rfl
  | n :: ns, _, h => by
    cases h with
    | cons h1 h2 =>
      rw [dp_int h1, dps_ints h2]
      rfl
theorem ints_dps {K : PySem.W.Frag} {H : Hp} : ∀ (ns : List Int), DeAll K H (ns.map V.int) (intsD ns)
  | [] => .nil
  | n :: ns => .cons (.int n) (ints_dps ns)
theorem dps_bls {K : PySem.W.Frag} {H : Hp} : ∀ {ns : List Bool} {vs : List V}, DeAll K H vs (ns.map PyData.bool) → vs = ns.map V.bl
  | [], _, h => by cases h; rfl
  | n :: ns, _, h => by
    cases h with
    | cons h1 h2 =>
      rw [dp_bl h1, dps_bls h2]
      rfl

/-- a cell's content: a list's items; a dict's pairs, keys ints; keys tuples of ints -/
inductive Cont where
  | l (ds : List PyData)
  | i (kvs : List (Int × PyData))
  | t (kvs : List (List Int × PyData))
instance : Coe (List PyData) Cont := ⟨Cont.l⟩
def hashI (k : List Int) : Int := reduceHash (Builtin.Tuple.tupleHashOf (k.map hashInt))
/-- the entries of a dict whose keys are tuples of ints -/
def DTO (a : Addr) (xs : List (List Int × Addr × Value)) : HO := .ext fun h => (a == sysModules) = false ∧ ∃ o es ep, h.get? a = some o ∧ o.ExactDict ∧ o.data = .dict es ep ∧ es.toList = xs.map (fun x => { hash := hashI x.1, key := .ref x.2.1, val := x.2.2 }) ∧ (xs.map (·.1)).Nodup
/-- x's entry stands for the pair p -/
def DtE (K : PySem.W.Frag) (F : Hp) (x : List Int × Addr × Value) (p : List Int × PyData) : Prop := x.1 = p.1 ∧ (∃ o, F x.2.1 = some (.frz o (.tup (p.1.map V.int))) ∧ o.dict = none) ∧ ∃ w, RelV w x.2.2 ∧ De K F w p.2
/-- a dict that changes no more: known twice over -/
def ZkOk (K : PySem.W.Frag) (F : Hp) (p : Addr) (kvs : List (List Int × PyData)) : Prop := ∃ (od : Obj) (xs : List (List Int × Addr × Value)), F p = some (.frz od (.frz od (DTO p xs))) ∧ Paired (DtE K F) xs kvs
theorem ZkOk.up {K : PySem.W.Frag} {F F' : Hp} {p : Addr} {kvs : List (List Int × PyData)} (e : Same F F') (h : ZkOk K F p kvs) : ZkOk K F' p kvs := by
  obtain ⟨od, xs, h1, h2⟩ := h
  exact ⟨od, xs, e _ _ h1, Paired.mapP h2 fun x p ⟨e1, ⟨o, e2, e3⟩, w, e4, e5⟩ => ⟨e1, ⟨o, e _ _ e2, e3⟩, w, e4, dp_up e _ _ e5⟩⟩
/-! ### contents with pointers to other cells -/
def ptr (p : Addr) : PyData := .dict [(.int p, .none)]
/-- such a dict as an item -/
def zd (p : Addr) (kvs : List (List Int × PyData)) : PyData := .dict ((.int p, .str "z") :: kvs.map fun q => (.tuple (intsD q.1), q.2))
def isP : PyData → Bool
  | .dict _ => true
  | _ => false
inductive Dq (K : PySem.W.Frag) (F : Hp) : V → PyData → Prop
  | d {v : V} {x : PyData} (h : De K F v x) : Dq K F v x
  | p (a : Addr) : Dq K F (.ref a) (ptr a)
  | z {a : Addr} {kvs : List (List Int × PyData)} (h : ZkOk K F a kvs) : Dq K F (.ref a) (zd a kvs)
abbrev DqAll (K : PySem.W.Frag) (F : Hp) : List V → List PyData → Prop := Paired (Dq K F)
abbrev plS (ds : List PyData) : Prop := ∀ d ∈ ds, isP d = false
theorem Dq.up {K : PySem.W.Frag} {H H' : Hp} (e : Same H H') {v : V} {d : PyData} : Dq K H v d → Dq K H' v d
  | .d h => .d (dp_up e _ _ h)
  | .p a => .p a
  | .z h => .z (h.up e)
theorem dqs_up {K : PySem.W.Frag} {H H' : Hp} (e : Same H H') : ∀ (ds : List PyData) (vs : List V), DqAll K H vs ds → DqAll K H' vs ds
  | _, _, .nil => .nil
  | _, _, .cons h t => .cons (h.up e) (dqs_up e _ _ t)
theorem dqs_len {K : PySem.W.Frag} {H : Hp} : ∀ {ds : List PyData} {vs : List V}, DqAll K H vs ds → vs.length = ds.length
  | _, _, .nil => rfl
  | _, _, .cons _ t => by simp only [List.length_cons, dqs_len t]
theorem dqs_get {K : PySem.W.Frag} {H : Hp} : ∀ {ds : List PyData} {vs : List V} {i : Nat} {d : PyData}, DqAll K H vs ds → ds[i]? = some d → ∃ v, vs[i]? = some v ∧ Dq K H v d
  | _, _, _, _, .nil, e => by simp at e
  | _, _, 0, _, .cons h _, e => by
    simp at e
    subst e
    exact ⟨_, rfl, h⟩
  | _, _, i + 1, x, .cons _ t, e => by
    obtain ⟨v, e1, e2⟩ := dqs_get (i := i) (d := x) t (by simpa using e)
    exact ⟨v, by simpa using e1, e2⟩
theorem dqs_app {K : PySem.W.Frag} {H : Hp} : ∀ {ds es : List PyData} {vs ws : List V}, DqAll K H vs ds → DqAll K H ws es → DqAll K H (vs ++ ws) (ds ++ es)
  | _, _, _, _, .nil, g => g
  | _, _, _, _, .cons h t, g => .cons h (dqs_app t g)
theorem dqs_set {K : PySem.W.Frag} {H : Hp} {v : V} {d : PyData} (hv : Dq K H v d) : ∀ {ds : List PyData} {vs : List V} (n : Nat), DqAll K H vs ds → DqAll K H (vs.set n v) (ds.set n d)
  | _, _, _, .nil => .nil
  | _, _, 0, .cons _ t => .cons hv t
  | _, _, n + 1, .cons h t => .cons h (dqs_set hv n t)
theorem DqAll.of {K : PySem.W.Frag} {H : Hp} : ∀ {ds : List PyData} {vs : List V}, DeAll K H vs ds → DqAll K H vs ds
  | [], _, h => by
    cases h
    exact .nil
  | d :: ds, _, h => by
    cases h with
    | cons h1 h2 => exact .cons (.d h1) (DqAll.of h2)
theorem Dq.to {K : PySem.W.Frag} {H : Hp} {v : V} {d : PyData} (e : isP d = false) : Dq K H v d → De K H v d
  | .d h => h
  | .p a => by cases e
  | .z h => by cases e
theorem DqAll.to {K : PySem.W.Frag} {H : Hp} : ∀ {ds : List PyData} {vs : List V}, plS ds → DqAll K H vs ds → DeAll K H vs ds
  | _, _, _, .nil => .nil
  | _, _, e, .cons h t => .cons (h.to (e _ List.mem_cons_self)) (DqAll.to (fun d m => e d (List.mem_cons_of_mem _ m)) t)
theorem plS_map {α : Type} {l : List α} {f : α → PyData} (h : ∀ x, isP (f x) = false) : plS (l.map f) := fun d m => by
  obtain ⟨x, _, rfl⟩ := List.mem_map.mp m
  exact h x
theorem plS_app {as bs : List PyData} (h : plS as) (g : plS bs) : plS (as ++ bs) := fun d m => (List.mem_append.mp m).elim (h d) (g d)
theorem plS_nil : plS [] := fun _ h => by cases h
theorem plS_cons {a : PyData} {as : List PyData} (h : isP a = false) (g : plS as) : plS (a :: as) := fun d m => by
  rcases List.mem_cons.mp m with rfl | m
  · exact h
  · exact g d m

def CelOk (K : PySem.W.Frag) (F H : Hp) (b : Addr) : Cont → Prop
  | .l ds => ∃ vs, H b = some (.lst vs) ∧ DqAll K F vs ds
  | .i kvs => ∃ ws : List V, DeAll K F ws (kvs.map Prod.snd) ∧ H b = some (.dK (List.zipWith (fun k w => (Sum.inl k.1, w)) kvs ws))
  | .t kvs => ∃ xs, H b = some (DTO b xs) ∧ Paired (DtE K F) xs kvs
/-- a dict that is walked: locked -/
def LkOk (K : PySem.W.Frag) (F : Hp) (b : Addr) : Cont → Prop
  | .l _ => False
  | .i kvs => ∃ (od : Obj) (ws : List V), DeAll K F ws (kvs.map Prod.snd) ∧ F b = some (.frz od (.dK (List.zipWith (fun k w => (Sum.inl k.1, w)) kvs ws)))
  | .t kvs => ∃ (od : Obj) (xs : List (List Int × Addr × Value)), F b = some (.frz od (DTO b xs)) ∧ Paired (DtE K F) xs kvs
theorem LkOk.up {K : PySem.W.Frag} {F F' : Hp} {b : Addr} {c : Cont} (e : Same F F') (h : LkOk K F b c) : LkOk K F' b c := by
  cases c with
  | l ds => exact h
  | i kvs =>
    obtain ⟨od, ws, h1, h2⟩ := h
    exact ⟨od, ws, dps_up e _ _ h1, e _ _ h2⟩
  | t kvs =>
    obtain ⟨od, xs, h1, h2⟩ := h
    exact ⟨od, xs, e _ _ h1, Paired.mapP h2 fun x p ⟨e1, ⟨o, e2, e3⟩, w, e4, e5⟩ => ⟨e1, ⟨o, e _ _ e2, e3⟩, w, e4, dp_up e _ _ e5⟩⟩
/-! ### values of the logic, cells, states -/
/-- at a: an exception of class cls, its dict d -/
def exv (a : Addr) (cls : Value) (d : Option Addr) : HO := .ext fun h => ∃ oe vs, h.get? a = some oe ∧ oe.cls = cls ∧ oe.dict = d ∧ oe.data = .fields vs
inductive Vd where
  | d (x : PyData)
  | a (p : Addr)
  /-- a tuple that is only taken apart -/
  | w (x : PyData)
  /-- the law's own argument -/
  | s (ns : List Int)
  /-- a dict that is walked -/
  | k (p : Addr) (c : Cont)
  /-- a caught exception of the class at C, its field f -/
  | e (p C : Addr) (f : Str) (x : PyData)
  /-- a dict that changes no more -/
  | z (p : Addr) (kvs : List (List Int × PyData))
abbrev Vd.x (ds : List PyData) : Vd := .d (.tuple ds)
abbrev Cells := List (Addr × Cont)
abbrev Dl := List (Option Vd)
abbrev ks (μ : Cells) : List Addr := μ.map Prod.fst
def VOk (K : PySem.W.Frag) (F : Hp) : Vd → V → Prop
  | .d x, v => De K F v x
  | .a p, v => v = .ref p
  | .s ns, v => ∃ a, v = .ref a ∧ SqL K F a (ns.map V.int)
  | .w x, v => ∃ a vs ds, x = .tuple ds ∧ v = .ref a ∧ SqT K F a vs ∧ DeAll K F vs ds
  | .k p c, v => v = .ref p ∧ LkOk K F p c
  | .e p C f x, v => v = .ref p ∧ ∃ (dd : Addr) (w : V), F p = some (exv p (.ref C) (some dd)) ∧ F dd = some (.xd [(f, w)]) ∧ De K F w x
  | .z p kvs, v => v = .ref p ∧ ZkOk K F p kvs
theorem VOk.up {K : PySem.W.Frag} {F F' : Hp} (e : Same F F') : ∀ {x : Vd} {v : V}, VOk K F x v → VOk K F' x v
  | .d x, _, h => dp_up e x _ h
  | .a _, _, h => h
  | .s ns, _, ⟨a, e1, e2⟩ => ⟨a, e1, e.seq e2⟩
  | .w x, _, ⟨a, vs, ds, e1, e2, e3, e4⟩ => ⟨a, vs, ds, e1, e2, same_t e e3, dps_up e _ _ e4⟩
  | .k p c, _, ⟨e1, e2⟩ => ⟨e1, e2.up e⟩
  | .e p C f x, _, ⟨e1, dd, w, e2, e3, e4⟩ => ⟨e1, dd, w, e _ _ e2, e _ _ e3, dp_up e _ _ e4⟩
  | .z p kvs, _, ⟨e1, e2⟩ => ⟨e1, e2.up e⟩
abbrev VAll (K : PySem.W.Frag) (F : Hp) : List Vd → List V → Prop := Paired (VOk K F)
theorem VAll.up {K : PySem.W.Frag} {F F' : Hp} (e : Same F F') : ∀ {xs : List Vd} {vs : List V}, VAll K F xs vs → VAll K F' xs vs
  | _, _, .nil => .nil
  | _, _, .cons h t => .cons (h.up e) (VAll.up e t)
/-- neither a tuple nor a frozen thing -/
def Own : HO → Prop
  | .tup _ => False
  | .frz _ _ => False
  | _ => True
theorem CelOk.obj {K : PySem.W.Frag} {F H : Hp} {b : Addr} {c : Cont} (h : CelOk K F H b c) : ∃ o, H b = some o ∧ Own o := by
  cases c with
  | l ds =>
    obtain ⟨vs, e, _⟩ := h
    exact ⟨_, e, trivial⟩
  | i kvs =>
    obtain ⟨ws, _, e⟩ := h
    exact ⟨_, e, trivial⟩
  | t kvs =>
    obtain ⟨xs, e, _⟩ := h
    exact ⟨_, e, trivial⟩
theorem CelOk.ne {K : PySem.W.Frag} {F H : Hp} {b : Addr} {c : Cont} (h : CelOk K F H b c) : H b ≠ none := by
  obtain ⟨o, e, _⟩ := h.obj
  rw [e]
  exact fun z => by cases z
theorem CelOk.to {K : PySem.W.Frag} {F F' H H' : Hp} {b : Addr} {c : Cont} (h : CelOk K F H b c) (e : Same F F') (k : ∀ o, H b = some o → H' b = some o) : CelOk K F' H' b c := by
  cases c with
  | l ds =>
    obtain ⟨vs, h1, h2⟩ := h
    exact ⟨vs, k _ h1, dqs_up e _ _ h2⟩
  | i kvs =>
    obtain ⟨ws, h1, h2⟩ := h
    exact ⟨ws, dps_up e _ _ h1, k _ h2⟩
  | t kvs =>
    obtain ⟨xs, h1, h2⟩ := h
    exact ⟨xs, k _ h1, Paired.mapP h2 fun x p ⟨e1, ⟨o, e2, e3⟩, w, e4, e5⟩ => ⟨e1, ⟨o, e _ _ e2, e3⟩, w, e4, dp_up e _ _ e5⟩⟩
structure RpM (K : PySem.W.Frag) (F H : Hp) (μ : Cells) : Prop where
  ex : Same F H
  nd : (ks μ).Nodup
  cel : ∀ b c, (b, c) ∈ μ → F b = none ∧ CelOk K F H b c
structure Rp (K : PySem.W.Frag) (F H : Hp) (σ : L2.St) (δ : Dl) (μ : Cells) : Prop where
  m : RpM K F H μ
  len : σ.length = δ.length
  env : ∀ (i : Nat) (x : Vd), δ[i]? = some (some x) → ∃ v, σ[i]? = some (some v) ∧ VOk K F x v
structure Fw (bs bs' : List Addr) (F H F' H' : Hp) : Prop where
  f : Same F F'
  k : ∀ b o, H b = some o → b ∉ bs → H' b = some o
  c : ∀ b, F b = none → H b ≠ none → b ∉ bs → F' b = none
  s : ∀ b ∈ bs', b ∈ bs ∨ H b = none
theorem Fw.refl {bs : List Addr} {F H : Hp} : Fw bs bs F H F H := ⟨Same.refl F, fun _ _ e _ => e, fun _ e _ _ => e, fun _ h => .inl h⟩
theorem Fw.trans {b0 b1 b2 : List Addr} {F H F1 H1 F2 H2 : Hp} (x : Fw b0 b1 F H F1 H1) (y : Fw b1 b2 F1 H1 F2 H2) : Fw b0 b2 F H F2 H2 := by
  have out : ∀ b, H b ≠ none → b ∉ b0 → b ∉ b1 := fun b h n m => (x.s b m).elim n h
  refine ⟨x.f.trans y.f, fun b o e n => y.k b o (x.k b o e n) (out b (by rw [e]; exact fun z => by cases z) n), fun b e h n => ?_, fun b m => ?_⟩
  · refine y.c b (x.c b e h n) ?_ (out b h n)
    cases q : H b with
    | none => exact absurd q h
    | some o =>
      rw [x.k b o q n]
      exact fun z => by cases z
  · rcases y.s b m with h | h
    · exact x.s b h
    · cases q : H b with
      | none => exact .inr rfl
      | some o =>
        by_cases n : b ∈ b0
        · exact .inl n
        · rw [x.k b o q n] at h
          cases h
theorem RpM.up {K : PySem.W.Frag} {F H F' H' : Hp} {μ μr : Cells} {bs bs' : List Addr} (r : RpM K F H μr) (w : Fw bs bs' F H F' H') (n : ∀ b ∈ ks μr, b ∉ bs) : ∀ b c, (b, c) ∈ μr → F' b = none ∧ CelOk K F' H' b c := fun b c m => by
  obtain ⟨f, h⟩ := r.cel b c m
  have nb := n b (List.mem_map.mpr ⟨_, m, rfl⟩)
  exact ⟨w.c b f h.ne nb, h.to w.f fun o e => w.k b o e nb⟩
theorem Rp.to {K : PySem.W.Frag} {F H F' H' : Hp} {σ : L2.St} {δ : Dl} {μ μ' : Cells} (r : Rp K F H σ δ μ) (e : Same F F') (m : RpM K F' H' μ') : Rp K F' H' σ δ μ' :=
  ⟨m, r.len, fun i x h => by
    obtain ⟨v, h1, h2⟩ := r.env i x h
    exact ⟨v, h1, h2.up e⟩⟩
theorem Rp.put {K : PySem.W.Frag} {F H : Hp} {σ : L2.St} {δ : Dl} {μ : Cells} {x : Vd} {v : V} (r : Rp K F H σ δ μ) (i : Nat) (h : VOk K F x v) : Rp K F H (σ.set i (some v)) (δ.set i (some x)) μ := by
  refine ⟨r.m, by rw [List.length_set, List.length_set, r.len], fun j y e => ?_⟩
  by_cases hj : i = j
  · subst hj
    by_cases hl : i < δ.length
    · rw [List.getElem?_set_self hl] at e
      cases e
      exact ⟨v, List.getElem?_set_self (by rw [r.len]; exact hl), h⟩
    · rw [List.getElem?_eq_none (by rw [List.length_set]; omega)] at e
      cases e
  · rw [List.getElem?_set_ne hj] at e
    obtain ⟨u, h1, h2⟩ := r.env j y e
    exact ⟨u, by rw [List.getElem?_set_ne hj]; exact h1, h2⟩
theorem Rp.out {K : PySem.W.Frag} {F H : Hp} {σ : L2.St} {δ : Dl} {μ : Cells} (r : Rp K F H σ δ μ) (i : Nat) : Rp K F H (σ.set i none) (δ.set i none) μ := by
  refine ⟨r.m, by rw [List.length_set, List.length_set, r.len], fun j y e => ?_⟩
  by_cases hj : i = j
  · subst hj
    by_cases hl : i < δ.length
    · rw [List.getElem?_set_self hl] at e
      cases e
    · rw [List.getElem?_eq_none (by rw [List.length_set]; omega)] at e
      cases e
  · rw [List.getElem?_set_ne hj] at e
    obtain ⟨u, h1, h2⟩ := r.env j y e
    exact ⟨u, by rw [List.getElem?_set_ne hj]; exact h1, h2⟩
def wipeD (δ : Dl) : List Nat → Dl
  | [] => δ
  | v :: vs => (wipeD δ vs).set v none
theorem Rp.wiped {K : PySem.W.Frag} {F H : Hp} {σ : L2.St} {δ : Dl} {μ : Cells} (r : Rp K F H σ δ μ) : ∀ vs : List Nat, Rp K F H (wipe σ vs) (wipeD δ vs) μ
  | [] => r
  | v :: vs => (Rp.wiped r vs).out v
/-- a new immutable object -/
theorem RpM.new {K : PySem.W.Frag} {F H : Hp} {μ : Cells} {p : Addr} {o : HO} (r : RpM K F H μ) (np : H p = none) : RpM K (upd F p o) (upd H p o) μ ∧ Fw (ks μ) (ks μ) F H (upd F p o) (upd H p o) := by
  have fp : F p = none := r.ex.free np
  have ne : ∀ b, H b ≠ none → b ≠ p := fun b h z => h (z ▸ np)
  refine ⟨⟨fun b x e => ?_, r.nd, fun b c m => ?_⟩, same_new fp, fun b x e _ => ?_, fun b e h _ => ?_, fun b m => .inl m⟩
  · by_cases hb : b = p
    · subst hb
      rw [upd_same] at e ⊢
      exact e
    · rw [upd_ne hb] at e ⊢
      exact r.ex b x e
  · obtain ⟨f, h⟩ := r.cel b c m
    have nb : b ≠ p := ne b h.ne
    exact ⟨by rw [upd_ne nb]; exact f, h.to (same_new fp) fun o e => by rw [upd_ne nb]; exact e⟩
  · rw [upd_ne (ne b (by rw [e]; exact fun z => by cases z))]
    exact e
  · rw [upd_ne (ne b h)]
    exact e
/-- a new cell -/
theorem RpM.cellO {K : PySem.W.Frag} {F H : Hp} {μ : Cells} {p : Addr} {o : HO} {c : Cont} (r : RpM K F H μ) (np : H p = none) (h : CelOk K F (upd H p o) p c) : RpM K F (upd H p o) ((p, c) :: μ) ∧ Fw (ks μ) (ks ((p, c) :: μ)) F H F (upd H p o) := by
  have fp : F p = none := r.ex.free np
  have ne : ∀ b, H b ≠ none → b ≠ p := fun b h z => h (z ▸ np)
  have out : p ∉ ks μ := fun m => by
    obtain ⟨⟨b, es⟩, m1, m2⟩ := List.mem_map.mp m
    have m2' : b = p := m2
    exact (r.cel b es m1).2.ne (by rw [m2', np])
  refine ⟨⟨fun b x e => ?_, List.nodup_cons.mpr ⟨out, r.nd⟩, fun b es m => ?_⟩, Same.refl F, fun b x e _ => ?_, fun b e _ _ => e, fun b m => ?_⟩
  · rw [upd_ne (ne_of_none e fp)]
    exact r.ex b x e
  · rcases List.mem_cons.mp m with m | m
    · cases m
      exact ⟨fp, h⟩
    · obtain ⟨f, g⟩ := r.cel b es m
      exact ⟨f, g.to (Same.refl F) fun o e => by rw [upd_ne (ne b g.ne)]; exact e⟩
  · rw [upd_ne (ne b (by rw [e]; exact fun z => by cases z))]
    exact e
  · rcases List.mem_cons.mp m with m | m
    · exact .inr (m ▸ np)
    · exact .inl m
theorem RpM.cellQ {K : PySem.W.Frag} {F H : Hp} {μ : Cells} {p : Addr} {vs : List V} {ds : List PyData} (r : RpM K F H μ) (np : H p = none) (h : DqAll K F vs ds) : RpM K F (upd H p (.lst vs)) ((p, ds) :: μ) ∧ Fw (ks μ) (ks ((p, (ds : Cont)) :: μ)) F H F (upd H p (.lst vs)) :=
  r.cellO np ⟨vs, upd_same, h⟩
theorem RpM.cell {K : PySem.W.Frag} {F H : Hp} {μ : Cells} {p : Addr} {vs : List V} {ds : List PyData} (r : RpM K F H μ) (np : H p = none) (h : DeAll K F vs ds) : RpM K F (upd H p (.lst vs)) ((p, ds) :: μ) ∧ Fw (ks μ) (ks ((p, (ds : Cont)) :: μ)) F H F (upd H p (.lst vs)) := r.cellQ np (.of h)
/-- a cell is frozen -/
theorem RpM.freeze {K : PySem.W.Frag} {F H : Hp} {μ : Cells} {p : Addr} {ds : List PyData} (r : RpM K F H ((p, ds) :: μ)) (pl : plS ds) : ∃ vs, H p = some (.lst vs) ∧ DeAll K (upd F p (.lst vs)) vs ds ∧ RpM K (upd F p (.lst vs)) H μ ∧ Same F (upd F p (.lst vs)) ∧ F p = none ∧ p ∉ ks μ := by
  obtain ⟨f, vs, e, h⟩ := r.cel p ds List.mem_cons_self
  obtain ⟨out, nd⟩ := List.nodup_cons.mp r.nd
  refine ⟨vs, e, dps_up (same_new f) _ _ (h.to pl), ⟨fun b x q => ?_, nd, fun b es m => ?_⟩, same_new f, f, out⟩
  · by_cases hb : b = p
    · subst hb
      rw [upd_same] at q
      rw [e]
      exact q
    · rw [upd_ne hb] at q
      exact r.ex b x q
  · obtain ⟨f', g⟩ := r.cel b es (List.mem_cons_of_mem _ m)
    have nb : b ≠ p := fun z => out (z ▸ List.mem_map.mpr ⟨_, m, rfl⟩)
    exact ⟨by rw [upd_ne nb]; exact f', g.to (same_new f) fun _ e => e⟩
theorem cells_split {μ : Cells} {b : Addr} {ds : Cont} (h : μ.lookup b = some ds) : (b, ds) ∈ μ := by
  induction μ with
  | nil => cases h
  | cons x r ih =>
    obtain ⟨c, es⟩ := x
    rw [List.lookup_cons] at h
    by_cases q : b = c
    · subst q
      rw [show (b == b) = true from beq_self_eq_true b] at h
      cases h
      exact List.mem_cons_self
    · rw [show (b == c) = false from beq_eq_false_iff_ne.mpr q] at h
      exact List.mem_cons_of_mem _ (ih h)
/-- a cell's new content -/
def putC (b : Addr) (es : Cont) : Cells → Cells
  | [] => []
  | x :: r => if x.1 = b then (b, es) :: r else x :: putC b es r
theorem ks_putC (b : Addr) (es : Cont) : ∀ μ : Cells, ks (putC b es μ) = ks μ
  | [] => rfl
  | x :: r => by
    unfold putC
    split
    · rename_i h
      simp [ks, h]
    · simp only [ks, List.map_cons] at *
      rw [show (putC b es r).map Prod.fst = r.map Prod.fst from ks_putC b es r]
theorem mem_putC {b c : Addr} {es fs : Cont} : ∀ {μ : Cells}, (ks μ).Nodup → (c, fs) ∈ putC b es μ → (c = b ∧ fs = es) ∨ (c ≠ b ∧ (c, fs) ∈ μ)
  | [], _, h => by cases h
  | x :: r, nd, h => by
    obtain ⟨n1, n2⟩ := List.nodup_cons.mp nd
    unfold putC at h
    split at h
    · rename_i hx
      rcases List.mem_cons.mp h with h | h
      · cases h
        exact .inl ⟨rfl, rfl⟩
      · refine .inr ⟨fun z => n1 ?_, List.mem_cons_of_mem _ h⟩
        rw [hx, ← z]
        exact List.mem_map.mpr ⟨_, h, rfl⟩
    · rename_i hx
      rcases List.mem_cons.mp h with h | h
      · subst h
        exact .inr ⟨hx, List.mem_cons_self⟩
      · rcases mem_putC n2 h with q | ⟨q1, q2⟩
        · exact .inl q
        · exact .inr ⟨q1, List.mem_cons_of_mem _ q2⟩
theorem RpM.putO {K : PySem.W.Frag} {F H : Hp} {μ : Cells} {b : Addr} {o : HO} {es : Cont} (r : RpM K F H μ) (hb : b ∈ ks μ) (h : CelOk K F (upd H b o) b es) : RpM K F (upd H b o) (putC b es μ) ∧ Fw (ks μ) (ks (Ec.putC b es μ)) F H F (upd H b o) := by
  obtain ⟨⟨b', ds⟩, m, e⟩ := List.mem_map.mp hb
  have e' : b' = b := e
  subst e'
  obtain ⟨fb, _⟩ := r.cel b' ds m
  refine ⟨⟨fun c x q => ?_, by rw [ks_putC]; exact r.nd, fun c fs q => ?_⟩, Same.refl F, fun c x q n => ?_, fun c q _ _ => q, fun c q => .inl (by rw [ks_putC] at q; exact q)⟩
  · rw [upd_ne (ne_of_none q fb)]
    exact r.ex c x q
  · rcases mem_putC r.nd q with ⟨q1, q2⟩ | ⟨q1, q2⟩
    · subst q1 q2
      exact ⟨fb, h⟩
    · obtain ⟨f, g⟩ := r.cel c fs q2
      exact ⟨f, g.to (Same.refl F) fun o e => by rw [upd_ne q1]; exact e⟩
  · rw [upd_ne fun z => n (by rw [z]; exact hb)]
    exact q
theorem RpM.putC {K : PySem.W.Frag} {F H : Hp} {μ : Cells} {b : Addr} {vs : List V} {es : List PyData} (r : RpM K F H μ) (hb : b ∈ ks μ) (h : DqAll K F vs es) : RpM K F (upd H b (.lst vs)) (putC b es μ) ∧ Fw (ks μ) (ks (Ec.putC b es μ)) F H F (upd H b (.lst vs)) :=
  r.putO hb ⟨vs, upd_same, h⟩
end Ec

set_option Elab.async false
set_option linter.all false
set_option maxRecDepth 100000
set_option maxHeartbeats 4000000
namespace Ec
open PySem PySem.Spec PyProof.Rows L2

/-! ### the weakest readings -/
def cE (X : Cx) (e : Expr) : TE := fun σ H Q => ∀ pins s, Inv X pins σ H s → wpAny (model X.prog X.w) X.A (eval e X.env) (EP X pins σ Q) X.xe s
def cT (X : Cx) (e : Expr) : TT := fun σ H Q => ∀ pins s, Inv X pins σ H s → wpAny (model X.prog X.w) X.A (isTrue e X.env (eval e X.env)) (TP X pins σ Q) X.xe s
def cW (X : Cx) (e : Expr) : TT := fun σ H Q => ∀ (wh : Sem Value) pins s, Inv X pins σ H s → wpAny (model X.prog X.w) X.A (isTrue e X.env wh) (TP X pins σ Q) X.xe s
def cA (X : Cx) (es : List Expr) : TA := fun σ H Q => ∀ (pos : Pos) pins s, Inv X pins σ H s → wpAny (model X.prog X.w) X.A (spliced (backTo pos (starEach es X.env))) (AP X pins σ Q) X.xe s
def cK (X : Cx) (kws : List Keyword) : TA := fun σ H Q => ∀ (pos : Pos) pins s, Inv X pins σ H s → wpAny (model X.prog X.w) X.A (evalAll ((backToKw pos (keywordEach kws X.env)).map (·.2))) (AP X pins σ Q) X.xe s
def cS (X : Cx) (st : Stmt) : TS := fun D σ H => ∀ pins s, Inv X pins σ H s → wpAny (model X.prog X.w) X.A (exec st X.env) (SP X pins D) X.xe s
def cB (X : Cx) (st : List Stmt) : TS := fun D σ H => ∀ pins s, Inv X pins σ H s → wpAny (model X.prog X.w) X.A (execs st X.env) (SP X pins D) X.xe s
def cG (X : Cx) (tg : Expr) : TG := fun v σ H Q => ∀ pins s u, Inv X pins σ H s → RelV v u → wpAny (model X.prog X.w) X.A (assign tg X.env u) (fun _ s' => ∃ σ' H', Inv X pins σ' H' s' ∧ Q σ' H') X.xe s
def cGs (X : Cx) (ts : List Expr) : TGs := fun vs σ H Q => ∀ pins s us, Inv X pins σ H s → Vals vs us → wpAny (model X.prog X.w) X.A (assignInOrder ((assignEach ts X.env).map (·.2)) us) (fun _ s' => ∃ σ' H', Inv X pins σ' H' s' ∧ Q σ' H') X.xe s
def cI (X : Cx) (tg iter : Expr) : TI := fun σ H R => ∀ pins s, Inv X pins σ H s → wpAny (model X.prog X.w) X.A (eval iter X.env) (fun v s1 => wpAny (model X.prog X.w) X.A (pyIter v) (PIE X pins σ tg R) X.xe s1) X.xe s
def cO (X : Cx) (e : Option Expr) : TO := fun σ H Q => ∀ t, PO X e t → True → t σ H Q → True
section
variable {X : Cx}
theorem pcE (X : Cx) (e : Expr) : PE X e (cE X e) := ⟨fun pins s _ _ _ I h => h pins s I⟩
theorem pcT (X : Cx) (e : Expr) : PT X e (cT X e) := ⟨fun pins s _ _ _ I h => h pins s I⟩
theorem pcW (X : Cx) (e : Expr) : PW X e (cW X e) := ⟨fun wh pins s _ _ _ I h => h wh pins s I⟩
theorem pcA (X : Cx) (e : List Expr) : PA X e (cA X e) := ⟨fun pos pins s _ _ _ I h => h pos pins s I⟩
theorem pcK (X : Cx) (e : List Keyword) : PK X e (cK X e) := ⟨fun pos pins s _ _ _ I h => h pos pins s I⟩
theorem pcS (X : Cx) (e : Stmt) : PS X e (cS X e) := ⟨fun pins s _ _ _ I h => h pins s I⟩
theorem pcB (X : Cx) (e : List Stmt) : PSs X e (cB X e) := ⟨fun pins s _ _ _ I h => h pins s I⟩
theorem pcG (X : Cx) (e : Expr) : PG X e (cG X e) := ⟨fun pins s _ _ _ u _ I r h => h pins s u I r⟩
theorem pcGs (X : Cx) (e : List Expr) : PGs X e (cGs X e) := ⟨fun pins s _ _ _ u _ I r h => h pins s u I r⟩
theorem pcI (X : Cx) (tg e : Expr) : PI X tg e (cI X tg e) := ⟨fun pins s _ _ _ I h => h pins s I⟩
theorem toE {e : Expr} {t : TE} (p : PE X e t) {σ H Q} (h : t σ H Q) : cE X e σ H Q := fun pins s I => p.run pins s σ H Q I h
theorem toT {e : Expr} {t : TT} (p : PT X e t) {σ H Q} (h : t σ H Q) : cT X e σ H Q := fun pins s I => p.run pins s σ H Q I h
theorem toW {e : Expr} {t : TT} (p : PW X e t) {σ H Q} (h : t σ H Q) : cW X e σ H Q := fun wh pins s I => p.run wh pins s σ H Q I h
theorem toA {e : List Expr} {t : TA} (p : PA X e t) {σ H Q} (h : t σ H Q) : cA X e σ H Q := fun pos pins s I => p.run pos pins s σ H Q I h
theorem toK {e : List Keyword} {t : TA} (p : PK X e t) {σ H Q} (h : t σ H Q) : cK X e σ H Q := fun pos pins s I => p.run pos pins s σ H Q I h
theorem toS {e : Stmt} {t : TS} (p : PS X e t) {D σ H} (h : t D σ H) : cS X e D σ H := fun pins s I => p.run pins s σ H D I h
theorem toB {e : List Stmt} {t : TS} (p : PSs X e t) {D σ H} (h : t D σ H) : cB X e D σ H := fun pins s I => p.run pins s σ H D I h
theorem toG {e : Expr} {t : TG} (p : PG X e t) {v σ H Q} (h : t v σ H Q) : cG X e v σ H Q := fun pins s u I r => p.run pins s σ H v u Q I r h
theorem toGs {e : List Expr} {t : TGs} (p : PGs X e t) {v σ H Q} (h : t v σ H Q) : cGs X e v σ H Q := fun pins s u I r => p.run pins s σ H v u Q I r h
theorem toI {tg e : Expr} {t : TI} (p : PI X tg e t) {σ H R} (h : t σ H R) : cI X tg e σ H R := fun pins s I => p.run pins s σ H R I h

/-! ### the judgements -/
def WE (X : Cx) (e : Expr) (δ : Dl) (μ : Cells) (Q : Vd → Cells → Prop) : Prop := ∀ F H σ, Rp X.K F H σ δ μ → ∀ QV : VK,
  (∀ v x F' H' μ', Fw (ks μ) (ks μ') F H F' H' → Rp X.K F' H' σ δ μ' → VOk X.K F' x v → Q x μ' → QV v H') → cE X e σ H QV
def WT (X : Cx) (e : Expr) (δ : Dl) (μ : Cells) (Q : Bool → Cells → Prop) : Prop := ∀ F H σ, Rp X.K F H σ δ μ → ∀ QV : Bool → Hp → Prop,
  (∀ b F' H' μ', Fw (ks μ) (ks μ') F H F' H' → Rp X.K F' H' σ δ μ' → Q b μ' → QV b H') → cT X e σ H QV
def WW (X : Cx) (e : Expr) (δ : Dl) (μ : Cells) (Q : Bool → Cells → Prop) : Prop := ∀ F H σ, Rp X.K F H σ δ μ → ∀ QV : Bool → Hp → Prop,
  (∀ b F' H' μ', Fw (ks μ) (ks μ') F H F' H' → Rp X.K F' H' σ δ μ' → Q b μ' → QV b H') → cW X e σ H QV
def WA (X : Cx) (es : List Expr) (δ : Dl) (μ : Cells) (Q : List Vd → Cells → Prop) : Prop := ∀ F H σ, Rp X.K F H σ δ μ → ∀ QV : List V → Hp → Prop,
  (∀ vs xs F' H' μ', Fw (ks μ) (ks μ') F H F' H' → Rp X.K F' H' σ δ μ' → VAll X.K F' xs vs → Q xs μ' → QV vs H') → cA X es σ H QV
def WK (X : Cx) (es : List Keyword) (δ : Dl) (μ : Cells) (Q : List Vd → Cells → Prop) : Prop := ∀ F H σ, Rp X.K F H σ δ μ → ∀ QV : List V → Hp → Prop,
  (∀ vs xs F' H' μ', Fw (ks μ) (ks μ') F H F' H' → Rp X.K F' H' σ δ μ' → VAll X.K F' xs vs → Q xs μ' → QV vs H') → cK X es σ H QV
structure Dn where
  nx : Dl → Cells → Prop
  rt : Vd → Cells → Prop
  bk : Dl → Cells → Prop := fun _ _ => False
  ct : Dl → Cells → Prop := fun _ _ => False
/-- the ends of the layer bear those of the logic -/
structure Bears (K : PySem.W.Frag) (F H : Hp) (μ : Cells) (D : Dn) (De : Ends) : Prop where
  nx : ∀ F' H' σ' δ' μ', Fw (ks μ) (ks μ') F H F' H' → Rp K F' H' σ' δ' μ' → D.nx δ' μ' → De.nx σ' H'
  rt : ∀ v x F' H' μ', Fw (ks μ) (ks μ') F H F' H' → RpM K F' H' μ' → VOk K F' x v → D.rt x μ' → De.rt v H'
  bk : ∀ F' H' σ' δ' μ', Fw (ks μ) (ks μ') F H F' H' → Rp K F' H' σ' δ' μ' → D.bk δ' μ' → De.bk σ' H'
  ct : ∀ F' H' σ' δ' μ', Fw (ks μ) (ks μ') F H F' H' → Rp K F' H' σ' δ' μ' → D.ct δ' μ' → De.ct σ' H'
theorem Bears.next {K : PySem.W.Frag} {F H F' H' : Hp} {μ μ' : Cells} {D : Dn} {De : Ends} (b : Bears K F H μ D De) (w : Fw (ks μ) (ks μ') F H F' H') : Bears K F' H' μ' D De :=
  ⟨fun _ _ _ _ _ w2 => b.nx _ _ _ _ _ (w.trans w2), fun _ _ _ _ _ w2 => b.rt _ _ _ _ _ (w.trans w2), fun _ _ _ _ _ w2 => b.bk _ _ _ _ _ (w.trans w2), fun _ _ _ _ _ w2 => b.ct _ _ _ _ _ (w.trans w2)⟩
def WS (X : Cx) (st : Stmt) (δ : Dl) (μ : Cells) (D : Dn) : Prop := ∀ F H σ, Rp X.K F H σ δ μ → ∀ De, Bears X.K F H μ D De → cS X st De σ H
def WB (X : Cx) (st : List Stmt) (δ : Dl) (μ : Cells) (D : Dn) : Prop := ∀ F H σ, Rp X.K F H σ δ μ → ∀ De, Bears X.K F H μ D De → cB X st De σ H
def WG (X : Cx) (tg : Expr) (x : Vd) (δ : Dl) (μ : Cells) (Q : Dl → Cells → Prop) : Prop := ∀ F H σ, Rp X.K F H σ δ μ → ∀ v, VOk X.K F x v → ∀ QV : L2.St → Hp → Prop,
  (∀ F' H' σ' δ' μ', Fw (ks μ) (ks μ') F H F' H' → Rp X.K F' H' σ' δ' μ' → Q δ' μ' → QV σ' H') → cG X tg v σ H QV
def WGs (X : Cx) (ts : List Expr) (xs : List Vd) (δ : Dl) (μ : Cells) (Q : Dl → Cells → Prop) : Prop := ∀ F H σ, Rp X.K F H σ δ μ → ∀ vs, VAll X.K F xs vs → ∀ QV : L2.St → Hp → Prop,
  (∀ F' H' σ' δ' μ', Fw (ks μ) (ks μ') F H F' H' → Rp X.K F' H' σ' δ' μ' → Q δ' μ' → QV σ' H') → cGs X ts vs σ H QV
/-- how an item comes: the pairs of enumerate and zip are only taken apart -/
def itV (iter : Expr) : PyData → Vd := match iter with
  | .Call (.Name x _) _ _ _ => if x == "enumerate" || x == "zip" then .w else .d
  | .Call (.Attribute _ m _) _ _ _ => if m == "items" then .w else .d
  | _ => .d
/-- what is walked: items, at each turn one of them comes -/
structure Wk (K : PySem.W.Frag) (J : It) (F0 : Hp) (iv : PyData → Vd) (ds : List PyData) : Prop where
  go : ∀ i F H, i < ds.length → Same F0 F → Same F H → J.go i H
  yld : ∀ i F H x H' d, ds[i]? = some d → Same F0 F → Same F H → J.yld i H x H' → ∃ F', Same F F' ∧ Same F' H' ∧ Same H H' ∧ (∀ b, F b = none → H b ≠ none → F' b = none) ∧ VOk K F' (iv d) x
  stop : ∀ F H, Same F0 F → Same F H → J.stop ds.length H
def WI (X : Cx) (tg iter : Expr) (δ : Dl) (μ : Cells) (Q : List PyData → Cells → Prop) : Prop := ∀ F H σ, Rp X.K F H σ δ μ → ∀ R : It → Hp → Prop,
  (∀ J ds F' H' μ', Fw (ks μ) (ks μ') F H F' H' → Rp X.K F' H' σ δ μ' → Wk X.K J F' (itV iter) ds → Q ds μ' → R J H') → cI X tg iter σ H R

variable {δ : Dl} {μ : Cells} {e a b : Expr} {pos : Pos} {Q : Vd → Cells → Prop} {D : Dn}
theorem WE.mono {Q' : Vd → Cells → Prop} (h : WE X e δ μ Q) (k : ∀ x μ', Q x μ' → Q' x μ') : WE X e δ μ Q' := fun F H σ r QV c => h F H σ r QV fun v x F' H' μ' w r' o q => c v x F' H' μ' w r' o (k x μ' q)
theorem WT.mono {T T' : Bool → Cells → Prop} (h : WT X e δ μ T) (k : ∀ x μ', T x μ' → T' x μ') : WT X e δ μ T' := fun F H σ r QV c => h F H σ r QV fun v F' H' μ' w r' q => c v F' H' μ' w r' (k v μ' q)

/-! ### names, constants -/
theorem we_name (i : Nat) {x : Str} {y : Vd} (hN : X.N[i]? = some x) (hv : Vis X.env.scope x) (hδ : δ[i]? = some (some y)) (h : Q y μ) (hd : (x == ("__debug__" : Str)) = false := by decide) (hcd : (x == ("__classdict__" : Str)) = false := by decide) :
    WE X (.Name x pos) δ μ Q := fun F H σ r QV c => by
  obtain ⟨v, e1, e2⟩ := r.env i y hδ
  exact toE (pe_var hN hv hd hcd) ⟨v, e1, c v y F H μ Fw.refl r e2 h⟩
theorem we_int {i : Int} {j : Nat} (h : Q (.d (.int i)) μ) : WE X (.Constant (.int i) j pos) δ μ Q := fun F H σ r QV c => toE pe_int (c _ (.d (.int i)) F H μ Fw.refl r (.int i) h)
theorem we_bl {i : Bool} {j : Nat} (h : Q (.d (.bool i)) μ) : WE X (.Constant (.bool i) j pos) δ μ Q := fun F H σ r QV c => toE pe_bl (c _ (.d (.bool i)) F H μ Fw.refl r (.bl i) h)
theorem we_non {j : Nat} (h : Q (.d .none) μ) : WE X (.Constant .none j pos) δ μ Q := fun F H σ r QV c => toE pe_non (c _ (.d .none) F H μ Fw.refl r .non h)
theorem we_str {x : Str} {j : Nat} (h : Q (.d (.str x)) μ) : WE X (.Constant (.str x) j pos) δ μ Q := fun F H σ r QV c => toE pe_str (c _ (.d (.str x)) F H μ Fw.refl r (.str x) h)

/-! ### operators by values -/
/-- an operation on values, seen from the logic -/
def OpW (K : PySem.W.Frag) (r : R2) (x y : Vd) (μ : Cells) (Q : Vd → Cells → Prop) : Prop := ∀ F H v u, RpM K F H μ → VOk K F x v → VOk K F y u → ∀ QV : VK,
  (∀ z w F' H' μ', Fw (ks μ) (ks μ') F H F' H' → RpM K F' H' μ' → VOk K F' z w → Q z μ' → QV w H') → r v u H QV
def UnW (K : PySem.W.Frag) (r : V → Hp → VK → Prop) (x : Vd) (μ : Cells) (Q : Vd → Cells → Prop) : Prop := ∀ F H v, RpM K F H μ → VOk K F x v → ∀ QV : VK,
  (∀ z w F' H' μ', Fw (ks μ) (ks μ') F H F' H' → RpM K F' H' μ' → VOk K F' z w → Q z μ' → QV w H') → r v H QV
def CaW (K : PySem.W.Frag) (r : List V → Hp → VK → Prop) (xs : List Vd) (μ : Cells) (Q : Vd → Cells → Prop) : Prop := ∀ F H vs, RpM K F H μ → VAll K F xs vs → ∀ QV : VK,
  (∀ z w F' H' μ', Fw (ks μ) (ks μ') F H F' H' → RpM K F' H' μ' → VOk K F' z w → Q z μ' → QV w H') → r vs H QV
/-- two expressions one behind the other, then an operation -/
theorem two {r : R2} {e : Expr} (p : PE X e (tOp r (cE X a) (cE X b))) (h : WE X a δ μ fun x μ1 => WE X b δ μ1 fun y μ2 => OpW X.K r x y μ2 Q) : WE X e δ μ Q := fun F H σ R QV c =>
  toE p (h F H σ R _ fun v x F1 H1 μ1 w1 R1 o1 q1 => q1 F1 H1 σ R1 _ fun u y F2 H2 μ2 w2 R2 o2 q2 => q2 F2 H2 v u R2.m (o1.up w2.f) o2 _ fun z w F3 H3 μ3 w3 m3 o3 q3 =>
    c w z F3 H3 μ3 ((w1.trans w2).trans w3) (R2.to w3.f m3) o3 q3)
theorem we_bin {op : Operator} {r : R2} (ho : OpR X (binaryOp op) r) (h : WE X a δ μ fun x μ1 => WE X b δ μ1 fun y μ2 => OpW X.K r x y μ2 Q) : WE X (.BinOp a op b pos) δ μ Q := two (pe_op ho (pcE X a) (pcE X b)) h
theorem we_cmp {op : CmpOp} {r : R2} (ho : OpR X (compareOp op) r) (hm : behindInMarks op b = false) (h : WE X a δ μ fun x μ1 => WE X b δ μ1 fun y μ2 => OpW X.K r x y μ2 Q) : WE X (.Compare a [op] [b] pos) δ μ Q := two (pe_cmpR ho (pcE X a) (pcE X b) hm) h
theorem we_ix {r : R2} (ho : IxR X r) (hs : PlainIx b) (h : WE X a δ μ fun x μ1 => WE X b δ μ1 fun y μ2 => OpW X.K r x y μ2 Q) : WE X (.Subscript a b pos) δ μ Q := two (pe_ix ho (pcE X a) (pcE X b) hs) h
theorem we_un {op : UnaryOp} {r : V → Hp → VK → Prop} (ho : UnR X (unaryOp op) r) (h : WE X a δ μ fun x μ1 => UnW X.K r x μ1 Q) : WE X (.UnaryOp op a pos) δ μ Q := fun F H σ R QV c =>
  toE (pe_un ho (pcE X a)) (h F H σ R _ fun v x F1 H1 μ1 w1 R1 o1 q1 => q1 F1 H1 v R1.m o1 _ fun z w F3 H3 μ3 w3 m3 o3 q3 => c w z F3 H3 μ3 (w1.trans w3) (R1.to w3.f m3) o3 q3)
theorem wt_cmp {op : CmpOp} {r : R2} {T : Bool → Cells → Prop} (ho : OpR X (compareOp op) r) (hm : behindInMarks op b = false) (h : WE X a δ μ fun x μ1 => WE X b δ μ1 fun y μ2 => OpW X.K r x y μ2 fun z μ3 => ∃ k, z = .d (.bool k) ∧ T k μ3) :
    WT X (.Compare a [op] [b] pos) δ μ T := fun F H σ R QV c =>
  toT (pt_cmpR ho (pcE X a) (pcE X b) hm) (h F H σ R _ fun v x F1 H1 μ1 w1 R1 o1 q1 => q1 F1 H1 σ R1 _ fun u y F2 H2 μ2 w2 R2 o2 q2 => q2 F2 H2 v u R2.m (o1.up w2.f) o2 _ fun z w F3 H3 μ3 w3 m3 o3 q3 => by
    obtain ⟨k, rfl, q⟩ := q3
    exact ⟨k, dp_bl o3, c k F3 H3 μ3 ((w1.trans w2).trans w3) (R2.to w3.f m3) q⟩)
/-- any expression that gives a bool, as a test -/
theorem wt_val {T : Bool → Cells → Prop} (h : WE X e δ μ fun z μ3 => ∃ k, z = .d (.bool k) ∧ T k μ3) (he : ∀ whole, isTrue e X.env whole = (do let v ← whole; standAt e.pos; holding [v] (truthy v)) := by intro _; rfl) : WT X e δ μ T := fun F H σ R QV c =>
  toT (pt_val (pcE X e) he) (h F H σ R _ fun v x F1 H1 μ1 w1 R1 o1 q1 => by
    obtain ⟨k, rfl, q⟩ := q1
    exact ⟨k, dp_bl o1, c k F1 H1 μ1 w1 R1 q⟩)
/-! ### and, or, not, if else -/
variable {T : Bool → Cells → Prop} {rest : List Expr}
theorem ww_and1 (h : WT X a δ μ T) : WW X (.BoolOp .And [a] pos) δ μ T := fun F H σ R QV c => toW (pw_and1 (pcT X a)) (h F H σ R QV c)
theorem ww_or1 (h : WT X a δ μ T) : WW X (.BoolOp .Or [a] pos) δ μ T := fun F H σ R QV c => toW (pw_or1 (pcT X a)) (h F H σ R QV c)
theorem ww_and (h : WT X a δ μ fun k μ1 => if k = true then WW X (.BoolOp .And (b :: rest) pos) δ μ1 T else T false μ1) : WW X (.BoolOp .And (a :: b :: rest) pos) δ μ T := fun F H σ R QV c =>
  toW (pw_and (pcT X a) (pcW X _)) (h F H σ R _ fun k F1 H1 μ1 w1 R1 q => by
    cases k with
    | true => exact (show WW X _ δ μ1 T from q) F1 H1 σ R1 QV fun k2 F2 H2 μ2 w2 R2 q2 => c k2 F2 H2 μ2 (w1.trans w2) R2 q2
    | false => exact c false F1 H1 μ1 w1 R1 q)
theorem ww_or (h : WT X a δ μ fun k μ1 => if k = true then T true μ1 else WW X (.BoolOp .Or (b :: rest) pos) δ μ1 T) : WW X (.BoolOp .Or (a :: b :: rest) pos) δ μ T := fun F H σ R QV c =>
  toW (pw_or (pcT X a) (pcW X _)) (h F H σ R _ fun k F1 H1 μ1 w1 R1 q => by
    cases k with
    | false => exact (show WW X _ δ μ1 T from q) F1 H1 σ R1 QV fun k2 F2 H2 μ2 w2 R2 q2 => c k2 F2 H2 μ2 (w1.trans w2) R2 q2
    | true => exact c true F1 H1 μ1 w1 R1 q)
theorem wt_w (h : WW X e δ μ T) : WT X e δ μ T := fun F H σ R QV c => toT (pcW X e).pt (h F H σ R QV c)
theorem wt_not (h : WT X a δ μ fun k μ1 => T (!k) μ1) : WT X (.UnaryOp .Not a pos) δ μ T := fun F H σ R QV c => toT (pt_not (pcT X a)) (h F H σ R _ fun k F1 H1 μ1 w1 R1 q => c (!k) F1 H1 μ1 w1 R1 q)
theorem we_one {op : BoolOp} (h : WE X a δ μ Q) : WE X (.BoolOp op [a] pos) δ μ Q := fun F H σ R QV c => toE (pe_one (pcE X a)) (h F H σ R QV c)
theorem we_and (h : WE X a δ μ fun z μ1 => ∃ k, z = .d (.bool k) ∧ if k = true then WE X (.BoolOp .And (b :: rest) pos) δ μ1 Q else Q (.d (.bool false)) μ1) : WE X (.BoolOp .And (a :: b :: rest) pos) δ μ Q := fun F H σ R QV c =>
  toE (pe_and (pcE X a) (pcE X _)) (h F H σ R _ fun v z F1 H1 μ1 w1 R1 o1 q => by
    obtain ⟨k, rfl, q⟩ := q
    refine ⟨k, dp_bl o1, ?_⟩
    cases k with
    | true => exact (show WE X _ δ μ1 Q from q) F1 H1 σ R1 QV fun k2 x2 F2 H2 μ2 w2 R2 o2 q2 => c k2 x2 F2 H2 μ2 (w1.trans w2) R2 o2 q2
    | false => exact c _ (.d (.bool false)) F1 H1 μ1 w1 R1 (.bl false) q)
theorem we_or (h : WE X a δ μ fun z μ1 => ∃ k, z = .d (.bool k) ∧ if k = true then Q (.d (.bool true)) μ1 else WE X (.BoolOp .Or (b :: rest) pos) δ μ1 Q) : WE X (.BoolOp .Or (a :: b :: rest) pos) δ μ Q := fun F H σ R QV c =>
  toE (pe_or (pcE X a) (pcE X _)) (h F H σ R _ fun v z F1 H1 μ1 w1 R1 o1 q => by
    obtain ⟨k, rfl, q⟩ := q
    refine ⟨k, dp_bl o1, ?_⟩
    cases k with
    | false => exact (show WE X _ δ μ1 Q from q) F1 H1 σ R1 QV fun k2 x2 F2 H2 μ2 w2 R2 o2 q2 => c k2 x2 F2 H2 μ2 (w1.trans w2) R2 o2 q2
    | true => exact c _ (.d (.bool true)) F1 H1 μ1 w1 R1 (.bl true) q)
theorem we_not (h : WE X a δ μ fun z μ1 => ∃ k, z = .d (.bool k) ∧ Q (.d (.bool (!k))) μ1) : WE X (.UnaryOp .Not a pos) δ μ Q := fun F H σ R QV c =>
  toE (pe_not (pcE X a)) (h F H σ R _ fun v z F1 H1 μ1 w1 R1 o1 q => by
    obtain ⟨k, rfl, q⟩ := q
    exact ⟨k, dp_bl o1, c _ (.d (.bool (!k))) F1 H1 μ1 w1 R1 (.bl _) q⟩)
theorem we_if {t : Expr} (h : WT X t δ μ fun k μ1 => if k = true then WE X a δ μ1 Q else WE X b δ μ1 Q) : WE X (.IfExp t a b pos) δ μ Q := fun F H σ R QV c =>
  toE (pe_ifExp (pcT X t) (pcE X a) (pcE X b)) (h F H σ R _ fun k F1 H1 μ1 w1 R1 q => by
    cases k with
    | true => exact (show WE X a δ μ1 Q from q) F1 H1 σ R1 QV fun k2 x2 F2 H2 μ2 w2 R2 o2 q2 => c k2 x2 F2 H2 μ2 (w1.trans w2) R2 o2 q2
    | false => exact (show WE X b δ μ1 Q from q) F1 H1 σ R1 QV fun k2 x2 F2 H2 μ2 w2 R2 o2 q2 => c k2 x2 F2 H2 μ2 (w1.trans w2) R2 o2 q2)
/-! ### arguments, displays -/
theorem wa_nil {QA : List Vd → Cells → Prop} (h : QA [] μ) : WA X [] δ μ QA := fun F H σ R QV c => toA pa_nil (c [] [] F H μ Fw.refl R .nil h)
theorem wa_cons {es : List Expr} {QA : List Vd → Cells → Prop} (h : WE X e δ μ fun x μ1 => WA X es δ μ1 fun xs μ2 => QA (x :: xs) μ2) (hs : starEach (e :: es) X.env = (false, eval e X.env) :: starEach es X.env := by rfl) : WA X (e :: es) δ μ QA := fun F H σ R QV c =>
  toA (pa_cons (pcE X e) (pcA X es) hs) (h F H σ R _ fun v x F1 H1 μ1 w1 R1 o1 q => q F1 H1 σ R1 _ fun vs xs F2 H2 μ2 w2 R2 o2 q2 => c (v :: vs) (x :: xs) F2 H2 μ2 (w1.trans w2) R2 (.cons (o1.up w2.f) o2) q2)
theorem wk_nil {QA : List Vd → Cells → Prop} (h : QA [] μ) : WK X [] δ μ QA := fun F H σ R QV c => toK pk_nil (c [] [] F H μ Fw.refl R .nil h)
theorem wk_cons {nm : Option Str} {kpos : Pos} {es : List Keyword} {QA : List Vd → Cells → Prop} (h : WE X e δ μ fun x μ1 => WK X es δ μ1 fun xs μ2 => QA (x :: xs) μ2) : WK X (⟨nm, e, kpos⟩ :: es) δ μ QA := fun F H σ R QV c =>
  toK (pk_cons (pcE X e) (pcK X es)) (h F H σ R _ fun v x F1 H1 μ1 w1 R1 o1 q => q F1 H1 σ R1 _ fun vs xs F2 H2 μ2 w2 R2 o2 q2 => c (v :: vs) (x :: xs) F2 H2 μ2 (w1.trans w2) R2 (.cons (o1.up w2.f) o2) q2)
def dsOf : List Vd → Option (List PyData)
  | [] => some []
  | .d x :: r => (dsOf r).map (x :: ·)
  | .w _ :: _ => none
  | .s _ :: _ => none
  | .a _ :: _ => none
  | .k _ _ :: _ => none
  | .e _ _ _ _ :: _ => none
  | .z _ _ :: _ => none
theorem dps_of {K : PySem.W.Frag} {F : Hp} : ∀ {xs : List Vd} {ds : List PyData} {vs : List V}, dsOf xs = some ds → VAll K F xs vs → DeAll K F vs ds
  | [], _, _, e, h => by
    cases e
    cases h
    exact .nil
  | .d x :: r, _, _, e, h => by
    cases h with
    | cons h1 h2 =>
      unfold dsOf at e
      cases q : dsOf r with
      | none =>
        rw [q] at e
        cases e
      | some es =>
        rw [q] at e
        cases e
        exact .cons h1 (dps_of q h2)
  | .w _ :: _, _, _, e, _ => by cases e
  | .s _ :: _, _, _, e, _ => by cases e
  | .a _ :: _, _, _, e, _ => by cases e
  | .k _ _ :: _, _, _, e, _ => by cases e
  | .e _ _ _ _ :: _, _, _, e, _ => by cases e
  | .z _ _ :: _, _, _, e, _ => by cases e
def tTupX (t : TA) : TE := fun σ H Q => t σ H fun xs H1 => xs.length ≤ sizeLine ∧ ∀ p o, o.dict = none → H1 p = none → Q (.ref p) (upd H1 p (.frz o (.tup xs)))
theorem pe_tupX {es : List Expr} {k : Nat} {t : TA} (h : PA X es t) : PE X (.Tuple es k pos) (tTupX t) := ⟨fun pins s σ H Q I hq => by
  refine wpAny_Tuple_spliced (thn (h.run pos pins s σ H _ I hq) fun us s1 ⟨xs, H1, I1, r, z, q⟩ => ⟨by rw [← r.length]; exact z, ?_⟩)
  have nf : H1 s1.heap.objs.size = none := I1.hok.fresh (Nat.le_refl _)
  have I2 := I1.laid (t' := s1.toks) (o := .frz { cls := .type "tuple", data := .seq us.toArray } (.tup xs)) (fun b u e => Heap.get?_push_of_some _ e) (Nat.le_refl _) (show ObjOk X.prog X.w _ (s1.heap.push { cls := .type "tuple", data := .seq us.toArray }) _ _ from ⟨Heap.get?_push_size _ rfl, z, us, r, ⟨_, Heap.get?_push_size _ rfl, rfl, _, rfl⟩⟩)
  exact ⟨.ref s1.heap.objs.size, _, I2, rfl, q _ _ rfl nf⟩⟩
theorem we_tup {k : Nat} {es : List Expr} (h : WA X es δ μ fun xs μ1 => ∃ ds, dsOf xs = some ds ∧ ds.length ≤ 100000 ∧ Q (.d (.tuple ds)) μ1) : WE X (.Tuple es k pos) δ μ Q := fun F H σ R QV c =>
  toE (pe_tupX (pcA X es)) (h F H σ R _ fun vs xs F1 H1 μ1 w1 R1 o1 q => by
    obtain ⟨ds, e, hl, q⟩ := q
    have hd := dps_of e o1
    refine ⟨by rw [dps_len hd]; exact Nat.le_trans hl (by decide), fun p o ho np => ?_⟩
    obtain ⟨m, w⟩ := R1.m.new (o := .frz o (.tup vs)) np
    exact c _ (.d (.tuple ds)) _ _ μ1 (w1.trans w) (R1.to w.f m) (.tup upd_same ho (dps_up w.f _ _ hd)) q)
theorem we_lst {es : List Expr} (h : WA X es δ μ fun xs μ1 => ∃ ds, dsOf xs = some ds ∧ ds.length ≤ 100000 ∧ ∀ p, Q (.a p) ((p, ds) :: μ1)) : WE X (.List es pos) δ μ Q := fun F H σ R QV c =>
  toE (pe_lst (pcA X es)) (h F H σ R _ fun vs xs F1 H1 μ1 w1 R1 o1 q => by
    obtain ⟨ds, e, hl, q⟩ := q
    have hd := dps_of e o1
    refine ⟨by rw [dps_len hd]; exact Nat.le_trans hl (by decide), fun p np => ?_⟩
    obtain ⟨m, w⟩ := R1.m.cell np hd
    exact c _ (.a p) _ _ _ (w1.trans w) (R1.to w.f m) rfl (q p))
/-- a new list as data -/
theorem we_fz (h : WE X e δ μ fun x μ1 => ∃ (p : Addr) (ds : List PyData) (μ2 : Cells), x = .a p ∧ μ1 = ((p, ds) :: μ2 : Cells) ∧ plS ds ∧ Q (.d (.list ds)) μ2) : WE X e δ μ Q := fun F H σ R QV c =>
  h F H σ R QV fun v x F1 H1 μ1 w1 R1 o1 q => by
    obtain ⟨p, ds, μ2, rfl, rfl, pl, q⟩ := q
    obtain ⟨vs, hp, hd, m, sf, fp, out⟩ := R1.m.freeze pl
    have ov : v = .ref p := o1
    subst ov
    refine c _ (.d (.list ds)) _ H1 μ2 ⟨w1.f.trans sf, w1.k, fun b f hb nb => ?_, fun b hb => w1.s b (List.mem_cons_of_mem _ hb)⟩ (R1.to sf m) (.lst upd_same hd) q
    rw [upd_ne]
    · exact w1.c b f hb nb
    · intro z
      subst z
      exact (w1.s b List.mem_cons_self).elim nb hb
end
end Ec

set_option Elab.async false
set_option linter.all false
set_option maxRecDepth 100000
set_option maxHeartbeats 4000000
namespace Ec
open PySem PySem.Spec PyProof.Rows L2

/-! ### frames of cells -/
theorem perm_erase {α : Type} : ∀ {l : List α} {i : Nat} (h : i < l.length), l.Perm (l[i] :: l.eraseIdx i)
  | x :: r, 0, _ => List.Perm.refl _
  | x :: r, i + 1, h => ((perm_erase (l := r) (i := i) (Nat.lt_of_succ_lt_succ h)).cons x).trans (List.Perm.swap _ _ _)
theorem RpM.perm {K : PySem.W.Frag} {F H : Hp} {μ μ' : Cells} (r : RpM K F H μ) (p : μ.Perm μ') : RpM K F H μ' :=
  ⟨r.ex, (p.map Prod.fst).nodup_iff.mp r.nd, fun b ds m => r.cel b ds (p.mem_iff.mpr m)⟩
theorem Rp.perm {K : PySem.W.Frag} {F H : Hp} {σ : L2.St} {δ : Dl} {μ μ' : Cells} (r : Rp K F H σ δ μ) (p : μ.Perm μ') : Rp K F H σ δ μ' := ⟨r.m.perm p, r.len, r.env⟩
theorem Fw.sub {a a' b b' : List Addr} {F H F' H' : Hp} (w : Fw a a' F H F' H') (h : ∀ x ∈ a, x ∈ b) (h' : ∀ x ∈ b', x ∈ a' ∨ x ∈ b) : Fw b b' F H F' H' :=
  ⟨w.f, fun c o e n => w.k c o e fun z => n (h c z), fun c e q n => w.c c e q fun z => n (h c z), fun c m => by
    rcases h' c m with q | q
    · rcases w.s c q with z | z
      · exact .inl (h c z)
      · exact .inr z
    · exact .inl q⟩
theorem Fw.perm {K : PySem.W.Frag} {μ μ' μ2 : Cells} {F H F' H' : Hp} (w : Fw (ks μ) (ks μ') F H F' H') (p : μ'.Perm μ2) : Fw (ks μ) (ks μ2) F H F' H' :=
  w.sub (fun _ h => h) fun x m => .inl ((p.map Prod.fst).mem_iff.mpr m)
theorem ks_app (a b : Cells) : ks (a ++ b) = ks a ++ ks b := List.map_append
theorem RpM.left {K : PySem.W.Frag} {F H : Hp} {μ μr : Cells} (r : RpM K F H (μ ++ μr)) : RpM K F H μ :=
  ⟨r.ex, by have h := r.nd; rw [ks_app] at h; exact (List.nodup_append.mp h).1, fun b ds m => r.cel b ds (List.mem_append_left _ m)⟩
theorem RpM.frame {K : PySem.W.Frag} {F H F' H' : Hp} {μ μ' μr : Cells} (r : RpM K F H (μ ++ μr)) (w : Fw (ks μ) (ks μ') F H F' H') (r' : RpM K F' H' μ') : RpM K F' H' (μ' ++ μr) ∧ Fw (ks (μ ++ μr)) (ks (μ' ++ μr)) F H F' H' := by
  have nd := r.nd
  rw [ks_app] at nd
  obtain ⟨_, n2, dj⟩ := List.nodup_append.mp nd
  have inr : ∀ b ∈ ks μr, F b = none ∧ H b ≠ none ∧ b ∉ ks μ := fun b m => by
    obtain ⟨⟨c, ds⟩, m1, e⟩ := List.mem_map.mp m
    have e' : c = b := e
    subst e'
    obtain ⟨f, h⟩ := r.cel c ds (List.mem_append_right _ m1)
    exact ⟨f, h.ne, fun z => dj c z c m rfl⟩
  refine ⟨⟨r'.ex, ?_, fun b ds m => ?_⟩, w.sub (fun x m => ?_) fun x m => ?_⟩
  · rw [ks_app]
    refine List.nodup_append.mpr ⟨r'.nd, n2, fun x mx y my e => ?_⟩
    subst e
    obtain ⟨_, h2, h3⟩ := inr x my
    rcases w.s x mx with z | z
    · exact h3 z
    · exact h2 z
  · rcases List.mem_append.mp m with m | m
    · exact r'.cel b ds m
    · obtain ⟨f, g⟩ := r.cel b ds (List.mem_append_right _ m)
      obtain ⟨_, h2, h3⟩ := inr b (List.mem_map.mpr ⟨_, m, rfl⟩)
      exact ⟨w.c b f h2 h3, g.to w.f fun o e => w.k b o e h3⟩
  · rw [ks_app]
    exact List.mem_append_left _ m
  · rw [ks_app] at m ⊢
    rcases List.mem_append.mp m with m | m
    · exact .inl m
    · exact .inr (List.mem_append_right _ m)
/-- the i-th cell's new content -/
theorem RpM.setO {K : PySem.W.Frag} {F H : Hp} {μ : Cells} {i : Nat} {b : Addr} {ds es : Cont} {o : HO} (r : RpM K F H μ) (hi : μ[i]? = some (b, (ds : Cont))) (h : CelOk K F (upd H b o) b es) :
    RpM K F (upd H b o) (μ.set i (b, es)) ∧ Fw (ks μ) (ks (μ.set i (b, es))) F H F (upd H b o) := by
  have hm : (b, ds) ∈ μ := List.mem_of_getElem? hi
  have hb : b ∈ ks μ := List.mem_map.mpr ⟨_, hm, rfl⟩
  obtain ⟨fb, _⟩ := r.cel b ds hm
  have hki : (ks μ)[i]? = some b := by
    show (μ.map Prod.fst)[i]? = some b
    rw [List.getElem?_map, hi]
    rfl
  have hil : i < μ.length := (List.getElem?_eq_some_iff.mp hi).1
  have ek : ks (μ.set i (b, es)) = ks μ := by
    show (μ.set i (b, es)).map Prod.fst = μ.map Prod.fst
    rw [List.map_set]
    refine List.ext_getElem? fun j => ?_
    by_cases hj : i = j
    · subst hj
      rw [List.getElem?_set_self (by rw [List.length_map]; exact hil)]
      exact hki.symm
    · rw [List.getElem?_set_ne hj]
  refine ⟨⟨fun c x q => ?_, by rw [ek]; exact r.nd, fun c fs q => ?_⟩, Same.refl F, fun c x q n => ?_, fun c q _ _ => q, fun c q => .inl (by rw [ek] at q; exact q)⟩
  · rw [upd_ne (ne_of_none q fb)]
    exact r.ex c x q
  · obtain ⟨j, hj⟩ := List.mem_iff_getElem?.mp q
    by_cases e : i = j
    · subst e
      rw [List.getElem?_set_self hil] at hj
      cases hj
      exact ⟨fb, h⟩
    · rw [List.getElem?_set_ne e] at hj
      obtain ⟨f, g⟩ := r.cel c fs (List.mem_of_getElem? hj)
      have nc : c ≠ b := fun z => by
        subst z
        have hkj : (ks μ)[j]? = some c := by
          show (μ.map Prod.fst)[j]? = some c
          rw [List.getElem?_map, hj]
          rfl
        exact e ((List.getElem?_inj (l := ks μ) (by show i < (μ.map Prod.fst).length; rw [List.length_map]; exact hil) r.nd).mp (hki.trans hkj.symm))
      exact ⟨f, g.to (Same.refl F) fun o e' => by rw [upd_ne nc]; exact e'⟩
  · rw [upd_ne fun z => n (by rw [z]; exact hb)]
    exact q

theorem RpM.setCQ {K : PySem.W.Frag} {F H : Hp} {μ : Cells} {i : Nat} {b : Addr} {ds es : List PyData} {vs : List V} (r : RpM K F H μ) (hi : μ[i]? = some (b, (ds : Cont))) (h : DqAll K F vs es) :
    RpM K F (upd H b (.lst vs)) (μ.set i (b, es)) ∧ Fw (ks μ) (ks (μ.set i (b, (es : Cont)))) F H F (upd H b (.lst vs)) := r.setO hi ⟨vs, upd_same, h⟩
theorem RpM.setC {K : PySem.W.Frag} {F H : Hp} {μ : Cells} {i : Nat} {b : Addr} {ds es : List PyData} {vs : List V} (r : RpM K F H μ) (hi : μ[i]? = some (b, (ds : Cont))) (h : DeAll K F vs es) :
    RpM K F (upd H b (.lst vs)) (μ.set i (b, es)) ∧ Fw (ks μ) (ks (μ.set i (b, (es : Cont)))) F H F (upd H b (.lst vs)) := r.setCQ hi (.of h)

section
variable {X : Cx} {δ : Dl} {μ : Cells} {e a b : Expr} {pos : Pos} {Q : Vd → Cells → Prop} {D : Dn} {st : Stmt} {rest : List Stmt}
/-! ### statements -/
theorem wb_nil (h : D.nx δ μ) : WB X [] δ μ D := fun F H σ R De b => toB pss_nil (b.nx F H σ δ μ Fw.refl R h)
theorem Bears.seq {K : PySem.W.Frag} {F H : Hp} {De : Ends} {t : TS} (b : Bears K F H μ D De) {N : Dl → Cells → Prop}
    (h : ∀ F' H' σ' δ' μ', Fw (ks μ) (ks μ') F H F' H' → Rp K F' H' σ' δ' μ' → N δ' μ' → t De σ' H') : Bears K F H μ { D with nx := N } { De with nx := t De } := ⟨h, b.rt, b.bk, b.ct⟩
theorem wb_cons (h : WS X st δ μ { D with nx := fun δ' μ' => WB X rest δ' μ' D }) : WB X (st :: rest) δ μ D := fun F H σ R De b =>
  toB (pss_cons (pcS X st) (pcB X rest)) (show cS X st { De with nx := cB X rest De } σ H from
    h F H σ R _ (b.seq fun F' H' σ' δ' μ' w R' q => q F' H' σ' R' De (b.next w)))
theorem wb_one (h : WS X st δ μ D) : WB X [st] δ μ D := fun F H σ R De b => toB (pss_one (pcS X st)) (h F H σ R De b)
theorem ws_pass (h : D.nx δ μ) : WS X (.Pass pos) δ μ D := fun F H σ R De b => toS ps_pass (b.nx F H σ δ μ Fw.refl R h)
theorem ws_brk (h : D.bk δ μ) : WS X (.Break pos) δ μ D := fun F H σ R De b => toS ps_break (b.bk F H σ δ μ Fw.refl R h)
theorem ws_cont (h : D.ct δ μ) : WS X (.Continue pos) δ μ D := fun F H σ R De b => toS ps_continue (b.ct F H σ δ μ Fw.refl R h)
theorem ws_expr (h : WE X e δ μ fun _ μ1 => D.nx δ μ1) (hs : swapsWith e none pos.line X.env = pure false := by rfl) : WS X (.Expr e pos) δ μ D := fun F H σ R De b =>
  toS (ps_expr (pcE X e) hs) (h F H σ R _ fun v x F1 H1 μ1 w1 R1 o1 q => b.nx F1 H1 σ δ μ1 w1 R1 q)
theorem ws_ret (h : WE X e δ μ D.rt) : WS X (.Return (some e) pos) δ μ D := fun F H σ R De b =>
  toS (ps_ret (pcE X e)) (h F H σ R _ fun v x F1 H1 μ1 w1 R1 o1 q => b.rt v x F1 H1 μ1 w1 R1.m o1 q)
theorem ws_retN (h : D.rt (.d .none) μ) : WS X (.Return none pos) δ μ D := fun F H σ R De b => toS ps_retN (b.rt _ (.d .none) F H μ Fw.refl R.m .non h)
theorem ws_if {c : Expr} {s1 s2 : List Stmt} (h : WT X c δ μ fun k μ1 => if k = true then WB X s1 δ μ1 D else WB X s2 δ μ1 D) : WS X (.If c s1 s2 pos) δ μ D := fun F H σ R De b =>
  toS (ps_if (pcT X c) (pcB X s1) (pcB X s2)) (h F H σ R _ fun k F1 H1 μ1 w1 R1 q => by
    cases k with
    | true => exact (show WB X s1 δ μ1 D from q) F1 H1 σ R1 De (b.next w1)
    | false => exact (show WB X s2 δ μ1 D from q) F1 H1 σ R1 De (b.next w1))
/-! ### targets -/
variable {is : List Nat} {G : Dl → Cells → Prop}
def Only (is : List Nat) (σ σ' : L2.St) : Prop := σ'.length = σ.length ∧ ∀ i, i ∉ is → σ'[i]? = σ[i]?
theorem Only.refl {σ : L2.St} : Only is σ σ := ⟨rfl, fun _ _ => rfl⟩
theorem Only.trans {σ σ1 σ2 : L2.St} (a : Only is σ σ1) (b : Only is σ1 σ2) : Only is σ σ2 := ⟨b.1.trans a.1, fun i h => (b.2 i h).trans (a.2 i h)⟩
theorem Only.set {σ : L2.St} {i : Nat} {x : Option V} (h : i ∈ is) : Only is σ (σ.set i x) := ⟨List.length_set, fun j hj => List.getElem?_set_ne fun z => hj (by rw [← z]; exact h)⟩
theorem wipe_get {σ : L2.St} {j : Nat} (hj : j < σ.length) : ∀ vs : List Nat, (wipe σ vs)[j]? = if j ∈ vs then some none else σ[j]?
  | [] => by simp [wipe]
  | v :: vs => by
    unfold wipe
    by_cases e : v = j
    · subst e
      rw [List.getElem?_set_self (by rw [wipe_length]; exact hj)]
      simp
    · rw [List.getElem?_set_ne e, wipe_get hj vs]
      have : (j ∈ v :: vs) ↔ j ∈ vs := by simp [Ne.symm e]
      simp only [this]
theorem Only.wipe {σ σ2 : L2.St} (h : Only is (L2.wipe σ is) σ2) : L2.wipe σ2 is = L2.wipe σ is := by
  refine List.ext_getElem? fun j => ?_
  have l2 : σ2.length = σ.length := h.1.trans (wipe_length σ is)
  by_cases hj : j < σ.length
  · rw [wipe_get (by rw [l2]; exact hj), wipe_get hj]
    split
    · rfl
    · rename_i hn
      rw [h.2 j hn, wipe_get hj, if_neg hn]
  · rw [List.getElem?_eq_none (by rw [wipe_length]; omega), List.getElem?_eq_none (by rw [wipe_length]; omega)]
def WGo (X : Cx) (is : List Nat) (tg : Expr) (x : Vd) (δ : Dl) (μ : Cells) (Q : Dl → Cells → Prop) : Prop := ∀ F H σ, Rp X.K F H σ δ μ → ∀ v, VOk X.K F x v → ∀ QV : L2.St → Hp → Prop,
  (∀ F' H' σ' δ' μ', Fw (ks μ) (ks μ') F H F' H' → Rp X.K F' H' σ' δ' μ' → Only is σ σ' → Q δ' μ' → QV σ' H') → cG X tg v σ H QV
def WGso (X : Cx) (is : List Nat) (ts : List Expr) (xs : List Vd) (δ : Dl) (μ : Cells) (Q : Dl → Cells → Prop) : Prop := ∀ F H σ, Rp X.K F H σ δ μ → ∀ vs, VAll X.K F xs vs → ∀ QV : L2.St → Hp → Prop,
  (∀ F' H' σ' δ' μ', Fw (ks μ) (ks μ') F H F' H' → Rp X.K F' H' σ' δ' μ' → Only is σ σ' → Q δ' μ' → QV σ' H') → cGs X ts vs σ H QV
theorem wg_name (i : Nat) {x : Str} {y : Vd} (hN : X.N.Nodup) (hi : X.N[i]? = some x) (hx : Loc X.env.scope x) (hf : X.fn x = true ∨ X.env.scope.names.lookup x = some .local) (hm : i ∈ is) (h : G (δ.set i (some y)) μ) :
    WGo X is (.Name x pos) y δ μ G := fun F H σ R v o QV c => toG (pg_name hN hi hx hf) (c F H _ _ μ Fw.refl (R.put i o) (Only.set hm) h)
theorem wgs_nil (h : G δ μ) : WGso X is [] [] δ μ G := fun F H σ R vs o QV c => by
  cases o
  exact toGs pgs_nil ⟨rfl, c F H σ δ μ Fw.refl R Only.refl h⟩
theorem wgs_cons {t : Expr} {ts : List Expr} {x : Vd} {xs : List Vd} (h : WGo X is t x δ μ fun δ1 μ1 => WGso X is ts xs δ1 μ1 G)
    (hs : (assignEach (t :: ts) X.env).map (·.2) = assign t X.env :: (assignEach ts X.env).map (·.2) := by rfl) : WGso X is (t :: ts) (x :: xs) δ μ G := fun F H σ R vs o QV c => by
  cases o with
  | cons o1 o2 =>
    exact toGs (pgs_cons (pcG X t) (pcGs X ts) hs) ⟨_, _, rfl, h F H σ R _ o1 _ fun F1 H1 σ1 δ1 μ1 w1 R1 y1 q => q F1 H1 σ1 R1 _ (VAll.up w1.f o2) QV fun F2 H2 σ2 δ2 μ2 w2 R2 y2 q2 => c F2 H2 σ2 δ2 μ2 (w1.trans w2) R2 (y1.trans y2) q2⟩
theorem vall_d {K : PySem.W.Frag} {F : Hp} : ∀ {ds : List PyData} {vs : List V}, DeAll K F vs ds → VAll K F (ds.map Vd.d) vs
  | [], _, h => by
    cases h
    exact .nil
  | d :: ds, _, h => by
    cases h with
    | cons h1 h2 => exact .cons h1 (vall_d h2)
theorem wg_tup {ts : List Expr} {k : Nat} {ds : List PyData} (hc : X.calm = true) (h : WGso X is ts (ds.map Vd.d) δ μ G) (hn : (assignEach ts X.env).length = ds.length := by rfl)
    (hst : (assignEach ts X.env).findIdx? (·.1) = none := by rfl) : WGo X is (.Tuple ts k pos) (.d (.tuple ds)) δ μ G := fun F H σ R v o QV c => by
  obtain ⟨a, vs, rfl, hs, hd⟩ := dp_tup o
  exact toG (pg_tup hc (pcGs X ts) hn hst) ⟨a, vs, rfl, same_t R.m.ex hs, dps_len hd, h F H σ R vs (vall_d hd) QV c⟩
theorem wg_tupW {ts : List Expr} {k : Nat} {ds : List PyData} (hc : X.calm = true) (h : WGso X is ts (ds.map Vd.d) δ μ G) (hn : (assignEach ts X.env).length = ds.length := by rfl)
    (hst : (assignEach ts X.env).findIdx? (·.1) = none := by rfl) : WGo X is (.Tuple ts k pos) (.w (.tuple ds)) δ μ G := fun F H σ R v o QV c => by
  obtain ⟨a, vs, ds', e0, rfl, hs, hd⟩ := o
  cases e0
  exact toG (pg_tup hc (pcGs X ts) hn hst) ⟨a, vs, rfl, same_t R.m.ex hs, dps_len hd, h F H σ R vs (vall_d hd) QV c⟩
/-! ### assignments -/
theorem ws_asg {tg : Expr} (is : List Nat) (h : WE X e δ μ fun x μ1 => WGo X is tg x δ μ1 D.nx) (hs : swapsWithSole [tg] e pos.line X.env = pure false := by rfl) (hw : swappedStores [tg] e X.env = pure none := by rfl)
    (h1 : (assignEach [tg] X.env).map (·.2) = [assign tg X.env] := by rfl) : WS X (.Assign [tg] e pos) δ μ D := fun F H σ R De b =>
  toS (ps_asg (pcE X e) (pcG X tg) hs hw h1) (h F H σ R _ fun v x F1 H1 μ1 w1 R1 o1 q => q F1 H1 σ R1 v o1 _ fun F2 H2 σ2 δ2 μ2 w2 R2 _ q2 => b.nx F2 H2 σ2 δ2 μ2 (w1.trans w2) R2 q2)
theorem ws_set (i : Nat) {x : Str} {pos' : Pos} (hN : X.N.Nodup) (hi : X.N[i]? = some x) (hx : Loc X.env.scope x) (hf : X.fn x = true ∨ X.env.scope.names.lookup x = some .local) (h : WE X e δ μ fun y μ1 => D.nx (δ.set i (some y)) μ1)
    (hs : swapsWith e (some (.Name x pos')) pos.line X.env = pure false := by rfl) : WS X (.Assign [.Name x pos'] e pos) δ μ D := fun F H σ R De b =>
  toS (ps_set hN hi hx (pcE X e) hs hf) (h F H σ R _ fun v y F1 H1 μ1 w1 R1 o1 q => b.nx F1 H1 _ _ μ1 w1 (R1.put i o1) q)
theorem ws_par (i j : Nat) {x y : Str} {px py pt : Pos} {kt k2 : Nat} {pt2 : Pos} (hc : X.calm = true) (hN : X.N.Nodup) (hi : X.N[i]? = some x) (hj : X.N[j]? = some y) (hij : i ≠ j)
    (hx : X.env.scope.names.lookup x = some .local) (hy : X.env.scope.names.lookup y = some .local)
    (h : WE X a δ μ fun v μ1 => WE X b δ μ1 fun u μ2 => D.nx ((δ.set i (some v)).set j (some u)) μ2)
    (hw : swappedStores [.Tuple [.Name x px, .Name y py] kt pt] (.Tuple [a, b] k2 pt2) X.env = pure (some [x, y]))
    (hs : swapsWithSole [.Tuple [.Name x px, .Name y py] kt pt] (.Tuple [a, b] k2 pt2) pos.line X.env = pure false := by rfl)
    (q1 : starEach [a, b] X.env = (false, eval a X.env) :: starEach [b] X.env := by rfl) (q2 : starEach [b] X.env = (false, eval b X.env) :: starEach [] X.env := by rfl) :
    WS X (.Assign [.Tuple [.Name x px, .Name y py] kt pt] (.Tuple [a, b] k2 pt2) pos) δ μ D := fun F H σ R De bb =>
  toS (ps_par hc hN hi hj hij hx hy (pa_cons (pcE X a) (pa_cons (pcE X b) pa_nil q2) q1) hw hs) (h F H σ R _ fun v x F1 H1 μ1 w1 R1 o1 q => q F1 H1 σ R1 _ fun u y F2 H2 μ2 w2 R2 o2 q2 =>
    ⟨v, u, rfl, bb.nx F2 H2 _ _ μ2 (w1.trans w2) ((R2.put i (o1.up w2.f)).put j o2) q2⟩)
/-- t1, t2, .. = a, b, .. by way of a tuple that is let go -/
theorem ws_tups {ts es : List Expr} {kt k2 : Nat} {pt pt2 : Pos} (is : List Nat) (hc : X.calm = true) (h : WA X es δ μ fun xs μ1 => xs.length = es.length ∧ es.length ≤ 1000 ∧ WGso X is ts xs δ μ1 D.nx) (hn : (assignEach ts X.env).length = es.length := by rfl)
    (hst : (assignEach ts X.env).findIdx? (·.1) = none := by rfl)
    (hs : swapsWithSole [.Tuple ts kt pt] (.Tuple es k2 pt2) pos.line X.env = pure false := by rfl) (hw : swappedStores [.Tuple ts kt pt] (.Tuple es k2 pt2) X.env = pure none := by rfl)
    (h1 : (assignEach [.Tuple ts kt pt] X.env).map (·.2) = [assign (.Tuple ts kt pt) X.env] := by rfl) : WS X (.Assign [.Tuple ts kt pt] (.Tuple es k2 pt2) pos) δ μ D := fun F H σ R De bb =>
  toS (ps_asg (pe_tup (pcA X es)) (pg_tup (n := es.length) hc (pcGs X ts) hn hst) hs hw h1) (h F H σ R _ fun vs xs F1 H1 μ1 w1 R1 o1 q => by
    obtain ⟨ql, qz, q⟩ := q
    have lv : vs.length = es.length := (Paired.length o1).symm.trans ql
    refine ⟨by rw [lv]; exact Nat.le_trans qz (by decide), fun p np => ⟨p, vs, rfl, .of upd_same, lv, ?_⟩⟩
    have R2 : Rp X.K F1 (upd H1 p (.tup vs)) σ δ μ1 := ⟨⟨fun c o z => by
        rw [upd_ne (ne_of_none (R1.m.ex c o z) np)]
        exact R1.m.ex c o z, R1.m.nd, fun c ds m => by
        obtain ⟨f, g⟩ := R1.m.cel c ds m
        exact ⟨f, g.to (Same.refl _) fun o z => by rw [upd_ne (ne_of_none z np)]; exact z⟩⟩, R1.len, R1.env⟩
    have w2 : Fw (ks μ1) (ks μ1) F1 H1 F1 (upd H1 p (.tup vs)) := ⟨Same.refl _, fun c o z _ => by
        rw [upd_ne (ne_of_none z np)]
        exact z, fun c z _ _ => z, fun c m => .inl m⟩
    exact q F1 _ σ R2 vs o1 _ fun F3 H3 σ3 δ3 μ3 w3 R3 _ q3 => bb.nx F3 H3 σ3 δ3 μ3 ((w1.trans w2).trans w3) R3 q3)
/-- x op= e -/
theorem ws_aug (i : Nat) {x : Str} {y : Vd} {op : Operator} {r : R2} {pos' : Pos} (hN : X.N.Nodup) (hi : X.N[i]? = some x) (hx : Loc X.env.scope x) (hf : X.fn x = true ∨ X.env.scope.names.lookup x = some .local) (hδ : δ[i]? = some (some y)) (ho : OpR X (inplaceOp op) r)
    (h : WE X e δ μ fun u μ1 => OpW X.K r y u μ1 fun z μ2 => D.nx (δ.set i (some z)) μ2) : WS X (.AugAssign (.Name x pos') op e pos) δ μ D := fun F H σ R De b => by
  obtain ⟨v, e1, e2⟩ := R.env i y hδ
  have ho' : PIp X op (fun x y H Q => r x y H Q) := fun pins s σ H x y v u Q I rx ry h => ho pins s σ H x y v u Q I rx ry h
  exact toS (ps_aug hN hi hx (pcE X e) ho' hf) ⟨v, e1, h F H σ R _ fun u y2 F1 H1 μ1 w1 R1 o1 q => q F1 H1 v u R1.m (e2.up w1.f) o1 _ fun z w F2 H2 μ2 w2 m2 o2 q2 => b.nx F2 H2 _ _ μ2 (w1.trans w2) ((R1.to w2.f m2).put i o2) q2⟩
/-! ### freezing a cell -/
theorem Bears.frz {K : PySem.W.Frag} {F F' H : Hp} {De : Ends} {μ' : Cells} (b : Bears K F H μ D De) (w : Fw (ks μ) (ks μ') F H F' H) : Bears K F' H μ' D De := b.next w
theorem Rp.frz {K : PySem.W.Frag} {F H : Hp} {σ : L2.St} {p : Addr} {ds : List PyData} (R : Rp K F H σ δ ((p, ds) :: μ)) (pl : plS ds) (js : List Nat) (hj : ∀ j ∈ js, δ[j]? = some (some (.a p))) : ∃ F', Rp K F' H σ (js.foldl (fun d j => d.set j (some (.d (.list ds)))) δ) μ ∧ Fw (ks ((p, ds) :: μ)) (ks μ) F H F' H := by
  obtain ⟨vs, hp, hd, m, sf, fp, out⟩ := R.m.freeze pl
  refine ⟨_, ?_, ⟨sf, fun b o e _ => e, fun b e hb nb => ?_, fun b hb => .inl (List.mem_cons_of_mem _ hb)⟩⟩
  · have key : ∀ (js : List Nat) (d : Dl), Rp K (upd F p (.lst vs)) H σ d μ → (∀ j ∈ js, ∃ v, σ[j]? = some (some v) ∧ v = .ref p) → Rp K (upd F p (.lst vs)) H σ (js.foldl (fun d j => d.set j (some (.d (.list ds)))) d) μ := by
      intro js
      induction js with
      | nil => intro d r _; exact r
      | cons j r ih =>
        intro d rr hh
        refine ih _ ?_ fun k hk => hh k (List.mem_cons_of_mem _ hk)
        obtain ⟨v, e1, e2⟩ := hh j List.mem_cons_self
        have := rr.put (x := .d (.list ds)) (v := v) j (by rw [e2]; exact .lst upd_same hd)
        have es : σ.set j (some v) = σ := by
          refine List.ext_getElem? fun k => ?_
          by_cases hk : j = k
          · subst hk
            rw [e1, List.getElem?_set_self (List.getElem?_eq_some_iff.mp e1).1]
          · rw [List.getElem?_set_ne hk]
        rw [es] at this
        exact this
    exact key js δ (R.to sf m) fun j h => R.env j _ (hj j h)
  · rw [upd_ne]
    · exact e
    · intro z
      exact nb (z ▸ List.mem_cons_self)
theorem wb_frz {p : Addr} {ds : List PyData} {sts : List Stmt} (i : Nat) (js : List Nat) (hi : μ[i]? = some (p, (ds : Cont))) (hj : ∀ j ∈ js, δ[j]? = some (some (.a p))) (h : WB X sts (js.foldl (fun d j => d.set j (some (.d (.list ds)))) δ) (μ.eraseIdx i) D) (pl : plS ds := by repeat' first | exact plS_nil | exact plS_map (fun _ => rfl) | refine plS_app ?_ ?_ | refine plS_cons rfl ?_ | assumption) : WB X sts δ μ D := fun F H σ R De b => by
  have pm : μ.Perm ((p, ds) :: μ.eraseIdx i) := by
    obtain ⟨hl, e⟩ := List.getElem?_eq_some_iff.mp hi
    rw [← e]
    exact perm_erase hl
  obtain ⟨F', R', w⟩ := (R.perm pm).frz pl js hj
  have w' : Fw (ks μ) (ks (μ.eraseIdx i)) F H F' H := w.sub (fun x m => (pm.map Prod.fst).mem_iff.mpr m) fun x m => .inl m
  exact h F' H σ R' De (b.next w')
end
end Ec

set_option Elab.async false
set_option linter.all false
set_option maxRecDepth 100000
set_option maxHeartbeats 4000000
namespace Ec
open PySem PySem.Spec PyProof.Rows L2
section
variable {X : Cx} {δ : Dl} {μ : Cells} {e a b : Expr} {pos : Pos} {Q : Vd → Cells → Prop} {D : Dn}
theorem RpM.nil_up {K : PySem.W.Frag} {F H F' H' : Hp} {μ : Cells} (r : RpM K F H μ) (f : Same F F') (h : Same F' H') (k : Same H H') (c : ∀ b, F b = none → H b ≠ none → F' b = none) : RpM K F' H' μ ∧ Fw (ks μ) (ks μ) F H F' H' := by
  refine ⟨⟨h, r.nd, fun b ds m => ?_⟩, f, fun b o e _ => k b o e, fun b e q _ => c b e q, fun b m => .inl m⟩
  obtain ⟨f0, g⟩ := r.cel b ds m
  exact ⟨c b f0 g.ne, g.to f fun o e => k b o e⟩
/-! ### for -/
theorem ws_forG {iv : PyData → Vd} {tg iter : Expr} {body : List Stmt} (is : List Nat) (hp : PassesOwn (model X.prog X.w) X.A X.env X.xe) (hc : X.calm = true)
    (h : WI X tg iter δ μ fun ds μ1 => ∃ I : Nat → Dl → Cells → Prop, I 0 δ μ1 ∧ (∀ i d δ' μ', ds[i]? = some d → I i δ' μ' → WGo X is tg (iv d) δ' μ' fun δ2 μ2 => WB X body δ2 μ2 { nx := I (i + 1), rt := D.rt, bk := D.nx, ct := I (i + 1) }) ∧ ∀ δ' μ', I ds.length δ' μ' → D.nx δ' μ')
    (hw : itV iter = iv)
    (hs : ∀ x, foldedSetIterable iter X.env x = pure x := by intro _; rfl) : WS X (.For tg iter body [] pos) δ μ D := fun F H σ R De b =>
  toS (ps_for hp hc (pcI X tg iter) (pcG X tg) (pcB X body) hs) (h F H σ R _ fun J ds F1 H1 μ1 w1 R1 wk q => by
    subst hw
    obtain ⟨I, h0, hturn, hend⟩ := q
    refine ⟨fun i m σ' H' => m = ds.length - i ∧ i ≤ ds.length ∧ ∃ F' δ' μ', Fw (ks μ1) (ks μ') F1 H1 F' H' ∧ Rp X.K F' H' σ' δ' μ' ∧ I i δ' μ', ⟨_, rfl, Nat.zero_le _, F1, δ, μ1, Fw.refl, R1, h0⟩, ?_⟩
    rintro i m σ' H' ⟨rfl, hi, F', δ', μ', w', R', hI⟩
    by_cases hlt : i < ds.length
    · refine .inr ⟨wk.go i F' H' hlt w'.f R'.m.ex, _, fun _ _ z => z, fun x H2 y => ?_⟩
      obtain ⟨F2, f1, f2, f3, f4, f5⟩ := wk.yld i F' H' x H2 _ (List.getElem?_eq_getElem hlt) w'.f R'.m.ex y
      obtain ⟨m2, w2⟩ := R'.m.nil_up f1 f2 f3 f4
      refine hturn i _ δ' μ' (List.getElem?_eq_getElem hlt) hI F2 H2 σ' (R'.to f1 m2) x f5 _ fun F3 H3 σ3 δ3 μ3 w3 R3 _ q3 => ?_
      have wa := (w'.trans w2).trans w3
      have back : ∀ F4 H4 σ4 δ4 μ4, Fw (ks μ3) (ks μ4) F3 H3 F4 H4 → Rp X.K F4 H4 σ4 δ4 μ4 → I (i + 1) δ4 μ4 → ∃ m', m' < ds.length - i ∧ (m' = ds.length - (i + 1) ∧ i + 1 ≤ ds.length ∧ ∃ F' δ' μ', Fw (ks μ1) (ks μ') F1 H1 F' H4 ∧ Rp X.K F' H4 σ4 δ' μ' ∧ I (i + 1) δ' μ') :=
        fun F4 H4 σ4 δ4 μ4 w4 R4 q4 => ⟨_, by omega, rfl, hlt, F4, δ4, μ4, wa.trans w4, R4, q4⟩
      have bb := (b.next w1).next wa
      exact q3 F3 H3 σ3 R3 _ ⟨back, bb.rt, bb.nx, back⟩
    · have e : i = ds.length := by omega
      subst e
      exact .inl ⟨wk.stop F' H' w'.f R'.m.ex, b.nx F' H' σ' δ' μ' (w1.trans w') R' (hend δ' μ' hI)⟩)
theorem ws_for {tg iter : Expr} {body : List Stmt} (is : List Nat) (hp : PassesOwn (model X.prog X.w) X.A X.env X.xe) (hc : X.calm = true)
    (h : WI X tg iter δ μ fun ds μ1 => ∃ I : Nat → Dl → Cells → Prop, I 0 δ μ1 ∧ (∀ i d δ' μ', ds[i]? = some d → I i δ' μ' → WGo X is tg (.d d) δ' μ' fun δ2 μ2 => WB X body δ2 μ2 { nx := I (i + 1), rt := D.rt, bk := D.nx, ct := I (i + 1) }) ∧ ∀ δ' μ', I ds.length δ' μ' → D.nx δ' μ')
    (hs : ∀ x, foldedSetIterable iter X.env x = pure x := by intro _; rfl) (hw : itV iter = Vd.d := by rfl) : WS X (.For tg iter body [] pos) δ μ D := ws_forG is hp hc h hw hs
theorem ws_forW {tg iter : Expr} {body : List Stmt} (is : List Nat) (hp : PassesOwn (model X.prog X.w) X.A X.env X.xe) (hc : X.calm = true)
    (h : WI X tg iter δ μ fun ds μ1 => ∃ I : Nat → Dl → Cells → Prop, I 0 δ μ1 ∧ (∀ i d δ' μ', ds[i]? = some d → I i δ' μ' → WGo X is tg (.w d) δ' μ' fun δ2 μ2 => WB X body δ2 μ2 { nx := I (i + 1), rt := D.rt, bk := D.nx, ct := I (i + 1) }) ∧ ∀ δ' μ', I ds.length δ' μ' → D.nx δ' μ')
    (hs : ∀ x, foldedSetIterable iter X.env x = pure x := by intro _; rfl) (hw : itV iter = Vd.w := by rfl) : WS X (.For tg iter body [] pos) δ μ D := ws_forG is hp hc h hw hs
/-! ### while -/
theorem ws_while {c : Expr} {body : List Stmt} (hp : PassesOwn (model X.prog X.w) X.A X.env X.xe) (I : Nat → Dl → Cells → Prop) (h0 : ∃ m, I m δ μ)
    (h : ∀ m δ' μ', I m δ' μ' → WT X c δ' μ' fun k μ1 => if k = true then WB X body δ' μ1 { nx := fun δ2 μ2 => ∃ m', m' < m ∧ I m' δ2 μ2, rt := D.rt, bk := D.nx, ct := fun δ2 μ2 => ∃ m', m' < m ∧ I m' δ2 μ2 } else D.nx δ' μ1) : WS X (.While c body [] pos) δ μ D := fun F H σ R De b =>
  toS (ps_while hp (pcT X c) (pcB X body)) (by
    obtain ⟨m0, h0⟩ := h0
    refine ⟨fun m σ' H' => ∃ F' δ' μ', Fw (ks μ) (ks μ') F H F' H' ∧ Rp X.K F' H' σ' δ' μ' ∧ I m δ' μ', ⟨m0, F, δ, μ, Fw.refl, R, h0⟩, ?_⟩
    rintro m σ' H' ⟨F', δ', μ', w', R', hI⟩
    refine h m δ' μ' hI F' H' σ' R' _ fun k F1 H1 μ1 w1 R1 q => ?_
    have bb := (b.next w').next w1
    cases k with
    | true =>
      have back : ∀ F4 H4 σ4 δ4 μ4, Fw (ks μ1) (ks μ4) F1 H1 F4 H4 → Rp X.K F4 H4 σ4 δ4 μ4 → (∃ m', m' < m ∧ I m' δ4 μ4) → ∃ m', m' < m ∧ ∃ F' δ' μ', Fw (ks μ) (ks μ') F H F' H4 ∧ Rp X.K F' H4 σ4 δ' μ' ∧ I m' δ' μ' :=
        fun F4 H4 σ4 δ4 μ4 w4 R4 ⟨m', hm, q4⟩ => ⟨m', hm, F4, δ4, μ4, (w'.trans w1).trans w4, R4, q4⟩
      exact ⟨_, fun _ _ z => z, (show WB X body δ' μ1 _ from q) F1 H1 σ' R1 _ ⟨back, bb.rt, bb.nx, back⟩⟩
    | false => exact bb.nx F1 H1 σ' δ' μ1 Fw.refl R1 q)
/-! ### comprehensions -/
def Blk (X : Cx) (scope : Scope) (Φ : Cx → Prop) : Prop := ∀ (s : Shared) (H : Hp) (C : Addr) (cl : List (Str × Addr)) (fp : List Addr), Φ (X.blk s H scope (compEnvC scope cl C X.env) fp)
def WTs (X : Cx) (ifs : List Expr) (δ : Dl) (μ : Cells) (Q : Bool → Cells → Prop) : Prop := match ifs with
  | [] => Q true μ
  | [c] => WT X c δ μ Q
  | _ => False
def gB (X : Cx) (scope : Scope) (tg : Expr) : TG := fun v σ H Q => Blk X scope fun Y => cG Y tg v σ H Q
def tB (X : Cx) (scope : Scope) (ifs : List Expr) : TT := fun σ H Q => match ifs with | [] => Q true H | [c] => Blk X scope fun Y => cT Y c σ H Q | _ => False
def eB (X : Cx) (scope : Scope) (elt : Expr) : TE := fun σ H Q => Blk X scope fun Y => cE Y elt σ H Q
theorem pgB (scope : Scope) (tg : Expr) (s : Shared) (H : Hp) (C : Addr) (cl : List (Str × Addr)) (fp : List Addr) : PG (X.blk s H scope (compEnvC scope cl C X.env) fp) tg (gB X scope tg) := ⟨fun pins s1 σ1 H1 v u Q1 I r hh => hh s H C cl fp pins s1 u I r⟩
theorem ptB (scope : Scope) (ifs : List Expr) (s : Shared) (H : Hp) (C : Addr) (cl : List (Str × Addr)) (fp : List Addr) : PTs (X.blk s H scope (compEnvC scope cl C X.env) fp) ifs (tB X scope ifs) := match ifs with
  | [] => pts_nil
  | [c] => pts_one ⟨fun pins s1 σ1 H1 Q1 I hh => hh s H C cl fp pins s1 I⟩
  | _ :: _ :: _ => ⟨fun _ _ _ _ _ _ hh => hh.elim⟩
theorem peB (scope : Scope) (elt : Expr) (s : Shared) (H : Hp) (C : Addr) (cl : List (Str × Addr)) (fp : List Addr) : PE (X.blk s H scope (compEnvC scope cl C X.env) fp) elt (eB X scope elt) := ⟨fun pins s1 σ1 H1 Q1 I hh => hh s H C cl fp pins s1 I⟩
/-- a value as an item of a cell -/
def toC : Vd → PyData
  | .d x => x
  | .a p => ptr p
  | .w x => x
  | .s ns => .list (intsD ns)
  | .k p _ => ptr p
  | .e p _ _ _ => ptr p
  | .z p kvs => zd p kvs
theorem VOk.toC {K : PySem.W.Frag} {F : Hp} : ∀ {x : Vd} {v : V}, (∀ d, x ≠ .w d ∧ ∀ ns, x ≠ .s ns) → VOk K F x v → Dq K F v (toC x)
  | .d _, _, _, h => .d h
  | .a p, _, _, h => by
    rw [show _ = V.ref p from h]
    exact .p p
  | .w d, _, n, _ => absurd rfl (n d).1
  | .s ns, _, n, _ => absurd rfl ((n .none).2 ns)
  | .k p _, _, _, h => by
    rw [h.1]
    exact .p p
  | .e p _ _ _, _, _, h => by
    rw [h.1]
    exact .p p
  | .z p kvs, _, _, h => by
    rw [h.1]
    exact .z h.2
/-- what a comprehension asks -/
def LcPg (iv : PyData → Vd) (X : Cx) (scope : Scope) (own : List (Str × Nat)) (elt tg iter : Expr) (ifs : List Expr) (δ : Dl) (μ : Cells) (Q : Vd → Cells → Prop) : Prop :=
  WI X tg iter δ μ fun ds μ1 => ∃ I : Nat → List PyData → Cells → Prop, I 0 [] μ1 ∧ ds.length ≤ 100000 ∧ (∀ i acc μ', I i acc μ' → acc.length ≤ i) ∧
      (∀ i d acc μ', ds[i]? = some d → I i acc μ' → Blk X scope fun Y => WGo Y (own.map (·.2)) tg (iv d) (wipeD δ (own.map (·.2))) μ' fun δ2 μ2 => Blk X scope fun Y => WTs Y ifs δ2 μ2 fun k μ3 =>
        if k = true then Blk X scope fun Y => WE Y elt δ2 μ3 fun y μ4 => ∃ yd, y = .d yd ∧ I (i + 1) (acc ++ [yd]) μ4 else I (i + 1) acc μ3) ∧
      ∀ acc μ', I ds.length acc μ' → ∀ p, Q (.a p) ((p, acc) :: μ')
/-- what a comprehension asks -/
def LcQg (iv : PyData → Vd) (X : Cx) (scope : Scope) (own : List (Str × Nat)) (elt tg iter : Expr) (ifs : List Expr) (δ : Dl) (μ : Cells) (Q : Vd → Cells → Prop) : Prop :=
  WI X tg iter δ μ fun ds μ1 => ∃ I : Nat → List PyData → Cells → Prop, I 0 [] μ1 ∧ ds.length ≤ 100000 ∧ (∀ i acc μ', I i acc μ' → acc.length ≤ i) ∧
      (∀ i d acc μ', ds[i]? = some d → I i acc μ' → Blk X scope fun Y => WGo Y (own.map (·.2)) tg (iv d) (wipeD δ (own.map (·.2))) μ' fun δ2 μ2 => Blk X scope fun Y => WTs Y ifs δ2 μ2 fun k μ3 =>
        if k = true then Blk X scope fun Y => WE Y elt δ2 μ3 fun y μ4 => (∀ z, y ≠ .w z ∧ ∀ ns, y ≠ .s ns) ∧ I (i + 1) (acc ++ [toC y]) μ4 else I (i + 1) acc μ3) ∧
      ∀ acc μ', I ds.length acc μ' → ∀ p, Q (.a p) ((p, acc) :: μ')
abbrev LcP := LcPg Vd.d
abbrev LcQ := LcQg Vd.d
theorem LcPg.q {iv : PyData → Vd} {elt tg iter : Expr} {ifs : List Expr} {scope : Scope} {own : List (Str × Nat)} (h : LcPg iv X scope own elt tg iter ifs δ μ Q) : LcQg iv X scope own elt tg iter ifs δ μ Q := fun F H σ R RV c =>
  h F H σ R RV fun J ds F1 H1 μ1 w1 R1 wk q => c J ds F1 H1 μ1 w1 R1 wk (by
    obtain ⟨I, h0, hz, hacc, hturn, hend⟩ := q
    refine ⟨I, h0, hz, hacc, fun i d acc μ' hd hI s0 H0 C0 cl0 fp0 F3 H3 σ3 R3 v o3 QV c3 => hturn i d acc μ' hd hI s0 H0 C0 cl0 fp0 F3 H3 σ3 R3 v o3 QV fun F' H' σ' δ' μ' w' R' y' q' => c3 F' H' σ' δ' μ' w' R' y' ?_, hend⟩
    intro s1 H1 C1 cl1 fp1
    have q1 := q' s1 H1 C1 cl1 fp1
    have up : ∀ k μ3, (if k = true then Blk X scope fun Y => WE Y elt δ' μ3 fun y μ4 => ∃ yd, y = .d yd ∧ I (i + 1) (acc ++ [yd]) μ4 else I (i + 1) acc μ3) → if k = true then Blk X scope fun Y => WE Y elt δ' μ3 fun y μ4 => (∀ z, y ≠ .w z ∧ ∀ ns, y ≠ .s ns) ∧ I (i + 1) (acc ++ [toC y]) μ4 else I (i + 1) acc μ3 := fun k μ3 z => by
      cases k with
      | false => exact z
      | true =>
        intro s2 H2 C2 cl2 fp2
        refine (z s2 H2 C2 cl2 fp2).mono fun y μ4 q => ?_
        obtain ⟨yd, rfl, q⟩ := q
        exact ⟨(fun z => ⟨(fun e => by cases e), fun ns e => by cases e⟩), q⟩
    match ifs, q1 with
    | [], q1 => exact up true _ q1
    | [cnd], q1 => exact WT.mono (e := cnd) q1 fun k μ3 z => up k μ3 z
    | _ :: _ :: _, q1 => exact q1.elim)
theorem lc_read {iv : PyData → Vd} {elt tg iter : Expr} {ifs : List Expr} {scope : Scope} {own : List (Str × Nat)} (h : LcQg iv X scope own elt tg iter ifs δ μ Q) (hw : itV iter = iv) {F H : Hp} {σ : L2.St} (R : Rp X.K F H σ δ μ) {QV : VK}
    (c : ∀ v x F' H' μ', Fw (ks μ) (ks μ') F H F' H' → Rp X.K F' H' σ δ μ' → VOk X.K F' x v → Q x μ' → QV v H') : tLc (cI X tg iter) (gB X scope tg) (tB X scope ifs) (eB X scope elt) (own.map (·.2)) σ H QV := by
  subst hw
  refine h F H σ R _ fun J ds F1 H1 μ1 w1 R1 wk q => ?_
  obtain ⟨I, h0, hz, hacc, hturn, hend⟩ := q
  intro L nL
  obtain ⟨m0, w0⟩ := R1.m.cell (ds := []) (vs := []) nL .nil
  have pm : ∀ (μ' : Cells) (acc : List PyData), ((L, Cont.l acc) :: μ').Perm (μ' ++ [(L, Cont.l acc)]) := fun μ' acc => (List.perm_append_singleton (L, Cont.l acc) μ').symm
  refine ⟨fun i m H' => m = ds.length - i ∧ i ≤ ds.length ∧ ∃ F' μ' acc, Fw (ks μ1) (ks (μ' ++ [(L, Cont.l acc)])) F1 H1 F' H' ∧ Rp X.K F' H' σ δ (μ' ++ [(L, Cont.l acc)]) ∧ I i acc μ',
    ⟨_, rfl, Nat.zero_le _, F1, μ1, [], w0.perm (K := X.K) (pm μ1 []), (R1.to w0.f m0).perm (pm μ1 []), h0⟩, ?_⟩
  rintro i m H' ⟨rfl, hi, F', μ', acc, w', R', hI⟩
  by_cases hlt : i < ds.length
  · refine .inr ⟨wk.go i F' H' hlt w'.f R'.m.ex, _, fun _ z => z, fun x H2 y => ?_⟩
    obtain ⟨F2, f1, f2, f3, f4, f5⟩ := wk.yld i F' H' x H2 _ (List.getElem?_eq_getElem hlt) w'.f R'.m.ex y
    obtain ⟨m2, w2⟩ := R'.m.nil_up f1 f2 f3 f4
    have R2 : Rp X.K F2 H2 σ δ (μ' ++ [(L, Cont.l acc)]) := R'.to f1 m2
    have R2l : Rp X.K F2 H2 σ δ μ' := ⟨R2.m.left, R2.len, R2.env⟩
    intro s0 H0 C0 cl0 fp0
    refine hturn i _ acc μ' (List.getElem?_eq_getElem hlt) hI s0 H0 C0 cl0 fp0 F2 H2 _ (R2l.wiped (own.map (·.2))) x f5 _ fun F3 H3 σ3 δ3 μ3 w3 R3 y3 q3 => ⟨y3.wipe, ?_⟩
    obtain ⟨m3, w3'⟩ := R2.m.frame w3 R3.m
    have go : ∀ k F4 H4 μ4, Fw (ks μ3) (ks μ4) F3 H3 F4 H4 → Rp X.K F4 H4 σ3 δ3 μ4 → (if k = true then Blk X scope fun Y => WE Y elt δ3 μ4 fun y μ5 => (∀ z, y ≠ .w z ∧ ∀ ns, y ≠ .s ns) ∧ I (i + 1) (acc ++ [toC y]) μ5 else I (i + 1) acc μ4) →
        if k = true then (Blk X scope fun Y => cE Y elt σ3 H4 fun y H5 => ∃ acc, H5 L = some (.lst acc) ∧ acc.length < sizeLine ∧ (fun H' => ∃ m', m' < ds.length - i ∧ (m' = ds.length - (i + 1) ∧ i + 1 ≤ ds.length ∧ ∃ F' μ' acc, Fw (ks μ1) (ks (μ' ++ [(L, Cont.l acc)])) F1 H1 F' H' ∧ Rp X.K F' H' σ δ (μ' ++ [(L, Cont.l acc)]) ∧ I (i + 1) acc μ')) (upd H5 L (.lst (acc ++ [y])))) else
          (fun H' => ∃ m', m' < ds.length - i ∧ (m' = ds.length - (i + 1) ∧ i + 1 ≤ ds.length ∧ ∃ F' μ' acc, Fw (ks μ1) (ks (μ' ++ [(L, Cont.l acc)])) F1 H1 F' H' ∧ Rp X.K F' H' σ δ (μ' ++ [(L, Cont.l acc)]) ∧ I (i + 1) acc μ')) H4 := by
      intro k F4 H4 μ4 w4 R4 q4
      obtain ⟨m4, w4'⟩ := m3.frame w4 R4.m
      cases k with
      | false => exact ⟨_, by omega, rfl, hlt, F4, μ4, acc, ((w'.trans w2).trans w3').trans w4', (R2.to (w3.f.trans w4.f) m4), q4⟩
      | true =>
        intro s5 H5' C5 cl5 fp5
        refine q4 s5 H5' C5 cl5 fp5 F4 H4 σ3 R4 _ fun v yv F5 H5 μ5 w5 R5 o5 q5' => ?_
        obtain ⟨nw5, q5⟩ := q5'
        obtain ⟨m5, w5'⟩ := m4.frame w5 R5.m
        obtain ⟨fL, vs, hL, gL⟩ := m5.cel L (.l acc) (List.mem_append_right _ List.mem_cons_self)
        have il : (μ5 ++ [(L, Cont.l acc)])[μ5.length]? = some (L, Cont.l acc) := by simp
        obtain ⟨m6, w6⟩ := m5.setCQ (es := acc ++ [toC yv]) il (dqs_app gL (.cons (VOk.toC nw5 o5) .nil))
        have es : (μ5 ++ [(L, Cont.l acc)]).set μ5.length (L, Cont.l (acc ++ [toC yv])) = μ5 ++ [(L, Cont.l (acc ++ [toC yv]))] := by
          rw [List.set_append_right _ _ (Nat.le_refl _), Nat.sub_self]
          rfl
        rw [es] at m6 w6
        refine ⟨vs, hL, ?_, _, by omega, rfl, hlt, F5, μ5, acc ++ [toC yv], ((((w'.trans w2).trans w3').trans w4').trans w5').trans w6, R2.to ((w3.f.trans w4.f).trans w5.f) m6, q5⟩
        rw [dqs_len gL]
        exact Nat.lt_of_le_of_lt (Nat.le_trans (hacc i acc μ' hI) (Nat.le_trans hi hz)) (by decide)
    match ifs, q3 with
    | [], q3 => exact go true F3 H3 μ3 Fw.refl R3 (q3 s0 H0 C0 cl0 fp0)
    | [cnd], q3 => exact fun s4 H4' C4 cl4 fp4 => q3 s4 H4' C4 cl4 fp4 F3 H3 σ3 R3 _ fun k F4 H4 μ4 w4 R4 q4 => go k F4 H4 μ4 w4 R4 q4
    | _ :: _ :: _, q3 => exact (q3 s0 H0 C0 cl0 fp0).elim
  · have e : i = ds.length := by omega
    subst e
    refine .inl ⟨wk.stop F' H' w'.f R'.m.ex, ?_⟩
    have pm' := (pm μ' acc).symm
    exact c _ (.a L) F' H' _ (w1.trans (w'.perm (K := X.K) pm')) (R'.perm pm') rfl (hend acc μ' hI L)
theorem we_lcQ {elt tg iter : Expr} {ifs : List Expr} {scope : Scope} (own : List (Str × Nat)) (hc : X.calm = true) (hN : X.N.Nodup) (ok : BlkOk X.N X.env.scope scope own) (h : LcQ X scope own elt tg iter ifs δ μ Q)
    (hs : ∀ x, foldedSetIterable iter X.env x = pure x := by intro _; rfl) (hw : itV iter = Vd.d := by rfl) : WE X (.ListComp elt [⟨tg, iter, ifs, 0⟩] scope pos) δ μ Q := fun F H σ R QV c =>
  toE (pe_lc hc hN (pcI X tg iter) ok (pgB scope tg) (ptB scope ifs) (peB scope elt) hs) (lc_read h hw R c)
theorem we_lc {elt tg iter : Expr} {ifs : List Expr} {scope : Scope} (own : List (Str × Nat)) (hc : X.calm = true) (hN : X.N.Nodup) (ok : BlkOk X.N X.env.scope scope own) (h : LcP X scope own elt tg iter ifs δ μ Q)
    (hs : ∀ x, foldedSetIterable iter X.env x = pure x := by intro _; rfl) (hw : itV iter = Vd.d := by rfl) : WE X (.ListComp elt [⟨tg, iter, ifs, 0⟩] scope pos) δ μ Q := we_lcQ own hc hN ok h.q hs hw
/-- name = [..] where the store is a part of the comprehension -/
theorem ws_setLcQ (i : Nat) {y : Str} {py spos : Pos} {elt tg iter : Expr} {ifs : List Expr} {scope : Scope} (own : List (Str × Nat)) (hc : X.calm = true) (hN : X.N.Nodup) (hy : X.N[i]? = some y) (hyl : X.env.scope.names.lookup y = some .local)
    (hsw : swapsWith (.ListComp elt [⟨tg, iter, ifs, 0⟩] scope pos) (some (.Name y py)) spos.line X.env = pure true) (ok : BlkOk X.N X.env.scope scope own) (h : LcQ X scope own elt tg iter ifs δ μ fun v μ1 => D.nx (δ.set i (some v)) μ1)
    (hs : ∀ x, foldedSetIterable iter X.env x = pure x := by intro _; rfl) (hw : itV iter = Vd.d := by rfl) : WS X (.Assign [.Name y py] (.ListComp elt [⟨tg, iter, ifs, 0⟩] scope pos) spos) δ μ D := fun F H σ R De b =>
  toS (ps_setLc hc hN hy hyl hsw (pcI X tg iter) ok (pgB scope tg) (ptB scope ifs) (peB scope elt) hs) (lc_read h hw R fun v x F1 H1 μ1 w1 R1 o1 q => b.nx F1 H1 _ _ μ1 w1 (R1.put i o1) q)
/-- name = [..] where the store is a part of the comprehension -/
theorem ws_setLc (i : Nat) {y : Str} {py spos : Pos} {elt tg iter : Expr} {ifs : List Expr} {scope : Scope} (own : List (Str × Nat)) (hc : X.calm = true) (hN : X.N.Nodup) (hy : X.N[i]? = some y) (hyl : X.env.scope.names.lookup y = some .local)
    (hsw : swapsWith (.ListComp elt [⟨tg, iter, ifs, 0⟩] scope pos) (some (.Name y py)) spos.line X.env = pure true) (ok : BlkOk X.N X.env.scope scope own) (h : LcP X scope own elt tg iter ifs δ μ fun v μ1 => D.nx (δ.set i (some v)) μ1)
    (hs : ∀ x, foldedSetIterable iter X.env x = pure x := by intro _; rfl) (hw : itV iter = Vd.d := by rfl) : WS X (.Assign [.Name y py] (.ListComp elt [⟨tg, iter, ifs, 0⟩] scope pos) spos) δ μ D := ws_setLcQ i own hc hN hy hyl hsw ok h.q hs hw

theorem we_lcQW {elt tg iter : Expr} {ifs : List Expr} {scope : Scope} (own : List (Str × Nat)) (hc : X.calm = true) (hN : X.N.Nodup) (ok : BlkOk X.N X.env.scope scope own) (h : LcQg Vd.w X scope own elt tg iter ifs δ μ Q)
    (hs : ∀ x, foldedSetIterable iter X.env x = pure x := by intro _; rfl) (hw : itV iter = Vd.w := by rfl) : WE X (.ListComp elt [⟨tg, iter, ifs, 0⟩] scope pos) δ μ Q := fun F H σ R QV c =>
  toE (pe_lc hc hN (pcI X tg iter) ok (pgB scope tg) (ptB scope ifs) (peB scope elt) hs) (lc_read h hw R c)
theorem ws_setLcQW (i : Nat) {y : Str} {py spos : Pos} {elt tg iter : Expr} {ifs : List Expr} {scope : Scope} (own : List (Str × Nat)) (hc : X.calm = true) (hN : X.N.Nodup) (hy : X.N[i]? = some y) (hyl : X.env.scope.names.lookup y = some .local)
    (hsw : swapsWith (.ListComp elt [⟨tg, iter, ifs, 0⟩] scope pos) (some (.Name y py)) spos.line X.env = pure true) (ok : BlkOk X.N X.env.scope scope own) (h : LcQg Vd.w X scope own elt tg iter ifs δ μ fun v μ1 => D.nx (δ.set i (some v)) μ1)
    (hs : ∀ x, foldedSetIterable iter X.env x = pure x := by intro _; rfl) (hw : itV iter = Vd.w := by rfl) : WS X (.Assign [.Name y py] (.ListComp elt [⟨tg, iter, ifs, 0⟩] scope pos) spos) δ μ D := fun F H σ R De b =>
  toS (ps_setLc hc hN hy hyl hsw (pcI X tg iter) ok (pgB scope tg) (ptB scope ifs) (peB scope elt) hs) (lc_read h hw R fun v x F1 H1 μ1 w1 R1 o1 q => b.nx F1 H1 _ _ μ1 w1 (R1.put i o1) q)
theorem we_lcW {elt tg iter : Expr} {ifs : List Expr} {scope : Scope} (own : List (Str × Nat)) (hc : X.calm = true) (hN : X.N.Nodup) (ok : BlkOk X.N X.env.scope scope own) (h : LcPg Vd.w X scope own elt tg iter ifs δ μ Q)
    (hs : ∀ x, foldedSetIterable iter X.env x = pure x := by intro _; rfl) (hw : itV iter = Vd.w := by rfl) : WE X (.ListComp elt [⟨tg, iter, ifs, 0⟩] scope pos) δ μ Q := we_lcQW own hc hN ok h.q hs hw
theorem ws_setLcW (i : Nat) {y : Str} {py spos : Pos} {elt tg iter : Expr} {ifs : List Expr} {scope : Scope} (own : List (Str × Nat)) (hc : X.calm = true) (hN : X.N.Nodup) (hy : X.N[i]? = some y) (hyl : X.env.scope.names.lookup y = some .local)
    (hsw : swapsWith (.ListComp elt [⟨tg, iter, ifs, 0⟩] scope pos) (some (.Name y py)) spos.line X.env = pure true) (ok : BlkOk X.N X.env.scope scope own) (h : LcPg Vd.w X scope own elt tg iter ifs δ μ fun v μ1 => D.nx (δ.set i (some v)) μ1)
    (hs : ∀ x, foldedSetIterable iter X.env x = pure x := by intro _; rfl) (hw : itV iter = Vd.w := by rfl) : WS X (.Assign [.Name y py] (.ListComp elt [⟨tg, iter, ifs, 0⟩] scope pos) spos) δ μ D := ws_setLcQW i own hc hN hy hyl hsw ok h.q hs hw

end
end Ec

set_option Elab.async false
set_option linter.all false
set_option maxRecDepth 100000
set_option maxHeartbeats 4000000
/-! a def's promise where no repr is under way (the guards are known to be none): such a def may call repr -/
namespace Ec
open PySem PySem.Spec PyProof.Rows L2
structure FnG (P : Program) (w : World) (K : PySem.W.Frag) (mg : Str → Option Value) (base : Heap) (CX : CXT) (k : Nat) (f : Addr) (fd : FuncData) (ps : List Str) (sp : Sp) : Prop where
  len : ∀ vs H Q E, sp vs H Q E → vs.length = ps.length
  run : ∀ (A : Around) (outer : List Env) (s : Shared) (H : Hp) (args : Args) (us : List Value) (vs : List V) (Q : VK) (E : XK), Room k A → A.guards = some [] → Env0 P w K mg base A outer s H → BindsTo s fd args (ps.zip us) → Vals vs us → sp vs H Q E →
    codeAny (model P w) A (.call (.ref f) args) (CR CX outer P w H s Q E) s
section
variable {P : Program} {w : World} {K : PySem.W.Frag} {mg : Str → Option Value} {base : Heap} {CX : CXT} {j k : Nat} {f : Addr} {fd : FuncData} {ps : List Str} {sp sp' : Sp}
theorem FnG.of (F : FnOk P w K mg base CX k f fd ps sp) : FnG P w K mg base CX k f fd ps sp := ⟨F.len, fun A outer s H args us vs Q E hr _ => F.run A outer s H args us vs Q E hr⟩
theorem FnG.mono (F : FnG P w K mg base CX j f fd ps sp) (h : j ≤ k) : FnG P w K mg base CX k f fd ps sp := ⟨F.len, fun A outer s H args us vs Q E hr => F.run A outer s H args us vs Q E (hr.mono h)⟩
theorem FnG.imp (F : FnG P w K mg base CX k f fd ps sp) (h : ∀ vs H Q E, sp' vs H Q E → sp vs H Q E) : FnG P w K mg base CX k f fd ps sp' :=
  ⟨fun vs H Q E q => F.len vs H Q E (h _ _ _ _ q), fun A outer s H args us vs Q E hr hg he hb hv hs => F.run A outer s H args us vs Q E hr hg he hb hv (h _ _ _ _ hs)⟩
/-- a def of the text, by its body: the guards at its call are those of its body -/
theorem FnG.body {N : List Str} {x qual : Str} {st : Stmt} (F : Fun K x qual st f fd) (S : FnScope N ps (defScope st)) (len : ∀ vs H Q E, sp vs H Q E → vs.length = ps.length)
    (hbody : ∀ (cdv : Value) (A : Around) (outer : List Env) (s : Shared) (H : Hp) (vs : List V) (Q : VK) (E : XK), Room k (A.deeper (envOfC qual (defScope st) s.heap.objs.size f cdv)) → A.guards = some [] → sp vs H Q E →
      ∃ t, PSs (cxOf CX P w K mg base N qual (defScope st) f cdv A outer s H E) (defBody st) t ∧ t { nx := fun _ H' => Q .non H', rt := Q } (start N vs) H) : FnG P w K mg base CX (k + 1) f fd ps sp := by
  obtain ⟨oc, od, kV, doc, pm, an, cdv, ct, osl, rfl, lk, hcd⟩ := F.ex
  refine ⟨len, fun A outer s H args us vs Q E hr hg e0 hb r hsp => ?_⟩
  have up : ∀ {b : Addr} {o : Obj}, base.get? b = some o → s.heap.get? b = some o := fun e => (e0.bs _ _ e).1
  have loc : ∀ y ∈ ps.zip us, (defScope st).names.lookup y.1 = some .local ∨ ((defScope st).names.lookup y.1 = some .cell ∧ ((cellsFrom (s.heap.objs.size + 1) (defScope st).names []).lookup y.1).isSome = true) := fun y hy =>
    (S.par y.1 (List.of_mem_zip (a := y.1) (b := y.2) hy).1).imp_right fun q => ⟨q, PySem.W.cellsFrom_some _ _ _ (.inl q)⟩
  refine codeAny_call_function hr.depth (e0.mod.kin.keeps (fun _ _ => up) _ _ lk) rfl S.co S.gen rfl (PySem.W.codeRec_of (e0.mod.kin.keeps fun _ _ => up) hcd) (hb _ _ _ _ (wpAny_newFunctionEnv_cells S.kind loc fun env he s1 x => ?_))
  subst he
  obtain ⟨t, ht, hq⟩ := hbody cdv A outer s H vs Q E (hr.deeper _) hg hsp
  refine ⟨(e0.mod.nolimit.keeps fun _ _ => up).keeps x.toInCall.keep, codeAny_func ?_⟩
  refine wpAny_mono (ht.run [] s1 (start N vs) H _ (inv_start S hr.hd e0 (len _ _ _ _ hsp) r x) hq) (fun fl s' hs => ?_) fun e s' hs => hs
  match fl, hs with
  | .ret u, ⟨v, σ', H', J, rv, q⟩ => exact ⟨v, H', J.os, J.bare, J.base, J.hok, rv, q⟩
  | .next, ⟨σ', H', J, q⟩ => exact ⟨V.non, H', J.os, J.bare, J.base, J.hok, rfl, q⟩
  | .brk, ⟨_, _, _, q⟩ => exact q.elim
  | .cont, ⟨_, _, _, q⟩ => exact q.elim
end
/-! ### calls -/
section
variable {X : Cx} {CX : CXT} {k : Nat} {f : Addr} {fd : FuncData} {ps ks : List Str} {sp : Sp} {x : Str} {p pos : Pos} {e : Expr} {es : List Expr} {kws : List Keyword} {t tk : TA} {g : List Value → List Value → List Value} {gV : List V → List V → List V}
theorem run_g {pins : List (Addr × Obj)} {σ : L2.St} {H : Hp} {s : Shared} {Q : VK} {E : XK} {us ws : List Value} {kn : List (Str × Value)} {vs : List V} (F : FnG X.prog X.w X.K X.mg X.base CX k f fd ps sp) (hr : Room k X.A) (hgd : X.A.guards = some []) (hb : BindsTo s fd ⟨us, kn⟩ (ps.zip ws)) (hx : PassesAt CX X σ E)
    (I : Inv X pins σ H s) (r : Vals vs ws) (h : sp vs H Q E) : wpAny (model X.prog X.w) X.A (call (.ref f) us kn) (EP X pins σ Q) X.xe s := by
  refine wpAny_call (codeAny_mono (F.run X.A X.stack s H ⟨us, kn⟩ ws vs Q E hr hgd I.env0 hb r h) fun q s' hq => ?_)
  match q, hq with
  | .error e, hq => exact hx pins H s e s' I hq
  | .ok (.ret u), hq => exact I.after hq
  | .ok .next, hq => exact hq.elim
  | .ok .brk, hq => exact hq.elim
  | .ok .cont, hq => exact hq.elim
/-- f(e, ..); an exception of the callee is told with the slots -/
theorem pe_callSg {E : L2.St → XK} (F : FnG X.prog X.w X.K X.mg X.base CX k f fd ps sp) (hr : Room k X.A) (hgd : X.A.guards = some []) (hg : Gl X x) (hm : X.mg x = some (.ref f)) (hk : PySem.W.keepIn X.K (.ref f) = true) (hb : Binds X.K fd ps []) (hx : ∀ σ, PassesAt CX X σ (E σ))
    (ha : PA X (e :: es) t) (hdb : (x == ("__debug__" : Str)) = false := by decide) (he : starEach (e :: es) X.env = (false, eval e X.env) :: starEach es X.env := by rfl) (hpl : (backTo pos (starEach es X.env)).any (·.1) = false := by rfl) :
    PE X (.Call (.Name x p) (e :: es) [] pos) (tCallS sp E t) := ⟨fun pins s σ H Q I h =>
  wpAny_Call_Name_kw (ld_glob I hg hm (PySem.W.callWith_K (h₀ := X.base) I.ok.mod.kin hk (thn (ha.run pos pins s σ H _ I h) fun us s1 ⟨vs, H1, I1, r, q⟩ => ⟨I1.kIn, by
    have b := hb s1 us I1.kIn (by rw [List.append_nil, ← r.length]; exact F.len _ _ _ _ q)
    rw [List.append_nil] at b
    exact run_g F hr hgd b (hx σ) I1 r q⟩) he hpl) hdb)⟩
theorem pe_callg {E : XK} (F : FnG X.prog X.w X.K X.mg X.base CX k f fd ps sp) (hr : Room k X.A) (hgd : X.A.guards = some []) (hg : Gl X x) (hm : X.mg x = some (.ref f)) (hk : PySem.W.keepIn X.K (.ref f) = true) (hb : Binds X.K fd ps []) (hx : Passes CX X E)
    (ha : PA X (e :: es) t) (hdb : (x == ("__debug__" : Str)) = false := by decide) (he : starEach (e :: es) X.env = (false, eval e X.env) :: starEach es X.env := by rfl) (hpl : (backTo pos (starEach es X.env)).any (·.1) = false := by rfl) :
    PE X (.Call (.Name x p) (e :: es) [] pos) (fun σ H Q => t σ H fun vs H1 => sp vs H1 Q E) := pe_callSg (E := fun _ => E) F hr hgd hg hm hk hb (fun σ pins H s e s' I h => hx pins σ H s e s' I h) ha hdb he hpl
theorem pe_callKg {E : L2.St → XK} (F : FnG X.prog X.w X.K X.mg X.base CX k f fd ps sp) (hr : Room k X.A) (hgd : X.A.guards = some []) (hg : Gl X x) (hm : X.mg x = some (.ref f)) (hk : PySem.W.keepIn X.K (.ref f) = true) (hb : KBinds X.K fd ps ks g gV) (hx : ∀ σ, PassesAt CX X σ (E σ))
    (hkw : PK X kws tk) (hall : (backToKw pos (keywordEach kws X.env)).all (·.1.isSome) = true := by rfl) (hks : (backToKw pos (keywordEach kws X.env)).filterMap (·.1) = ks := by rfl)
    (hdb : (x == ("__debug__" : Str)) = false := by decide)
    (hpl : ((backTo pos (starEach [] X.env)).any (·.1) || (backToKw pos (keywordEach kws X.env)).any (·.1.isNone)) = false := by rfl) :
    PE X (.Call (.Name x p) [] kws pos) (fun σ H Q => tk σ H fun zs H2 => sp (gV [] zs) H2 Q (E σ)) := ⟨fun pins s σ H Q I h =>
  wpAny_Call_Name_kw (ld_glob I hg hm (PySem.W.callWith_KW0 (h₀ := X.base) I.ok.mod.kin hk hall (thn (hkw.run pos pins s σ H _ I h) fun ws s2 ⟨zs, H2, I2, rz, q2⟩ => ⟨I2.kIn, by
    rw [hks]
    have rr := hb.rel (vs := []) (us := []) .nil rz
    exact run_g F hr hgd (hb.to s2 [] ws I2.kIn (by rw [← rr.length]; exact F.len _ _ _ _ q2)) (hx σ) I2 rr q2⟩) hpl) hdb)⟩
/-! ### repr(e) of data -/
theorem call_reprD (hgd : X.A.guards = some []) (hu : X.A.units + 64 < cLine) : CallR X (.builtin "repr") (fun xs H Q => ∃ v d, xs = [v] ∧ Dp X.K H v d ∧ d.showable = true ∧ d.hasDict = false ∧ d.depth ≤ 60 ∧ (∃ l, d = .list l ∨ d = .tuple l) ∧ d.shown.length ≤ sizeLine ∧ Q (.str d.shown) H) := by
  intro pins s σ H xs us Q I r h
  obtain ⟨v, d, rfl, hd, h1, h2, h3, ⟨l, h4⟩, h5, q⟩ := h
  cases r with
  | cons rv rn =>
    cases rn
    obtain ⟨as, hr⟩ := Dp.reads I d v _ hd rv
    have key : ∀ {u : Value}, Reads s.heap u d as → ∃ a, u = .ref a := fun {u} z => by
      rcases h4 with rfl | rfl
      · cases z with
        | list _ _ _ _ => exact ⟨_, rfl⟩
      · cases z with
        | tuple _ _ _ _ => exact ⟨_, rfl⟩
    obtain ⟨a, rfl⟩ := key hr
    exact repr_of_reads' hr h1 (fun e => by rw [h2] at e; cases e) hgd (by omega) (fun _ _ e => e) (fun h' u tk hk => ⟨.str d.shown, H, I.kept hk, ⟨u, rfl⟩, q⟩) h5
end
end Ec

set_option Elab.async false
set_option linter.all false
set_option maxRecDepth 100000
set_option maxHeartbeats 4000000
namespace Ec
open PySem PySem.Spec PyProof.Rows L2 RZ
/-! ### what is walked -/
theorem wk_list {K : PySem.W.Frag} {F0 : Hp} {a : Addr} {vs : List V} {ds : List PyData} (h : SqL K F0 a vs) (hd : DeAll K F0 vs ds) : Wk K (Itl K a) F0 Vd.d ds where
  go := fun i F H hi f1 f2 => ⟨vs, vs[i]'(by rw [dps_len hd]; exact hi), f2.seq (f1.seq h), List.getElem?_eq_getElem _⟩
  yld := fun i F H x H' d hi f1 f2 y => by
    obtain ⟨rfl, y⟩ := y
    obtain ⟨v, e1, e2⟩ := dps_get hd hi
    have : v = x := Option.some.inj (e1.symm.trans (y vs (f2.seq (f1.seq h))))
    subst this
    exact ⟨F, Same.refl F, f2, Same.refl _, fun _ z _ => z, dp_up f1 _ _ e2⟩
  stop := fun F H f1 f2 => ⟨vs, f2.seq (f1.seq h), Nat.le_of_eq (dps_len hd)⟩
theorem wk_tup {K : PySem.W.Frag} {F0 : Hp} {a : Addr} {vs : List V} {ds : List PyData} (h : SqT K F0 a vs) (hd : DeAll K F0 vs ds) : Wk K (Itt K a) F0 Vd.d ds where
  go := fun i F H hi f1 f2 => ⟨vs, vs[i]'(by rw [dps_len hd]; exact hi), same_t f2 (same_t f1 h), List.getElem?_eq_getElem _⟩
  yld := fun i F H x H' d hi f1 f2 y => by
    obtain ⟨rfl, y⟩ := y
    obtain ⟨v, e1, e2⟩ := dps_get hd hi
    have : v = x := Option.some.inj (e1.symm.trans (y vs (same_t f2 (same_t f1 h))))
    subst this
    exact ⟨F, Same.refl F, f2, Same.refl _, fun _ z _ => z, dp_up f1 _ _ e2⟩
  stop := fun F H f1 f2 => ⟨vs, same_t f2 (same_t f1 h), Nat.le_of_eq (dps_len hd)⟩
def rangeD (lo : Int) (n : Nat) : List PyData := (List.range n).map fun (i : Nat) => .int (lo + (i : Int))
theorem rangeD_len (lo : Int) (n : Nat) : (rangeD lo n).length = n := by simp [rangeD]
theorem rangeD_get {lo : Int} {n i : Nat} (h : i < n) : (rangeD lo n)[i]? = some (.int (lo + i)) := by
  unfold rangeD
  rw [List.getElem?_map, List.getElem?_range h]
  rfl
theorem wk_range {K : PySem.W.Frag} {F0 : Hp} (lo : Int) (n : Nat) : Wk K (Itr lo n) F0 Vd.d (rangeD lo n) where
  go := fun i F H hi f1 f2 => by rw [rangeD_len] at hi; exact hi
  yld := fun i F H x H' d hi f1 f2 y => by
    obtain ⟨rfl, rfl⟩ := y
    have hl := (List.getElem?_eq_some_iff.mp hi).1
    rw [rangeD_len] at hl
    rw [rangeD_get hl] at hi
    cases hi
    exact ⟨F, Same.refl F, f2, Same.refl _, fun _ z _ => z, .int _⟩
  stop := fun F H f1 f2 => by rw [rangeD_len]; exact Nat.le_refl n
/-- pairs in new tuples -/
theorem pair_new {K : PySem.W.Frag} {F H : Hp} {T : Addr} {x y : V} {d e : PyData} (f2 : Same F H) (nT : H T = none) (hx : De K F x d) (hy : De K F y e) :
    ∃ F', Same F F' ∧ Same F' (upd H T (.tup [x, y])) ∧ Same H (upd H T (.tup [x, y])) ∧ (∀ b, F b = none → H b ≠ none → F' b = none) ∧ VOk K F' (.w (.tuple [d, e])) (.ref T) := by
  have fT : F T = none := f2.free nT
  refine ⟨upd F T (.tup [x, y]), same_new fT, fun b o z => ?_, same_new nT, fun b z q => ?_, ⟨T, _, _, rfl, rfl, .of upd_same, dps_up (same_new fT) _ _ (.cons hx (.cons hy .nil))⟩⟩
  · by_cases hb : b = T
    · subst hb
      rw [upd_same] at z ⊢
      exact z
    · rw [upd_ne hb] at z ⊢
      exact f2 b o z
  · rw [upd_ne]
    · exact z
    · intro w
      exact q (w ▸ nT)
def enumD (ds : List PyData) : List PyData := ds.mapIdx fun (i : Nat) d => .tuple [.int (i : Int), d]
theorem enumD_len (ds : List PyData) : (enumD ds).length = ds.length := by simp [enumD]
theorem enumD_get {ds : List PyData} {i : Nat} {x : PyData} (h : (enumD ds)[i]? = some x) : ∃ d, ds[i]? = some d ∧ x = .tuple [.int (i : Int), d] := by
  unfold enumD at h
  rw [List.getElem?_mapIdx] at h
  cases q : ds[i]? with
  | none =>
    rw [q] at h
    cases h
  | some d =>
    rw [q] at h
    cases h
    exact ⟨d, rfl, rfl⟩
theorem wk_enum {K : PySem.W.Frag} {F0 : Hp} {a : Addr} {vs : List V} {ds : List PyData} (h : SqL K F0 a vs) (hd : DeAll K F0 vs ds) : Wk K (Ite K a) F0 Vd.w (enumD ds) where
  go := fun i F H hi f1 f2 => ⟨vs, vs[i]'(by rw [dps_len hd]; rw [enumD_len] at hi; exact hi), f2.seq (f1.seq h), List.getElem?_eq_getElem _⟩
  yld := fun i F H x H' d hi f1 f2 y => by
    obtain ⟨T, x0, rfl, nT, rfl, y⟩ := y
    obtain ⟨d0, e0, rfl⟩ := enumD_get hi
    obtain ⟨v, e1, e2⟩ := dps_get hd e0
    have : v = x0 := Option.some.inj (e1.symm.trans (y vs (f2.seq (f1.seq h))))
    subst this
    exact pair_new f2 nT (.int _) (dp_up f1 _ _ e2)
  stop := fun F H f1 f2 => ⟨vs, f2.seq (f1.seq h), by rw [enumD_len]; exact Nat.le_of_eq (dps_len hd)⟩
def zipD (ds es : List PyData) : List PyData := List.zipWith (fun d e => .tuple [d, e]) ds es
theorem zipD_len (ds es : List PyData) : (zipD ds es).length = min ds.length es.length := by simp [zipD]
theorem zipD_get {ds es : List PyData} {i : Nat} {x : PyData} (h : (zipD ds es)[i]? = some x) : ∃ d e, ds[i]? = some d ∧ es[i]? = some e ∧ x = .tuple [d, e] := by
  unfold zipD at h
  rw [List.getElem?_zipWith] at h
  cases q : ds[i]? with
  | none =>
    rw [q] at h
    simp at h
  | some d =>
    cases q2 : es[i]? with
    | none =>
      rw [q, q2] at h
      simp at h
    | some e =>
      rw [q, q2] at h
      simp at h
      exact ⟨d, e, rfl, rfl, h.symm⟩
theorem wk_zipL {K : PySem.W.Frag} {F0 : Hp} {a b : Addr} {vs us : List V} {ds es : List PyData} (h : SqL K F0 a vs) (hd : DeAll K F0 vs ds) (h2 : SqL K F0 b us) (he : DeAll K F0 us es) : Wk K (Itz K a b) F0 Vd.w (zipD ds es) where
  go := fun i F H hi f1 f2 => by
    rw [zipD_len] at hi
    exact ⟨vs, us, vs[i]'(by rw [dps_len hd]; omega), us[i]'(by rw [dps_len he]; omega), f2.seq (f1.seq h), f2.seq (f1.seq h2), List.getElem?_eq_getElem _, List.getElem?_eq_getElem _⟩
  yld := fun i F H x H' d hi f1 f2 y => by
    obtain ⟨T, x0, y0, rfl, nT, rfl, y, z⟩ := y
    obtain ⟨d0, d1, e0, e1, rfl⟩ := zipD_get hi
    obtain ⟨v, q1, q2⟩ := dps_get hd e0
    obtain ⟨u, q3, q4⟩ := dps_get he e1
    have t1 : v = x0 := Option.some.inj (q1.symm.trans (y vs (f2.seq (f1.seq h))))
    have t2 : u = y0 := Option.some.inj (q3.symm.trans (z us (f2.seq (f1.seq h2))))
    subst t1 t2
    exact pair_new f2 nT (dp_up f1 _ _ q2) (dp_up f1 _ _ q4)
  stop := fun F H f1 f2 => ⟨vs, us, f2.seq (f1.seq h), f2.seq (f1.seq h2), by rw [zipD_len, dps_len hd, dps_len he]; omega⟩
theorem wk_zipT {K : PySem.W.Frag} {F0 : Hp} {a b : Addr} {vs us : List V} {ds es : List PyData} (h : SqT K F0 a vs) (hd : DeAll K F0 vs ds) (h2 : SqT K F0 b us) (he : DeAll K F0 us es) : Wk K (ItzT K a b) F0 Vd.w (zipD ds es) where
  go := fun i F H hi f1 f2 => by
    rw [zipD_len] at hi
    exact ⟨vs, us, vs[i]'(by rw [dps_len hd]; omega), us[i]'(by rw [dps_len he]; omega), same_t f2 (same_t f1 h), same_t f2 (same_t f1 h2), List.getElem?_eq_getElem _, List.getElem?_eq_getElem _⟩
  yld := fun i F H x H' d hi f1 f2 y => by
    obtain ⟨T, x0, y0, rfl, nT, rfl, y, z⟩ := y
    obtain ⟨d0, d1, e0, e1, rfl⟩ := zipD_get hi
    obtain ⟨v, q1, q2⟩ := dps_get hd e0
    obtain ⟨u, q3, q4⟩ := dps_get he e1
    have t1 : v = x0 := Option.some.inj (q1.symm.trans (y vs (same_t f2 (same_t f1 h))))
    have t2 : u = y0 := Option.some.inj (q3.symm.trans (z us (same_t f2 (same_t f1 h2))))
    subst t1 t2
    exact pair_new f2 nT (dp_up f1 _ _ q2) (dp_up f1 _ _ q4)
  stop := fun F H f1 f2 => ⟨vs, us, same_t f2 (same_t f1 h), same_t f2 (same_t f1 h2), by rw [zipD_len, dps_len hd, dps_len he]; omega⟩

/-! ### enumerate of a tuple -/
def ItEt (K : PySem.W.Frag) (a : Addr) : It :=
  ⟨fun i H => ∃ (ys : List V) (y : V), SqT K H a ys ∧ ys[i]? = some y, fun i H v H' => ∃ T y, v = .ref T ∧ H T = none ∧ H' = upd H T (.tup [.int (i : Nat), y]) ∧ ∀ ys, SqT K H a ys → ys[i]? = some y, fun i H => ∃ ys : List V, SqT K H a ys ∧ i = ys.length⟩
theorem wk_enumT {K : PySem.W.Frag} {F0 : Hp} {a : Addr} {vs : List V} {ds : List PyData} (h : SqT K F0 a vs) (hd : DeAll K F0 vs ds) : Wk K (ItEt K a) F0 Vd.w (enumD ds) where
  go := fun i F H hi f1 f2 => ⟨vs, vs[i]'(by rw [dps_len hd]; rw [enumD_len] at hi; exact hi), same_t f2 (same_t f1 h), List.getElem?_eq_getElem _⟩
  yld := fun i F H x H' d hi f1 f2 y => by
    obtain ⟨T, x0, rfl, nT, rfl, y⟩ := y
    obtain ⟨d0, e0, rfl⟩ := enumD_get hi
    obtain ⟨v, e1, e2⟩ := dps_get hd e0
    have : v = x0 := Option.some.inj (e1.symm.trans (y vs (same_t f2 (same_t f1 h))))
    subst this
    exact pair_new f2 nT (.int _) (dp_up f1 _ _ e2)
  stop := fun F H f1 f2 => ⟨vs, same_t f2 (same_t f1 h), by rw [enumD_len]; exact (dps_len hd).symm⟩
theorem turn_enumT {P : Program} {w : World} {K : PySem.W.Frag} {elts : List Expr} {kk : Nat} {tpos : Pos} (a e it : Addr) :
    Turn P w K (.Tuple elts kk tpos) (ItEt K a) [e, it] e (fun i h => (∃ old, IsEnum h e it ((i : Nat) : Int) old) ∧ h.IsTupleIter it a i ∧ e ≠ it ∧ e ≠ a ∧ it ≠ a) where
  mem := List.mem_cons_self
  obj := fun i h st b hb => by
    obtain ⟨⟨old, he⟩, ⟨o, ho, hc, hd⟩, _⟩ := st
    rcases List.mem_cons.mp hb with z | z
    · exact ⟨_, z ▸ he, fun v q => by cases q⟩
    · have z' : b = it := by simpa using z
      exact ⟨o, z' ▸ ho, fun v q => by rw [hd] at q; cases q⟩
  keep := fun i h h' st k => by
    obtain ⟨⟨old, he⟩, hi, ne⟩ := st
    exact ⟨⟨old, k e List.mem_cons_self _ he⟩, hi.at fun o q => k it (by simp) o q, ne⟩
  item := by
    intro X hP hw hK hc i pins s σ H E I hf st hg
    subst hP hw hK
    obtain ⟨⟨old, he⟩, hit, hne, ha1, ha2⟩ := st
    obtain ⟨ys, y, hq, hy⟩ := hg
    obtain ⟨its, rv, p, hz⟩ := I.tuple hq
    obtain ⟨u, hu, ru⟩ := rv.get hy
    have hel : e < s.heap.objs.size := Heap.lt_size he
    have hil : it < s.heap.objs.size := by
      obtain ⟨_, q, _⟩ := hit
      exact Heap.lt_size q
    have hlen : i < its.toArray.size := by
      have := (List.getElem?_eq_some_iff.mp hu).1
      simpa using this
    refine wpAny_pyNext_enum_itemC (Draws.tuple (A := X.A.in1) (show X.A.in1.handled = none from I.ok.hd hc) it a (Ne.symm ha2) its.toArray) he ⟨hit, p⟩ hlen hne (by simp [hne, ha1]) fun x h' tk hx ho hst hT hsz hk => ?_
    have xu : x = u := by
      have h1 : its[i]? = some x := by simpa using hx
      exact Option.some.inj (h1.symm.trans hu)
    subst xu
    refine ⟨_, rfl, wpAny_letOwnedTupleGo_enum (s := { s with heap := h', toks := tk + 1 }) ho fun h'' he' sb => ?_⟩
    have hT2 : h''.get? s.heap.objs.size = some { cls := .type "tuple", data := .seq #[.int i tk, x] } := (sb.2 _ (Nat.ne_of_gt hel)).trans hT
    have new : ObjOk X.prog X.w (upd H s.heap.objs.size (.tup [.int (i : Nat), y])) h'' s.heap.objs.size (.tup [.int (i : Nat), y]) :=
      ⟨by show 2 ≤ sizeLine; decide, [.int i tk, x], .cons ⟨_, rfl⟩ (.cons ru .nil), ⟨_, hT2, rfl, _, rfl⟩⟩
    have J : Inv X pins σ (upd H s.heap.objs.size (.tup [.int (i : Nat), y])) { s with heap := h'', toks := tk + 1 } :=
      I.turnedNew (ch := [e, it]) (fun b ob hb q => (sb.2 b (fun z => hb (z ▸ List.mem_cons_self))).trans (hk b ob (fun z => hb (z ▸ List.mem_cons_self)) (fun z => hb (by simp [z])) q)) hf (Nat.le_refl _) new
    refine ⟨.ref s.heap.objs.size, _, J, rfl, ⟨_, y, rfl, I.hok.fresh (Nat.le_refl _), rfl, fun zs hzs => by rw [I.tuple_inj hzs hq]; exact hy⟩, ⟨⟨x, ?_⟩, hst.1.at fun o q => (sb.2 it (Ne.symm hne)).trans q, hne, ha1, ha2⟩, fun b hb => ?_⟩
    · rw [show ((i + 1 : Nat) : Int) = (i : Int) + 1 by omega]
      exact he'
    · have hb' : b < s.heap.objs.size := by
        rcases List.mem_cons.mp hb with z | z
        · exact z ▸ hel
        · have z' : b = it := by simpa using z
          exact z' ▸ hil
      rw [upd_ne (Nat.ne_of_lt hb')]
      exact (hf b hb).1
  done := by
    intro X hP hw hK hc i pins s σ H E I hf st hg
    subst hP hw hK
    obtain ⟨⟨old, he⟩, hit, hne, ha1, ha2⟩ := st
    obtain ⟨ys, hq, hy⟩ := hg
    obtain ⟨its, rv, p, hz⟩ := I.tuple hq
    obtain ⟨f0, f1, f2, f3, f4, f5⟩ := hf it (by simp)
    have hl : i = its.toArray.size := by
      have := rv.length
      simp only [List.size_toArray]
      omega
    subst hl
    exact wpAny_pyNext_enum_endD (Draws.tuple (A := X.A.in1) (show X.A.in1.handled = none from I.ok.hd hc) it a (Ne.symm ha2) its.toArray) he ⟨hit, p⟩ fun h' eb => ⟨rfl, I.turned (t' := s.toks) (fun b o hb q => eb b o hb q) f0 f1 f3 f4 f5⟩
  self := fun A i s Q E st h => by
    obtain ⟨⟨old, he⟩, _⟩ := st
    exact wpAny_pyIter_enum he h
theorem meets_enum1 {v : Value} {o : Obj} {H : Heap → Prop} (B : Begins v o H) :
    Meets (Builtin.«enumerate.__new__» ⟨[.type "enumerate", v], []⟩) (fun _ R s => H s.heap ∧
      R (.ok (.ret (.ref (s.heap.push o).objs.size))) { s with heap := (s.heap.push o).push { cls := .type "enumerate", data := .fields #[.none, .bool false, .ref s.heap.objs.size, rawInt 0, .none, .none] } }) :=
  .of_wp fun prog w A R s h => by
    obtain ⟨hp, g, d, tk, os⟩ := s
    obtain ⟨h1, h⟩ := h
    have hsub := sub_enumerate
    have step : ∀ {A' : Around} {E : Value → Shared → Prop} {Q : Value → Shared → Prop}, Q (.ref hp.objs.size) ⟨hp.push o, g, d, tk, os⟩ → wpAny (model prog w) A' (pyIter v) Q E ⟨hp, g, d, tk, os⟩ := fun q => B.iter prog w _ _ ⟨hp, g, d, tk, os⟩ _ h1 q
    wp_walk using step
    refine wpAny_stack_any fun st => wpAny_pure ?_
    split
    · rename_i c _ _ _ _ _
      cases (c == Value.type "enumerate")
      · wp_walk using step
        exact ⟨_, rfl, h⟩
      · wp_walk using step
        exact ⟨_, rfl, h⟩
    · wp_walk using step
      exact ⟨_, rfl, h⟩
theorem call_enum1 {prog : Program} {w : World} {A : Around} {E : Value → Shared → Prop} {s : Shared} {v : Value} {o : Obj} {H : Heap → Prop} {Q : Value → Shared → Prop} (B : Begins v o H) (h1 : H s.heap)
    (h : ∀ h', IsEnum h' (s.heap.objs.size + 1) s.heap.objs.size 0 .none → h'.get? s.heap.objs.size = some o → (∀ b u, s.heap.get? b = some u → h'.get? b = some u) → Q (.ref (s.heap.objs.size + 1)) { s with heap := h' }) :
    wpAny (model prog w) A (call (.type "enumerate") [v]) Q E s := by
  refine callType_new F.called_enumerate (by decide) (F.typeCall_enumerate_1 _) (F.newCall_enumerate_1 _) (fun obj => F.args_object_init_2 obj _) F.entry_enumerate_new (meets_enum1 B) ⟨h1, ?_⟩
  have hz : (s.heap.push o).objs.size = s.heap.objs.size + 1 := Heap.size_push ..
  show _ ∧ _
  rw [hz]
  have he := Heap.get?_push_size (s.heap.push o) (o := { cls := .type "enumerate", data := .fields #[.none, .bool false, .ref s.heap.objs.size, rawInt 0, .none, .none] }) rfl
  rw [hz] at he
  exact ⟨⟨_, he, rfl⟩, h _ he (Heap.get?_push_of_some _ (Heap.get?_push_size _ B.free)) fun b u x => Heap.get?_push_of_some _ (Heap.get?_push_of_some _ x)⟩
def iEnS (K : PySem.W.Frag) (ta : TA) : TI := fun σ H R => ta σ H fun vs H1 => ∃ a xs, vs = [.ref a] ∧ ((SqL K H1 a xs ∧ R (Ite K a) H1) ∨ (SqT K H1 a xs ∧ R (ItEt K a) H1))
theorem pi_enS {X : Cx} {e : Expr} {ta : TA} {p pos tpos : Pos} {elts : List Expr} {kk : Nat} (hg : Gl X "enumerate") (hm : X.mg "enumerate" = none) (ha : PA X [e] ta) (hs : starEach [e] X.env = [(false, eval e X.env)] := by rfl) :
    PI X (.Tuple elts kk tpos) (.Call (.Name "enumerate" p) [e] [] pos) (iEnS X.K ta) := by
  refine ⟨fun pins s σ H R I h => Call_ (ld_blt I hg hm boot_enumerate (PyProof.Rows.callWith_type1 (thn (ha.run pos pins s σ H _ I h) fun us s1 h1 => ?_) hs rfl))⟩
  obtain ⟨vs, H1, J, r1, a, xs, rfl, q⟩ := h1
  obtain ⟨u, rfl, ru⟩ := vals1 r1
  cases (show u = Value.ref a from ru)
  have fresh : ∀ b ∈ [s1.heap.objs.size + 1, s1.heap.objs.size], FpOk X pins H1 b := fun b hb => by
    have hle : s1.heap.objs.size ≤ b := by
      rcases List.mem_cons.mp hb with z | z
      · rw [z]
        exact Nat.le_succ _
      · have z' : b = s1.heap.objs.size := by simpa using z
        exact Nat.le_of_eq z'.symm
    exact J.fpOk hle (J.hok.fresh hle)
  rcases q with ⟨hq, q⟩ | ⟨hq, q⟩
  · obtain ⟨its, rv, p', hz⟩ := J.list hq
    refine call_enum1 (begins_list a its.toArray) p'.isList fun h' he hit hk => wpAny_pyIter_enum he ?_
    exact ⟨s1.heap.objs.size + 1, [s1.heap.objs.size + 1, s1.heap.objs.size], _, _, H1, rfl, J.kept (t' := s1.toks) hk, turn_enum a _ _, ⟨⟨.none, he⟩, ⟨_, hit, rfl, rfl⟩, Nat.succ_ne_self _⟩, fresh, q⟩
  · obtain ⟨its, rv, p', hz⟩ := J.tuple hq
    obtain ⟨o1, ho1, _⟩ := id p'
    have al : a < s1.heap.objs.size := Heap.lt_size ho1
    refine call_enum1 (begins_tuple a its.toArray) (show s1.heap.IsTuple a its.toArray from p') fun h' he hit hk => wpAny_pyIter_enum he ?_
    exact ⟨s1.heap.objs.size + 1, [s1.heap.objs.size + 1, s1.heap.objs.size], _, _, H1, rfl, J.kept (t' := s1.toks) hk, turn_enumT a _ _, ⟨⟨.none, he⟩, ⟨_, hit, rfl, rfl⟩, Nat.succ_ne_self _, Nat.ne_of_gt (Nat.lt_succ_of_lt al), Nat.ne_of_gt al⟩, fresh, q⟩
def iSeqS (K : PySem.W.Frag) (tl : TE) : TI := fun σ H R => tl σ H fun x H1 => ∃ a xs, x = .ref a ∧ ((SqL K H1 a xs ∧ R (Itl K a) H1) ∨ (SqT K H1 a xs ∧ R (Itt K a) H1))
theorem pi_seqS {X : Cx} {tg l : Expr} {tl : TE} (hl : PE X l tl) : PI X tg l (iSeqS X.K tl) := by
  refine ⟨fun pins s σ H R I h => thn (hl.run pins s σ H _ I h) fun v s1 h1 => ?_⟩
  obtain ⟨x, H1, J, r1, a, xs, rfl, q⟩ := h1
  cases (show v = Value.ref a from r1)
  have fresh : ∀ b ∈ [s1.heap.objs.size], FpOk X pins H1 b := fun b hb => by
    have z : b = s1.heap.objs.size := by simpa using hb
    rw [z]
    exact J.fpOk (Nat.le_refl _) (J.hok.fresh (Nat.le_refl _))
  rcases q with ⟨hq, q⟩ | ⟨hq, q⟩
  · obtain ⟨its, rv, p, hz⟩ := J.list hq
    exact wpAny_pyIter_list p.isList ⟨s1.heap.objs.size, [s1.heap.objs.size], _, _, H1, rfl, J.kept (t' := s1.toks) fun b o e => Heap.get?_push_of_some _ e, turn_list a _, ⟨_, Heap.get?_push_size _ rfl, rfl, rfl⟩, fresh, q⟩
  · obtain ⟨its, rv, p, hz⟩ := J.tuple hq
    exact wpAny_pyIter_tuple (show s1.heap.IsTuple a its.toArray from p) ⟨s1.heap.objs.size, [s1.heap.objs.size], _, _, H1, rfl, J.kept (t' := s1.toks) fun b o e => Heap.get?_push_of_some _ e, turn_tuple a _, ⟨_, Heap.get?_push_size _ rfl, rfl, rfl⟩, fresh, q⟩
section
variable {X : Cx} {δ : Dl} {μ : Cells} {e a b tg : Expr} {pos p : Pos} {Q : Vd → Cells → Prop} {D : Dn} {QI : List PyData → Cells → Prop}
/-! ### the logic's walks -/
inductive Seqd : Vd → List PyData → Prop
  | l (ds : List PyData) : Seqd (.d (.list ds)) ds
  | t (ds : List PyData) : Seqd (.d (.tuple ds)) ds
theorem wi_seq (h : WE X e δ μ fun x μ1 => ∃ ds, Seqd x ds ∧ QI ds μ1) (hw : itV e = Vd.d := by rfl) : WI X tg e δ μ QI := fun F H σ R RV c =>
  toI (pi_seqS (pcE X e)) (h F H σ R _ fun v x F1 H1 μ1 w1 R1 o1 q => by
    obtain ⟨ds, sx, q⟩ := q
    cases sx with
    | l =>
      obtain ⟨a, vs, rfl, hs, hd⟩ := dp_lst o1
      exact ⟨a, vs, rfl, .inl ⟨R1.m.ex.seq hs, c _ ds F1 H1 μ1 w1 R1 (by rw [hw]; exact wk_list hs hd) q⟩⟩
    | t =>
      obtain ⟨a, vs, rfl, hs, hd⟩ := dp_tup o1
      exact ⟨a, vs, rfl, .inr ⟨same_t R1.m.ex hs, c _ ds F1 H1 μ1 w1 R1 (by rw [hw]; exact wk_tup hs hd) q⟩⟩)
theorem wi_range1 (hg : Gl X "range") (hm : X.mg "range" = none) (h : WA X [a] δ μ fun xs μ1 => ∃ n : Int, xs = [.d (.int n)] ∧ -100000 ≤ n ∧ n ≤ 100000 ∧ QI (rangeD 0 n.toNat) μ1) (hs : starEach [a] X.env = [(false, eval a X.env)] := by rfl) :
    WI X tg (.Call (.Name "range" p) [a] [] pos) δ μ QI := fun F H σ R RV c =>
  toI (pi_range1 hg hm (pcA X [a]) hs) (h F H σ R _ fun vs xs F1 H1 μ1 w1 R1 o1 q => by
    obtain ⟨n, rfl, h1, h2, q⟩ := q
    cases o1 with
    | cons r rr =>
      cases rr
      exact ⟨n, by rw [dp_int r], by omega, by omega, c _ _ F1 H1 μ1 w1 R1 (wk_range 0 n.toNat) q⟩)
theorem wi_range2 (hg : Gl X "range") (hm : X.mg "range" = none) (h : WA X [a, b] δ μ fun xs μ1 => ∃ m n : Int, xs = [.d (.int m), .d (.int n)] ∧ -100000 ≤ m ∧ m ≤ 100000 ∧ -100000 ≤ n ∧ n ≤ 100000 ∧ QI (rangeD m (n - m).toNat) μ1)
    (hs : starEach [a, b] X.env = [(false, eval a X.env), (false, eval b X.env)] := by rfl) (hs2 : starEach [b] X.env = [(false, eval b X.env)] := by rfl) :
    WI X tg (.Call (.Name "range" p) [a, b] [] pos) δ μ QI := fun F H σ R RV c =>
  toI (pi_range2 hg hm (pcA X [a, b]) hs hs2) (h F H σ R _ fun vs xs F1 H1 μ1 w1 R1 o1 q => by
    obtain ⟨m, n, rfl, h1, h2, h3, h4, q⟩ := q
    cases o1 with
    | cons r rr =>
      cases rr with
      | cons r2 rr =>
        cases rr
        exact ⟨m, n, by rw [dp_int r, dp_int r2], ⟨by omega, by omega, by omega, by omega⟩, c _ _ F1 H1 μ1 w1 R1 (wk_range m (n - m).toNat) q⟩)
theorem wi_enum {elts : List Expr} {kk : Nat} {tpos : Pos} (hg : Gl X "enumerate") (hm : X.mg "enumerate" = none) (h : WA X [a] δ μ fun xs μ1 => ∃ x ds, xs = [x] ∧ Seqd x ds ∧ QI (enumD ds) μ1) (hs : starEach [a] X.env = [(false, eval a X.env)] := by rfl) :
    WI X (.Tuple elts kk tpos) (.Call (.Name "enumerate" p) [a] [] pos) δ μ QI := fun F H σ R RV c =>
  toI (pi_enS hg hm (pcA X [a]) hs) (h F H σ R _ fun vs xs F1 H1 μ1 w1 R1 o1 q => by
    obtain ⟨x, ds, rfl, sx, q⟩ := q
    cases o1 with
    | cons r rr =>
      cases rr
      cases sx with
      | l =>
        obtain ⟨a, vs, rfl, hs, hd⟩ := dp_lst r
        exact ⟨a, vs, rfl, .inl ⟨R1.m.ex.seq hs, c _ _ F1 H1 μ1 w1 R1 (wk_enum hs hd) q⟩⟩
      | t =>
        obtain ⟨a, vs, rfl, hs, hd⟩ := dp_tup r
        exact ⟨a, vs, rfl, .inr ⟨same_t R1.m.ex hs, c _ _ F1 H1 μ1 w1 R1 (wk_enumT hs hd) q⟩⟩)
theorem wi_zip {elts : List Expr} {kk : Nat} {tpos : Pos} (hg : Gl X "zip") (hm : X.mg "zip" = none)
    (h : WA X [a, b] δ μ fun xs μ1 => ∃ x y, ((∃ ds es, xs = [.d (.list ds), .d (.list es)] ∧ x = ds ∧ y = es) ∨ (∃ ds es, xs = [.d (.tuple ds), .d (.tuple es)] ∧ x = ds ∧ y = es)) ∧ QI (zipD x y) μ1)
    (hs : starEach [a, b] X.env = (false, eval a X.env) :: starEach [b] X.env := by rfl) (hpl : (backTo pos (starEach [b] X.env)).any (·.1) = false := by rfl) :
    WI X (.Tuple elts kk tpos) (.Call (.Name "zip" p) [a, b] [] pos) δ μ QI := fun F H σ R RV c =>
  toI (pi_zipA hg hm (pcA X [a, b]) hs hpl) (h F H σ R _ fun vs xs F1 H1 μ1 w1 R1 o1 q => by
    obtain ⟨x, y, q0, q⟩ := q
    rcases q0 with ⟨ds, es, rfl, rfl, rfl⟩ | ⟨ds, es, rfl, rfl, rfl⟩
    · cases o1 with
      | cons r rr =>
        cases rr with
        | cons r2 rr =>
          cases rr
          obtain ⟨a, vs, rfl, hs, hd⟩ := dp_lst r
          obtain ⟨b, us, rfl, hs2, hd2⟩ := dp_lst r2
          exact ⟨a, b, vs, us, rfl, .inl ⟨R1.m.ex.seq hs, R1.m.ex.seq hs2, c _ _ F1 H1 μ1 w1 R1 (wk_zipL hs hd hs2 hd2) q⟩⟩
    · cases o1 with
      | cons r rr =>
        cases rr with
        | cons r2 rr =>
          cases rr
          obtain ⟨a, vs, rfl, hs, hd⟩ := dp_tup r
          obtain ⟨b, us, rfl, hs2, hd2⟩ := dp_tup r2
          exact ⟨a, b, vs, us, rfl, .inr ⟨same_t R1.m.ex hs, same_t R1.m.ex hs2, c _ _ F1 H1 μ1 w1 R1 (wk_zipT hs hd hs2 hd2) q⟩⟩)
/-! ### calls of defs -/
abbrev TrD := List Vd → Cells → (Vd → Cells → Prop) → Prop
def spW (K : PySem.W.Frag) (T : TrD) : Sp := fun vs H Q _ => ∃ F xs μ R, RpM K F H μ ∧ VAll K F xs vs ∧ T xs μ R ∧ ∀ v x F' H' μ', Fw (ks μ) (ks μ') F H F' H' → RpM K F' H' μ' → VOk K F' x v → R x μ' → Q v H'
def Cal (P : Program) (w : World) (K : PySem.W.Frag) (mg : Str → Option Value) (base : Heap) (k : Nat) (x : Str) (T : TrD) : Prop :=
  ∃ f fd ps, FnG P w K mg base CX0 k f fd ps (spW K T) ∧ mg x = some (.ref f) ∧ PySem.W.keepIn K (.ref f) = true ∧ Binds K fd ps []
theorem we_call {T : TrD} {k : Nat} {x : Str} {es : List Expr} (c : Cal X.prog X.w X.K X.mg X.base k x T) (hr : Room k X.A) (hg : Gl X x) (h : WA X (e :: es) δ μ fun xs μ1 => ∃ μc μr, μ1 = μc ++ μr ∧ T xs μc fun z μ' => Q z (μ' ++ μr)) (hgd : X.A.guards = some [])
    (hdb : (x == ("__debug__" : Str)) = false := by decide) (he : starEach (e :: es) X.env = (false, eval e X.env) :: starEach es X.env := by rfl) (hpl : (backTo pos (starEach es X.env)).any (·.1) = false := by rfl) :
    WE X (.Call (.Name x p) (e :: es) [] pos) δ μ Q := fun F H σ R QV kk => by
  obtain ⟨f, fd, ps, ok, hm, hk, hb⟩ := c
  refine toE (pe_callg ok hr hgd hg hm hk hb pass0 (pcA X (e :: es)) hdb he hpl) (h F H σ R _ fun vs xs F1 H1 μ1 w1 R1 o1 q => ?_)
  obtain ⟨μc, μr, rfl, q⟩ := q
  refine ⟨F1, xs, μc, _, R1.m.left, o1, q, fun v z F2 H2 μ2 w2 m2 o2 q2 => ?_⟩
  obtain ⟨m3, w3⟩ := R1.m.frame w2 m2
  exact kk v z F2 H2 _ (w1.trans w3) (R1.to w2.f m3) o2 q2
def startD (N : List Str) (xs : List Vd) : Dl := xs.map some ++ List.replicate (N.length - xs.length) none
/-- some cells are forgotten -/
def Keep (μ' : Cells) (Φ : Cells → Prop) : Prop := ∃ μg μk, μ'.Perm (μg ++ μk) ∧ Φ μk
theorem keep {μ : Cells} {Φ : Cells → Prop} (h : Φ μ) : Keep μ Φ := ⟨[], μ, List.Perm.refl _, h⟩
theorem keep_drop {μ : Cells} {Φ : Cells → Prop} {y : Addr × Cont} (h : Keep μ Φ) : Keep (y :: μ) Φ := by
  obtain ⟨g, k, p, h⟩ := h
  exact ⟨y :: g, k, p.cons y, h⟩
theorem keep_all {μ : Cells} {Φ : Cells → Prop} (h : Φ []) : Keep μ Φ := ⟨μ, [], by rw [List.append_nil], h⟩
theorem keep_perm {μ μ' : Cells} {Φ : Cells → Prop} (p : μ.Perm μ') (h : Keep μ' Φ) : Keep μ Φ := by
  obtain ⟨g, k, q, h⟩ := h
  exact ⟨g, k, p.trans q, h⟩
theorem RpM.kept {K : PySem.W.Frag} {F H F' H' : Hp} {μ μ' : Cells} {Φ : Cells → Prop} (w : Fw (ks μ) (ks μ') F H F' H') (r : RpM K F' H' μ') (h : Keep μ' Φ) : ∃ μk, Fw (ks μ) (ks μk) F H F' H' ∧ RpM K F' H' μk ∧ Φ μk := by
  obtain ⟨g, k, p, h⟩ := h
  refine ⟨k, (w.perm (K := K) p).sub (fun _ z => z) (fun x m => .inl (by rw [ks_app]; exact List.mem_append_right _ m)), (r.perm (p.trans List.perm_append_comm)).left, h⟩
theorem wb_drop {y : Addr × Cont} {sts : List Stmt} (h : WB X sts δ μ D) : WB X sts δ (y :: μ) D := fun F H σ R De b => by
  have R' : Rp X.K F H σ δ μ := ⟨⟨R.m.ex, (List.nodup_cons.mp R.m.nd).2, fun b ds m => R.m.cel b ds (List.mem_cons_of_mem _ m)⟩, R.len, R.env⟩
  have w : Fw (ks (y :: μ)) (ks μ) F H F H := Fw.refl.sub (fun _ h => h) fun x m => .inl (List.mem_cons_of_mem _ m)
  exact h F H σ R' De (b.next w)
theorem wb_nilK (h : Keep μ fun μ' => D.nx δ μ') : WB X [] δ μ D := fun F H σ R De b => by
  obtain ⟨g, k, p, h⟩ := h
  have R2 := R.perm (p.trans List.perm_append_comm)
  have R' : Rp X.K F H σ δ k := ⟨R2.m.left, R.len, R.env⟩
  have w : Fw (ks μ) (ks k) F H F H := Fw.refl.sub (fun _ h => h) fun x m => .inl ((p.map Prod.fst).mem_iff.mpr (by rw [show (g ++ k).map Prod.fst = ks g ++ ks k from ks_app g k]; exact List.mem_append_right _ m))
  exact toB pss_nil (b.nx F H σ δ k w R' h)
/-- a def's body runs here -/
def bX (P : Program) (w : World) (K : PySem.W.Frag) (mg : Str → Option Value) (base : Heap) (N : List Str) (qual : Str) (sc : Scope) (f : Addr) (cdv : Value) (A : Around) (outer : List Env) (s : Shared) (H : Hp) (E : XK) : Cx := (cxOf CX0 P w K mg base N qual sc f cdv A outer s H E).nox
theorem fn_w {P : Program} {w : World} {K : PySem.W.Frag} {mg : Str → Option Value} {base : Heap} {x qual : Str} {st : Stmt} {f : Addr} {fd : FuncData} {N ps : List Str} {k : Nat} {T : TrD} (F : Fun K x qual st f fd) (S : FnScope N ps (defScope st))
    (hN : ps.length ≤ N.length) (len : ∀ xs μ R, T xs μ R → xs.length = ps.length)
    (body : ∀ (cdv : Value) (A : Around) (outer : List Env) (s : Shared) (H : Hp) (E : XK), Room k (bX P w K mg base N qual (defScope st) f cdv A outer s H E).A → (bX P w K mg base N qual (defScope st) f cdv A outer s H E).A.guards = some [] → ∀ xs μ R, T xs μ R →
      WB (bX P w K mg base N qual (defScope st) f cdv A outer s H E) (defBody st) (startD N xs) μ { nx := fun _ μ' => Keep μ' (R (.d .none)), rt := fun z μ' => Keep μ' (R z) }) : FnG P w K mg base CX0 (k + 1) f fd ps (spW K T) := by
  refine FnG.body F S (fun vs H Q E h => ?_) (fun cdv A outer s H vs Q E hr hgd h => ?_)
  · obtain ⟨G, xs, μ, R, _, ha, hT, _⟩ := h
    rw [← Paired.length ha]
    exact len _ _ _ hT
  · obtain ⟨G, xs, μ, R, m, ha, hT, c⟩ := h
    have el : xs.length = vs.length := Paired.length ha
    refine ⟨_, (pcB (bX P w K mg base N qual (defScope st) f cdv A outer s H E) _).nox, body cdv A outer s H E hr hgd xs μ R hT G H (start N vs) ⟨m, ?_, fun i y hy => ?_⟩ _ ⟨fun F' H' σ' δ' μ' w' R' q => by
      obtain ⟨k', w2, m2, q⟩ := RpM.kept w' R'.m q
      exact c _ (.d .none) F' H' k' w2 m2 .non q, fun v z F' H' μ' w' m' o' q => by
      obtain ⟨k', w2, m2, q⟩ := RpM.kept w' m' q
      exact c v z F' H' k' w2 m2 o' q, fun _ _ _ _ _ _ _ q => q.elim, fun _ _ _ _ _ _ _ q => q.elim⟩⟩
    · show (L2.start N vs).length = (startD N xs).length
      simp [L2.start, startD, el]
    · have get : ∀ {xs : List Vd} {vs : List V}, VAll K G xs vs → ∀ {i : Nat} {y : Vd}, xs[i]? = some y → ∃ v, vs[i]? = some v ∧ VOk K G y v := by
        intro xs vs h
        induction h with
        | nil => intro i y e; simp at e
        | cons h1 _ ih =>
          intro i y e
          cases i with
          | zero =>
            simp at e
            subst e
            exact ⟨_, rfl, h1⟩
          | succ i => exact ih (by simpa using e)
      unfold startD at hy
      unfold L2.start
      by_cases hi : i < xs.length
      · rw [List.getElem?_append_left (by simpa using hi), List.getElem?_map] at hy
        cases q : xs[i]? with
        | none =>
          rw [q] at hy
          cases hy
        | some z =>
          rw [q] at hy
          cases hy
          obtain ⟨v, e1, e2⟩ := get ha q
          exact ⟨v, by rw [List.getElem?_append_left (by simp; omega), List.getElem?_map, e1]; rfl, e2⟩
      · rw [List.getElem?_append_right (by simp; omega)] at hy
        have := List.mem_of_getElem? hy
        rw [List.mem_replicate] at this
        cases this.2
theorem cal_of {P : Program} {w : World} {K : PySem.W.Frag} {mg : Str → Option Value} {base : Heap} {x : Str} {f : Addr} {fd : FuncData} {ps : List Str} {k : Nat} {T : TrD} (ok : FnG P w K mg base CX0 k f fd ps (spW K T)) (g : mg x = some (.ref f)) (kp : PySem.W.keepIn K (.ref f) = true) (b : Binds K fd ps []) :
    Cal P w K mg base k x T := ⟨f, fd, ps, ok, g, kp, b⟩
end
end Ec

set_option Elab.async false
set_option linter.all false
set_option maxRecDepth 100000
set_option maxHeartbeats 4000000
namespace Ec
open PySem PySem.Spec PyProof.Rows L2
section
variable {K : PySem.W.Frag} {μ : Cells} {Q : Vd → Cells → Prop}
/-! ### what a value holds -/
inductive Ct (μ : Cells) : Vd → List PyData → Prop
  | l (ds : List PyData) : Ct μ (.d (.list ds)) ds
  | t (ds : List PyData) : Ct μ (.d (.tuple ds)) ds
  | s (ns : List Int) {ds : List PyData} (e : ds = intsD ns := by rfl) : Ct μ (.s ns) ds
  | c (i : Nat) {p : Addr} {ds : List PyData} (h : μ[i]? = some (p, (ds : Cont))) (pl : plS ds := by repeat' first | exact plS_nil | exact plS_map (fun _ => rfl) | refine plS_app ?_ ?_ | refine plS_cons rfl ?_ | assumption) : Ct μ (.a p) ds
theorem Ct.x (ds : List PyData) : Ct μ (.x ds) ds := .t ds
theorem ct_ok {F H : Hp} {x : Vd} {v : V} {ds : List PyData} (m : RpM K F H μ) (o : VOk K F x v) (h : Ct μ x ds) : ∃ a vs, v = .ref a ∧ (SqL K H a vs ∨ SqT K H a vs) ∧ DeAll K F vs ds := by
  cases h with
  | l =>
    obtain ⟨a, vs, e, hs, hd⟩ := dp_lst o
    exact ⟨a, vs, e, .inl (m.ex.seq hs), hd⟩
  | t =>
    obtain ⟨a, vs, e, hs, hd⟩ := dp_tup o
    exact ⟨a, vs, e, .inr (same_t m.ex hs), hd⟩
  | s ns e0 =>
    subst e0
    obtain ⟨a, e, h⟩ := o
    exact ⟨a, _, e, .inl (m.ex.seq h), ints_dps ns⟩
  | c i h pl =>
    obtain ⟨_, vs, e, hd⟩ := m.cel _ _ (List.mem_of_getElem? h)
    replace hd := hd.to pl
    exact ⟨_, vs, o, .inl (.of e), hd⟩
inductive Vw (μ : Cells) : Vd → PyData → Prop
  | d (x : PyData) : Vw μ (.d x) x
  | c (i : Nat) {p : Addr} {ds : List PyData} (h : μ[i]? = some (p, (ds : Cont))) (pl : plS ds := by repeat' first | exact plS_nil | exact plS_map (fun _ => rfl) | refine plS_app ?_ ?_ | refine plS_cons rfl ?_ | assumption) : Vw μ (.a p) (.list ds)
theorem Vw.x (ds : List PyData) : Vw μ (.x ds) (.tuple ds) := .d _
theorem vw_ok {F H : Hp} {x : Vd} {v : V} {d : PyData} (m : RpM K F H μ) (o : VOk K F x v) (h : Vw μ x d) : De K H v d := by
  cases h with
  | d => exact dp_up m.ex _ _ o
  | c i h pl =>
    obtain ⟨_, vs, e, hd⟩ := m.cel _ _ (List.mem_of_getElem? h)
    replace hd := hd.to pl
    rw [show v = .ref _ from o]
    exact .lst e (dps_up m.ex _ _ hd)

/-! ### ints -/
section
variable {i j : Int}
/-- t + u -/
def rCatX (K : PySem.W.Frag) : R2 := fun x y H Q => ∃ a b xs ys, x = .ref a ∧ y = .ref b ∧ SqT K H a xs ∧ SqT K H b ys ∧ xs.length + ys.length ≤ sizeLine ∧
  (xs = [] → Q (.ref b) H) ∧ (xs ≠ [] → ys = [] → Q (.ref a) H) ∧ (xs ≠ [] → ys ≠ [] → ∀ p o, o.dict = none → H p = none → Q (.ref p) (upd H p (.frz o (.tup (xs ++ ys)))))
theorem op_catX {X : Cx} : OpR X (binaryOp .Add) (rCatX X.K) := by
  intro pins s σ H x y v u Q I rx ry h
  obtain ⟨a, b, xs, ys, rfl, rfl, ha, hb, hz, q0, q1, q2⟩ := h
  obtain ⟨its, r1, p1, _⟩ := I.tuple ha
  obtain ⟨its2, r2, p2, _⟩ := I.tuple hb
  cases rx
  cases ry
  by_cases hx : xs = []
  · subst hx
    cases r1
    exact cat_tup0 p1 p2 ⟨.ref b, H, I, rfl, q0 rfl⟩
  · have hz2 : its.length + its2.length ≤ sizeLine := by rw [← r1.length, ← r2.length]; exact hz
    refine HT.cat_tup p1 p2 (fun z => hx (r1.nil_iff.mp z)) (fun z => ⟨.ref a, H, I, rfl, q1 hx (r2.nil_iff.mp z)⟩) (fun z => ?_) hz2
    have nf : H s.heap.objs.size = none := I.hok.fresh (Nat.le_refl _)
    have I2 := I.laid (t' := s.toks) (o := .frz _ (.tup (xs ++ ys))) (h' := s.heap.push _) (fun b ob q => Heap.get?_push_of_some _ q) (Nat.le_refl _) ⟨Heap.get?_push_size _ rfl, by rw [List.length_append]; exact hz, _, r1.append r2, IsTup.new _ _⟩
    exact ⟨.ref s.heap.objs.size, _, I2, rfl, q2 hx (fun w => z (r2.nil_iff.mpr w)) _ _ rfl nf⟩
def OAdd (K : PySem.W.Frag) : R2 := fun x y H Q => (rI0 fun i j => .int (i + j)) x y H Q ∨ rCatX K x y H Q ∨ rCat x y H Q ∨ (fun x y H Q => ∃ i j, x = .str i ∧ y = .str j ∧ i.length + j.length ≤ sizeLine ∧ Q (.str (i ++ j)) H) x y H Q
theorem o_add {X : Cx} : OpR X (binaryOp .Add) (OAdd X.K) := op_add.or (op_catX.or (op_cat.or op_add_str))
theorem ow_add (h : Q (.d (.int (i + j))) μ) : OpW K (OAdd K) (.d (.int i)) (.d (.int j)) μ Q := fun F H v u m o1 o2 QV c => .inl ⟨i, j, dp_int o1, dp_int o2, c (.d (.int _)) _ F H μ Fw.refl m (.int _) h⟩
theorem ow_sub (h : Q (.d (.int (i - j))) μ) : OpW K (rI0 fun i j => .int (i - j)) (.d (.int i)) (.d (.int j)) μ Q := fun F H v u m o1 o2 QV c => ⟨i, j, dp_int o1, dp_int o2, c (.d (.int _)) _ F H μ Fw.refl m (.int _) h⟩
theorem ow_cmp {p : Int → Int → Bool} (h : Q (.d (.bool (p i j))) μ) : OpW K (rI0 fun i j => .bl (p i j)) (.d (.int i)) (.d (.int j)) μ Q := fun F H v u m o1 o2 QV c => ⟨i, j, dp_int o1, dp_int o2, c (.d (.bool _)) _ F H μ Fw.refl m (.bl _) h⟩
theorem ow_cnd {C : Int → Int → Prop} {g : Int → Int → Int} (hc : C i j) (h : Q (.d (.int (g i j))) μ) : OpW K (rI C fun i j => .int (g i j)) (.d (.int i)) (.d (.int j)) μ Q := fun F H v u m o1 o2 QV c => ⟨i, j, dp_int o1, dp_int o2, hc, c (.d (.int _)) _ F H μ Fw.refl m (.int _) h⟩
def OMul (K : PySem.W.Frag) : R2 := fun x y H Q => (rI CMul fun i j => .int (i * j)) x y H Q ∨ rRepT K x y H Q ∨ rRep x y H Q
theorem o_mul {X : Cx} : OpR X (binaryOp .Mult) (OMul X.K) := op_mul.or (op_repT.or op_rep)
theorem ow_mul (hc : CMul i j) (h : Q (.d (.int (i * j))) μ) : OpW K (OMul K) (.d (.int i)) (.d (.int j)) μ Q := fun F H v u m o1 o2 QV c => .inl ⟨i, j, dp_int o1, dp_int o2, hc, c (.d (.int _)) _ F H μ Fw.refl m (.int _) h⟩
theorem uw_neg (h : Q (.d (.int (-i))) μ) : UnW K (rU fun i => .int (-i)) (.d (.int i)) μ Q := fun F H v m o1 QV c => ⟨i, dp_int o1, c (.d (.int _)) _ F H μ Fw.refl m (.int _) h⟩
end
/-! ### sequences joined, repeated -/
theorem ow_catT {ds es : List PyData} (hl : ds.length + es.length ≤ 100000) (h : Q (.d (.tuple (ds ++ es))) μ) : OpW K (OAdd K) (.d (.tuple ds)) (.d (.tuple es)) μ Q := fun F H v u m o1 o2 QV c => by
  obtain ⟨a, vs, b1, rfl, h1, n1, d1⟩ := dp_tupX o1
  obtain ⟨b, us, b2, rfl, h2, n2, d2⟩ := dp_tupX o2
  refine .inr (.inl ⟨a, b, vs, us, rfl, rfl, .inl (.inr ⟨b1, m.ex _ _ h1⟩), .inl (.inr ⟨b2, m.ex _ _ h2⟩), by rw [dps_len d1, dps_len d2]; exact Nat.le_trans hl (by decide), fun z => ?_, fun _ z => ?_, fun _ _ r o ho nr => ?_⟩)
  · subst z
    cases d1
    exact c (.d (.tuple es)) _ F H μ Fw.refl m (.tup h2 n2 d2) h
  · subst z
    cases d2
    rw [List.append_nil] at h
    exact c (.d (.tuple ds)) _ F H μ Fw.refl m (.tup h1 n1 d1) h
  · obtain ⟨m2, w2⟩ := m.new (o := .frz o (.tup (vs ++ us))) nr
    exact c (.d (.tuple (ds ++ es))) _ _ _ μ w2 m2 (.tup upd_same ho (dps_up w2.f _ _ (dps_app d1 d2))) h
theorem ow_catC {ds es : List PyData} {p q : Addr} (hl : ds.length + es.length ≤ 100000) (i j : Nat) (hi : μ[i]? = some (p, (ds : Cont))) (hj : μ[j]? = some (q, (es : Cont))) (h : ∀ r, Q (.a r) ((r, ds ++ es) :: μ)) : OpW K (OAdd K) (.a p) (.a q) μ Q := fun F H v u m o1 o2 QV c => by
  obtain ⟨_, vs, e1, d1⟩ := m.cel _ _ (List.mem_of_getElem? hi)
  obtain ⟨_, us, e2, d2⟩ := m.cel _ _ (List.mem_of_getElem? hj)
  refine .inr (.inr (.inl ⟨p, q, vs, us, o1, o2, e1, e2, by rw [dqs_len d1, dqs_len d2]; exact Nat.le_trans hl (by decide), fun r nr => ?_⟩))
  obtain ⟨m2, w2⟩ := m.cellQ nr (dqs_app d1 d2)
  exact c (.a r) _ _ _ _ w2 m2 rfl (h r)
theorem ow_catL {ds es : List PyData} (hl : ds.length + es.length ≤ 100000) (h : ∀ r, Q (.a r) ((r, ds ++ es) :: μ)) : OpW K (OAdd K) (.d (.list ds)) (.d (.list es)) μ Q := fun F H v u m o1 o2 QV c => by
  obtain ⟨a, vs, rfl, h1, d1⟩ := dp_lstX o1
  obtain ⟨b, us, rfl, h2, d2⟩ := dp_lstX o2
  refine .inr (.inr (.inl ⟨a, b, vs, us, rfl, rfl, m.ex _ _ h1, m.ex _ _ h2, by rw [dps_len d1, dps_len d2]; exact Nat.le_trans hl (by decide), fun r nr => ?_⟩))
  obtain ⟨m2, w2⟩ := m.cell nr (dps_app d1 d2)
  exact c (.a r) _ _ _ _ w2 m2 rfl (h r)
theorem ow_repL {k : Int} {ds : List PyData} (h0 : 0 ≤ k) (h1 : k ≤ 1000) (hz : ds.length * k.toNat ≤ 100000) (h : ∀ r, Q (.a r) ((r, (List.replicate k.toNat ds).flatten) :: μ)) : OpW K (OMul K) (.d (.list ds)) (.d (.int k)) μ Q := fun F H v u m o1 o2 QV c => by
  obtain ⟨a, vs, rfl, g1, d1⟩ := dp_lstX o1
  refine .inr (.inr ⟨a, k, vs, rfl, dp_int o2, m.ex _ _ g1, by omega, by omega, by rw [dps_len d1]; exact Nat.le_trans hz (by decide), fun r nr => ?_⟩)
  have hd : ∀ n : Nat, DeAll K F (List.replicate n vs).flatten (List.replicate n ds).flatten := fun n => by
    induction n with
    | zero => exact .nil
    | succ n ih =>
      rw [List.replicate_succ, List.replicate_succ, List.flatten_cons, List.flatten_cons]
      exact dps_app d1 ih
  obtain ⟨m2, w2⟩ := m.cell nr (hd k.toNat)
  exact c (.a r) _ _ _ _ w2 m2 rfl (h r)
/-! ### comparisons of data -/
theorem ow_eq {x y : Vd} {d e : PyData} (hx : Vw μ x d) (hy : Vw μ y e) (sd : SeqAt.shaped d = true) (se : SeqAt.shaped e = true) (h : Q (.d (.bool (PyData.eqv d e))) μ) : OpW K (rEqD K) x y μ Q := fun F H v u m o1 o2 QV c =>
  ⟨d, e, (vw_ok m o1 hx).dp, (vw_ok m o2 hy).dp, sd, se, c (.d (.bool _)) _ F H μ Fw.refl m (.bl _) h⟩
theorem ow_ne {x y : Vd} {d e : PyData} (hx : Vw μ x d) (hy : Vw μ y e) (sd : SeqAt.shaped d = true) (se : SeqAt.shaped e = true) (h : Q (.d (.bool (!PyData.eqv d e))) μ) : OpW K (rNeD K) x y μ Q := fun F H v u m o1 o2 QV c =>
  ⟨d, e, (vw_ok m o1 hx).dp, (vw_ok m o2 hy).dp, sd, se, c (.d (.bool _)) _ F H μ Fw.refl m (.bl _) h⟩
def isNone : PyData → Bool
  | .none => true
  | _ => false
theorem ow_isN {d : PyData} (h : Q (.d (.bool (isNone d))) μ) : OpW K (fun x y H Q => y = .non ∧ Q (.bl (decide (x = .non))) H) (.d d) (.d .none) μ Q := fun F H v u m o1 o2 QV c => by
  refine ⟨dp_non o2, c (.d (.bool _)) _ F H μ Fw.refl m ?_ h⟩
  show De K F (.bl (decide (v = .non))) _
  cases o1 <;> exact .bl _
theorem ow_notN {d : PyData} (h : Q (.d (.bool (!isNone d))) μ) : OpW K (fun x y H Q => y = .non ∧ Q (.bl (!decide (x = .non))) H) (.d d) (.d .none) μ Q := fun F H v u m o1 o2 QV c => by
  refine ⟨dp_non o2, c (.d (.bool _)) _ F H μ Fw.refl m ?_ h⟩
  show De K F (.bl (!decide (v = .non))) _
  cases o1 <;> exact .bl _
/-! ### in -/
def flatD : PyData → Bool
  | .none => true
  | .bool _ => true
  | .int _ => true
  | .str _ => true
  | _ => false
theorem flat_ok {F : Hp} : ∀ {d : PyData} {v : V}, flatD d = true → De K F v d → flatV v = true
  | .none, _, _, h => by cases h; rfl
  | .bool _, _, _, h => by cases h; rfl
  | .int _, _, _, h => by cases h; rfl
  | .str _, _, _, h => by cases h; rfl
theorem flats_ok {F : Hp} : ∀ {ds : List PyData} {vs : List V}, ds.all flatD = true → DeAll K F vs ds → vs.all flatV = true
  | [], _, _, h => by
    cases h
    rfl
  | d :: ds, _, e, h => by
    cases h with
    | cons h1 h2 =>
      rw [List.all_cons, Bool.and_eq_true_iff] at e
      rw [List.all_cons, flat_ok e.1 h1, flats_ok e.2 h2]
      rfl
theorem eqv_flat {F : Hp} : ∀ {d e : PyData} {v u : V}, flatD d = true → flatD e = true → De K F v d → De K F u e → eqV v u = PyData.eqv d e := by
  intro d e v u hd he h1 h2
  cases h1 <;> first
    | (simp [flatD] at hd; done)
    | (cases h2 <;> first
        | (simp [flatD] at he; done)
        | (simp only [eqV, PyData.eqv]; done)
        | rfl
        | (simp [eqV, PyData.eqv]; done)
        | (unfold eqV; unfold PyData.eqv; first | rfl | simp | (rename_i a b; cases a <;> cases b <;> rfl) | (rename_i a b; cases a <;> rfl) | (rename_i a b; cases b <;> rfl)))
def inD (d : PyData) (ds : List PyData) : Bool := ds.any fun e => PyData.eqv e d
theorem inV_eq {F : Hp} {d : PyData} {v : V} (fd : flatD d = true) (h : De K F v d) : ∀ {ds : List PyData} {vs : List V}, ds.all flatD = true → DeAll K F vs ds → inV v vs = inD d ds
  | [], _, _, g => by
    cases g
    rfl
  | e :: ds, _, f, g => by
    cases g with
    | cons g1 g2 =>
      rw [List.all_cons, Bool.and_eq_true_iff] at f
      show ((eqV _ v) || _) = (PyData.eqv e d || _)
      rw [eqv_flat f.1 fd g1 h]
      exact congrArg _ (inV_eq fd h f.2 g2)
theorem ow_in {y : Vd} {d : PyData} {ds : List PyData} (hy : Ct μ y ds) (fd : flatD d = true) (fs : ds.all flatD = true) (h : Q (.d (.bool (inD d ds))) μ) : OpW K (rIn K false) (.d d) y μ Q := fun F H v u m o1 o2 QV c => by
  obtain ⟨a, vs, rfl, hs, hd⟩ := ct_ok m o2 hy
  refine ⟨a, vs, rfl, hs, flat_ok fd o1, flats_ok fs hd, ?_⟩
  show QV (.bl (inV v vs)) H
  rw [inV_eq fd o1 fs hd]
  exact c (.d (.bool _)) _ F H μ Fw.refl m (.bl _) h
theorem ow_ni {y : Vd} {d : PyData} {ds : List PyData} (hy : Ct μ y ds) (fd : flatD d = true) (fs : ds.all flatD = true) (h : Q (.d (.bool (!inD d ds))) μ) : OpW K (rIn K true) (.d d) y μ Q := fun F H v u m o1 o2 QV c => by
  obtain ⟨a, vs, rfl, hs, hd⟩ := ct_ok m o2 hy
  refine ⟨a, vs, rfl, hs, flat_ok fd o1, flats_ok fs hd, ?_⟩
  show QV (.bl (!inV v vs)) H
  rw [inV_eq fd o1 fs hd]
  exact c (.d (.bool _)) _ F H μ Fw.refl m (.bl _) h
theorem inD_int (i : Int) (ns : List Int) : inD (.int i) (intsD ns) = decide (i ∈ ns) := by
  induction ns with
  | nil => rfl
  | cons n r ih =>
    show (PyData.eqv (.int n) (.int i) || inD (.int i) (intsD r)) = _
    rw [ih]
    simp only [PyData.eqv, List.mem_cons, Bool.decide_or]
    congr 1
    by_cases e : n = i
    · subst e
      simp
    · have : ¬ i = n := fun z => e z.symm
      simp [e, this]
theorem flat_ints (ns : List Int) : (intsD ns).all flatD = true := by
  rw [List.all_eq_true]
  intro x hx
  obtain ⟨i, _, rfl⟩ := List.mem_map.mp hx
  rfl
/-! ### subscripts -/
theorem ow_ix {x : Vd} {i : Int} {d : PyData} {ds : List PyData} (hx : Ct μ x ds) (ha : atI ds i = some d) (h : Q (.d d) μ) : OpW K (rIx K) x (.d (.int i)) μ Q := fun F H v u m o1 o2 QV c => by
  obtain ⟨a, vs, rfl, hs, hd⟩ := ct_ok m o1 hx
  have hv : ∃ w, atI vs i = some w ∧ De K F w d := by
    unfold atI at ha ⊢
    rw [dps_len hd]
    cases q : ixN ds.length i with
    | none =>
      rw [q] at ha
      cases ha
    | some j =>
      rw [q] at ha
      exact dps_get hd ha
  obtain ⟨w, hw, ow⟩ := hv
  have fin : QV w H := c (.d _) _ F H μ Fw.refl m ow h
  rcases hs with hs | hs
  · exact .inl ⟨a, vs, i, w, rfl, dp_int o2, hs, hw, fin⟩
  · exact .inr (.inl ⟨a, vs, i, w, rfl, dp_int o2, hs, hw, fin⟩)
end
end Ec

set_option Elab.async false
set_option linter.all false
set_option maxRecDepth 100000
set_option maxHeartbeats 4000000
namespace Ec
open PySem PySem.Spec PyProof.Rows L2
/-- the built-ins' names are the module's own nowhere -/
structure Bl (mg : Str → Option Value) : Prop where
  len : mg "len" = none
  range : mg "range" = none
  list : mg "list" = none
  tuple : mg "tuple" = none
  sorted : mg "sorted" = none
  all : mg "all" = none
  any : mg "any" = none
  isi : mg "isinstance" = none
  min : mg "min" = none
  max : mg "max" = none
  abs : mg "abs" = none
  int : mg "int" = none
  str : mg "str" = none
  repr : mg "repr" = none
  set : mg "set" = none
  sum : mg "sum" = none
  enum : mg "enumerate" = none
  zip : mg "zip" = none
  bool : mg "bool" = none
  dict : mg "dict" = none
section
variable {X : Cx} {δ : Dl} {μ : Cells} {e a b : Expr} {pos p : Pos} {Q : Vd → Cells → Prop} {es : List Expr} {mg : Str → Option Value}
theorem we_cb {id : String} {x : Str} {r : List V → Hp → VK → Prop} (hc : CallR X (.builtin id) r) (hg : Gl X x) (hm : X.mg x = none) (hv : bootBuiltins x = some (.builtin id)) (h : WA X (e :: es) δ μ fun xs μ1 => CaW X.K r xs μ1 Q) (hn : x ≠ "__name__" := by decide) (hdb : (x == ("__debug__" : Str)) = false := by decide)
    (he : starEach (e :: es) X.env = (false, eval e X.env) :: starEach es X.env := by rfl) (hpl : (backTo pos (starEach es X.env)).any (·.1) = false := by rfl) : WE X (.Call (.Name x p) (e :: es) [] pos) δ μ Q := fun F H σ R QV c =>
  toE (pe_callB hc hg hm hv (pcA X (e :: es)) hn hdb he hpl) (h F H σ R _ fun vs xs F1 H1 μ1 w1 R1 o1 q => q F1 H1 vs R1.m o1 _ fun z w F3 H3 μ3 w3 m3 o3 q3 => c w z F3 H3 μ3 (w1.trans w3) (R1.to w3.f m3) o3 q3)
theorem we_ct {T : String} {x : Str} {r : List V → Hp → VK → Prop} (hc : CallR X (.type T) r) (hg : Gl X x) (hm : X.mg x = none) (hv : bootBuiltins x = some (.type T)) (h : WA X (e :: es) δ μ fun xs μ1 => CaW X.K r xs μ1 Q) (hn : x ≠ "__name__" := by decide) (hdb : (x == ("__debug__" : Str)) = false := by decide)
    (he : starEach (e :: es) X.env = (false, eval e X.env) :: starEach es X.env := by rfl) (hpl : (backTo pos (starEach es X.env)).any (·.1) = false := by rfl) : WE X (.Call (.Name x p) (e :: es) [] pos) δ μ Q := fun F H σ R QV c =>
  toE (pe_callTy hc hg hm hv (pcA X (e :: es)) hn hdb he hpl) (h F H σ R _ fun vs xs F1 H1 μ1 w1 R1 o1 q => q F1 H1 vs R1.m o1 _ fun z w F3 H3 μ3 w3 m3 o3 q3 => c w z F3 H3 μ3 (w1.trans w3) (R1.to w3.f m3) o3 q3)
/-- one argument -/
theorem wa_one {QA : List Vd → Cells → Prop} (h : WE X e δ μ fun x μ1 => QA [x] μ1) (hs : starEach [e] X.env = (false, eval e X.env) :: starEach [] X.env := by rfl) : WA X [e] δ μ QA := wa_cons (h.mono fun x μ1 q => wa_nil q) hs
theorem wa_two {QA : List Vd → Cells → Prop} (h : WE X a δ μ fun x μ1 => WE X b δ μ1 fun y μ2 => QA [x, y] μ2) (hs : starEach [a, b] X.env = (false, eval a X.env) :: starEach [b] X.env := by rfl) (hs2 : starEach [b] X.env = (false, eval b X.env) :: starEach [] X.env := by rfl) :
    WA X [a, b] δ μ QA := wa_cons (h.mono fun x μ1 q => wa_one q hs2) hs
theorem we_len (B : Bl mg) (hg : Gl X "len") (h : WE X e δ μ fun x μ1 => ∃ ds, Ct μ1 x ds ∧ Q (.d (.int (ds.length : Int))) μ1) (hm : X.mg = mg := by rfl) (s1 : starEach [e] X.env = (false, eval e X.env) :: starEach [] X.env := by rfl) (s2 : (backTo pos (starEach [] X.env)).any (·.1) = false := by rfl) :
    WE X (.Call (.Name "len" p) [e] [] pos) δ μ Q :=
  we_cb call_len_seq hg (hm ▸ B.len) PySem.boot_len (wa_one (h.mono fun x μ1 q => fun F H vs m o QV c => by
    obtain ⟨ds, ct, q⟩ := q
    cases o with
    | cons o1 o2 =>
      cases o2
      obtain ⟨a, us, rfl, hs, hd⟩ := ct_ok m o1 ct
      refine ⟨a, us, rfl, hs, ?_⟩
      rw [dps_len hd]
      exact c (.d (.int _)) _ F H μ1 Fw.refl m (.int _) q) s1) (he := s1) (hpl := s2)
/-- list(xs) -/
theorem we_list (B : Bl mg) (hg : Gl X "list") (h : WE X e δ μ fun x μ1 => ∃ ds, Ct μ1 x ds ∧ ∀ p, Q (.a p) ((p, ds) :: μ1)) (hm : X.mg = mg := by rfl) (s1 : starEach [e] X.env = (false, eval e X.env) :: starEach [] X.env := by rfl) (s2 : (backTo pos (starEach [] X.env)).any (·.1) = false := by rfl) :
    WE X (.Call (.Name "list" p) [e] [] pos) δ μ Q :=
  we_ct call_list_of hg (hm ▸ B.list) PyProof.Rows.boot_list (wa_one (h.mono fun x μ1 q => fun F H vs m o QV c => by
    obtain ⟨ds, ct, q⟩ := q
    cases o with
    | cons o1 o2 =>
      cases o2
      obtain ⟨a, us, rfl, hs, hd⟩ := ct_ok m o1 ct
      refine ⟨a, us, rfl, hs, fun l nl => ?_⟩
      obtain ⟨m2, w2⟩ := m.cell nl hd
      exact c (.a l) _ _ _ _ w2 m2 rfl (q l)) s1) (he := s1) (hpl := s2)
theorem intsD_inj : ∀ {as bs : List Int}, intsD as = intsD bs → as = bs
  | [], [], _ => rfl
  | a :: as, b :: bs, h => by
    have h1 := (List.cons.inj h).1
    have h2 := intsD_inj (List.cons.inj h).2
    cases h1
    rw [h2]
  | [], _ :: _, h => by cases h
  | _ :: _, [], h => by cases h
/-- tuple(a list): the new object has no dict of its own -/
def rTupL (K : PySem.W.Frag) : List V → Hp → VK → Prop := fun xs H Q => ∃ p ys, xs = [.ref p] ∧ SqL K H p ys ∧ ∀ l o, o.dict = none → H l = none → Q (.ref l) (upd H l (.frz o (.tup ys)))
theorem cr_tupL : CallR X (.type "tuple") (rTupL X.K) := fun pins st σ H xs us Q iv rel h => by
  obtain ⟨p, ys, e, hl, q⟩ := h
  subst e
  obtain ⟨u, e, ru⟩ := vals1 rel
  subst e
  cases ru
  obtain ⟨its, rv, pl, hz⟩ := iv.list hl
  have hn := rv.length
  refine call_tuple_list pl.isList (fun hp kp => ?_) (by simp only [List.size_toArray] <;> omega)
  have J : Inv X pins σ H { st with heap := hp } := iv.kept (t' := st.toks) kp
  have nf := J.hok.fresh (Nat.le_refl hp.objs.size)
  exact ⟨.ref hp.objs.size, _, J.laid (t' := st.toks) (o := .frz { cls := .type "tuple", data := .seq its.toArray } (.tup ys)) (fun b o e => Heap.get?_push_of_some _ e) (Nat.le_refl _)
    ⟨Heap.get?_push_size _ rfl, hz, its, rv, IsTup.new _ _⟩, rfl, q _ _ rfl nf⟩
/-- tuple(xs) -/
theorem we_tuple (B : Bl mg) (hg : Gl X "tuple") (h : WE X e δ μ fun x μ1 => ∃ ds, Ct μ1 x ds ∧ Q (.d (.tuple ds)) μ1) (hm : X.mg = mg := by rfl) (s1 : starEach [e] X.env = (false, eval e X.env) :: starEach [] X.env := by rfl) (s2 : (backTo pos (starEach [] X.env)).any (·.1) = false := by rfl) :
    WE X (.Call (.Name "tuple" p) [e] [] pos) δ μ Q :=
  we_ct (cr_tupL.or call_tuple_of) hg (hm ▸ B.tuple) PyProof.Rows.boot_tuple (wa_one (h.mono fun x μ1 q => fun F H vs m o QV c => by
    obtain ⟨ds, ct, q⟩ := q
    cases o with
    | cons o1 o2 =>
      cases o2
      have new : ∀ {a : Addr} {us : List V}, SqL X.K H a us → DeAll X.K F us ds → ∀ l o, o.dict = none → H l = none → QV (.ref l) (upd H l (.frz o (.tup us))) := fun {a us} hs hd l o ho nl => by
        obtain ⟨m2, w2⟩ := m.new (o := .frz o (.tup us)) nl
        exact c (.d (.tuple ds)) _ _ _ μ1 w2 m2 (.tup upd_same ho (dps_up w2.f _ _ hd)) q
      cases ct with
      | l =>
        obtain ⟨a, us, rfl, hs, hd⟩ := dp_lst o1
        exact .inl ⟨a, us, rfl, m.ex.seq hs, new (m.ex.seq hs) hd⟩
      | t =>
        obtain ⟨a, us, b, rfl, h1, h2, hd⟩ := dp_tupX o1
        exact .inr ⟨a, us, rfl, .inr ⟨.inl (.inr ⟨b, m.ex _ _ h1⟩), c (.d (.tuple ds)) _ F H μ1 Fw.refl m (.tup h1 h2 hd) q⟩⟩
      | s ns e0 =>
        subst e0
        obtain ⟨a, e, hs⟩ := o1
        subst e
        exact .inl ⟨a, _, rfl, m.ex.seq hs, new (m.ex.seq hs) (ints_dps ns)⟩
      | c i hi pl =>
        obtain ⟨_, us, e1, hd⟩ := m.cel _ _ (List.mem_of_getElem? hi)
        replace hd := hd.to pl
        exact .inl ⟨_, us, by rw [show _ = V.ref _ from o1], .of e1, new (.of e1) hd⟩) s1) (he := s1) (hpl := s2)
/-- sorted of a list of ints -/
def srt (ns : List Int) : List Int := ns.mergeSort (fun a b => decide (a ≤ b))
theorem srt_perm (ns : List Int) : (srt ns).Perm ns := List.mergeSort_perm ns _
theorem srt_up (ns : List Int) : (srt ns).Pairwise (· ≤ ·) := by
  have h := List.pairwise_mergeSort (le := fun (a b : Int) => decide (a ≤ b)) (fun a b c h1 h2 => decide_eq_true (Int.le_trans (of_decide_eq_true h1) (of_decide_eq_true h2)))
    (fun a b => by
      rcases Int.le_total a b with h | h
      · simp [h]
      · simp [h]) ns
  exact h.imp fun h => of_decide_eq_true h
theorem srt_one {as bs : List Int} (p : as.Perm bs) (h1 : as.Pairwise (· ≤ ·)) (h2 : bs.Pairwise (· ≤ ·)) : as = bs := p.eq_of_pairwise (fun a b _ _ x y => Int.le_antisymm x y) h1 h2
theorem srt_eq {as ns : List Int} (p : as.Perm ns) (h1 : as.Pairwise (· ≤ ·)) : as = srt ns := srt_one (p.trans (srt_perm ns).symm) h1 (srt_up ns)
theorem we_sorted (B : Bl mg) (hg : Gl X "sorted") (h : WE X e δ μ fun x μ1 => ∃ ns, Ct μ1 x (intsD ns) ∧ (∀ ds, toC x ≠ .tuple ds) ∧ ns.length < 64 ∧ ∀ p, Q (.a p) ((p, intsD (srt ns)) :: μ1)) (hm : X.mg = mg := by rfl) (s1 : starEach [e] X.env = (false, eval e X.env) :: starEach [] X.env := by rfl) (s2 : (backTo pos (starEach [] X.env)).any (·.1) = false := by rfl) :
    WE X (.Call (.Name "sorted" p) [e] [] pos) δ μ Q :=
  we_cb cr_sorted hg (hm ▸ B.sorted) PyProof.Rows.boot_sorted (wa_one (h.mono fun x μ1 q => fun F H vs m o QV c => by
    obtain ⟨ns, ct, nt, hz, q⟩ := q
    cases o with
    | cons o1 o2 =>
      cases o2
      obtain ⟨a, us, rfl, hs, hd⟩ := ct_ok m o1 ct
      have hl : SqL X.K H a us := by
        cases ct with
        | l =>
          obtain ⟨a', us', e1, hs', hd'⟩ := dp_lst o1
          cases e1
          rw [dps_ints hd, ← dps_ints hd']
          exact m.ex.seq hs'
        | t => exact absurd rfl (nt _)
        | s ns2 e0 =>
          obtain ⟨a', e, hs'⟩ := o1
          cases e
          rw [dps_ints hd, intsD_inj e0]
          exact m.ex.seq hs'
        | c i hi pl =>
          obtain ⟨_, us', e1, hd'⟩ := m.cel _ _ (List.mem_of_getElem? hi)
          replace hd' := hd'.to pl
          have : V.ref a = .ref _ := o1
          cases this
          rw [dps_ints hd, ← dps_ints hd']
          exact .of e1
      rw [dps_ints hd] at hl
      refine ⟨a, ns, rfl, hl, hz, fun ns' l pm up nl => ?_⟩
      rw [srt_eq pm up]
      obtain ⟨m2, w2⟩ := m.cell nl (ints_dps (K := X.K) (H := F) (srt ns))
      exact c (.a l) _ _ _ _ w2 m2 rfl (q l)) s1) (he := s1) (hpl := s2)
abbrev blsD (bs : List Bool) : List PyData := bs.map PyData.bool
theorem ct_lst {K : PySem.W.Frag} {F H : Hp} {x : Vd} {v : V} {ds : List PyData} (m : RpM K F H μ) (o : VOk K F x v) (ct : Ct μ x ds) (nt : ∀ ds, toC x ≠ .tuple ds) : ∃ a us, v = .ref a ∧ SqL K H a us ∧ DeAll K F us ds := by
  cases ct with
  | l =>
    obtain ⟨a, us, e1, hs, hd⟩ := dp_lst o
    exact ⟨a, us, e1, m.ex.seq hs, hd⟩
  | t => exact absurd rfl (nt _)
  | s ns e0 =>
    subst e0
    obtain ⟨a, e, hs⟩ := o
    exact ⟨a, _, e, m.ex.seq hs, ints_dps ns⟩
  | c i hi pl =>
    obtain ⟨_, us, e1, hd⟩ := m.cel _ _ (List.mem_of_getElem? hi)
    exact ⟨_, us, o, .of e1, hd.to pl⟩
theorem we_all (B : Bl mg) (hg : Gl X "all") (hc : X.calm = true) (h : WE X e δ μ fun x μ1 => ∃ bs, Ct μ1 x (blsD bs) ∧ (∀ ds, toC x ≠ .tuple ds) ∧ Q (.d (.bool (bs.all id))) μ1) (hm : X.mg = mg := by rfl) (s1 : starEach [e] X.env = (false, eval e X.env) :: starEach [] X.env := by rfl) (s2 : (backTo pos (starEach [] X.env)).any (·.1) = false := by rfl) :
    WE X (.Call (.Name "all" p) [e] [] pos) δ μ Q :=
  we_cb (cr_all hc) hg (hm ▸ B.all) PyProof.Rows.boot_all (wa_one (h.mono fun x μ1 q => fun F H vs m o QV c => by
    obtain ⟨bs, ct, nt, q⟩ := q
    cases o with
    | cons o1 o2 =>
      cases o2
      obtain ⟨a, us, rfl, hs, hd⟩ := ct_lst m o1 ct nt
      rw [dps_bls hd] at hs
      exact ⟨a, bs, rfl, hs, c (.d (.bool _)) _ F H μ1 Fw.refl m (.bl _) q⟩) s1) (he := s1) (hpl := s2)
theorem we_any (B : Bl mg) (hg : Gl X "any") (hc : X.calm = true) (h : WE X e δ μ fun x μ1 => ∃ bs, Ct μ1 x (blsD bs) ∧ (∀ ds, toC x ≠ .tuple ds) ∧ Q (.d (.bool (bs.any id))) μ1) (hm : X.mg = mg := by rfl) (s1 : starEach [e] X.env = (false, eval e X.env) :: starEach [] X.env := by rfl) (s2 : (backTo pos (starEach [] X.env)).any (·.1) = false := by rfl) :
    WE X (.Call (.Name "any" p) [e] [] pos) δ μ Q :=
  we_cb (cr_any hc) hg (hm ▸ B.any) PyProof.Rows.boot_any (wa_one (h.mono fun x μ1 q => fun F H vs m o QV c => by
    obtain ⟨bs, ct, nt, q⟩ := q
    cases o with
    | cons o1 o2 =>
      cases o2
      obtain ⟨a, us, rfl, hs, hd⟩ := ct_lst m o1 ct nt
      rw [dps_bls hd] at hs
      exact ⟨a, bs, rfl, hs, c (.d (.bool _)) _ F H μ1 Fw.refl m (.bl _) q⟩) s1) (he := s1) (hpl := s2)
theorem we_abs (B : Bl mg) (hg : Gl X "abs") (h : WE X e δ μ fun x μ1 => ∃ i : Int, x = .d (.int i) ∧ Q (.d (.int (if i < 0 then -i else i))) μ1) (hm : X.mg = mg := by rfl) (s1 : starEach [e] X.env = (false, eval e X.env) :: starEach [] X.env := by rfl) (s2 : (backTo pos (starEach [] X.env)).any (·.1) = false := by rfl) :
    WE X (.Call (.Name "abs" p) [e] [] pos) δ μ Q :=
  we_cb call_abs hg (hm ▸ B.abs) PyProof.Rows.boot_abs (wa_one (h.mono fun x μ1 q => fun F H vs m o QV c => by
    obtain ⟨i, rfl, q⟩ := q
    cases o with
    | cons o1 o2 =>
      cases o2
      exact ⟨i, by rw [dp_int o1], c (.d (.int _)) _ F H μ1 Fw.refl m (.int _) q⟩) s1) (he := s1) (hpl := s2)
/-- int(a truth value) -/
theorem we_intB (B : Bl mg) (hg : Gl X "int") (h : WE X e δ μ fun x μ1 => ∃ k, x = .d (.bool k) ∧ Q (.d (.int (if k then 1 else 0))) μ1) (hm : X.mg = mg := by rfl) (s1 : starEach [e] X.env = (false, eval e X.env) :: starEach [] X.env := by rfl) (s2 : (backTo pos (starEach [] X.env)).any (·.1) = false := by rfl) :
    WE X (.Call (.Name "int" p) [e] [] pos) δ μ Q :=
  we_ct call_int1 hg (hm ▸ B.int) PyProof.Rows.boot_int (wa_one (h.mono fun x μ1 q => fun F H vs m o QV c => by
    obtain ⟨k, rfl, q⟩ := q
    cases o with
    | cons o1 o2 =>
      cases o2
      exact .inr ⟨k, by rw [dp_bl o1], c (.d (.int _)) _ F H μ1 Fw.refl m (.int _) q⟩) s1) (he := s1) (hpl := s2)
theorem we_min2 (B : Bl mg) (hg : Gl X "min") (hc : X.calm = true) (h : WE X a δ μ fun x μ1 => WE X b δ μ1 fun y μ2 => ∃ i j : Int, x = .d (.int i) ∧ y = .d (.int j) ∧ Q (.d (.int (if j < i then j else i))) μ2) (hm : X.mg = mg := by rfl)
    (s1 : starEach [a, b] X.env = (false, eval a X.env) :: starEach [b] X.env := by rfl) (s2 : starEach [b] X.env = (false, eval b X.env) :: starEach [] X.env := by rfl) (s3 : (backTo pos (starEach [b] X.env)).any (·.1) = false := by rfl) :
    WE X (.Call (.Name "min" p) [a, b] [] pos) δ μ Q :=
  we_cb (call_min2 hc) hg (hm ▸ B.min) PyProof.Rows.boot_min (wa_two (h.mono fun x μ1 q => q.mono fun y μ2 q => fun F H vs m o QV c => by
    obtain ⟨i, j, rfl, rfl, q⟩ := q
    cases o with
    | cons o1 o2 =>
      cases o2 with
      | cons o2 o3 =>
        cases o3
        exact ⟨i, j, by rw [dp_int o1, dp_int o2], c (.d (.int _)) _ F H μ2 Fw.refl m (.int _) q⟩) s1 s2) (he := s1) (hpl := s3)
/-- list(range(n)) -/
theorem we_listRg (B : Bl mg) {p2 pos2 : Pos} (hc : X.calm = true) (hg : Gl X "list") (hg2 : Gl X "range") (h : WE X e δ μ fun x μ1 => ∃ n : Int, x = .d (.int n) ∧ 0 ≤ n ∧ n ≤ 100000 ∧ ∀ q, Q (.a q) ((q, rangeD 0 n.toNat) :: μ1)) (hm : X.mg = mg := by rfl)
    (na : starEach [.Call (.Name "range" p2) [e] [] pos2] X.env = (false, eval (.Call (.Name "range" p2) [e] [] pos2) X.env) :: starEach [] X.env := by rfl) (nb : starEach [e] X.env = (false, eval e X.env) :: starEach [] X.env := by rfl) :
    WE X (.Call (.Name "list" p) [.Call (.Name "range" p2) [e] [] pos2] [] pos) δ μ Q := fun F H σ R QV c =>
  toE (pe_listRg hc hg (hm ▸ B.list) (prg_1 hg2 (hm ▸ B.range) (pcE X e) nb) na) (h F H σ R _ fun v x F1 H1 μ1 w1 R1 o1 q => by
    obtain ⟨n, rfl, h0, h1, q⟩ := q
    refine ⟨n, dp_int o1, RgOk.of_le (Int.le_refl 0) (by omega) (by omega) h0, fun l nl => ?_⟩
    have hd : ∀ (L : List Nat), DeAll X.K F1 (L.map fun (i : Nat) => V.int (0 + (i : Int))) (L.map fun (i : Nat) => PyData.int (0 + (i : Int))) := fun L => by
      induction L with
      | nil => exact .nil
      | cons n r ih => exact .cons (.int _) ih
    have e0 : (n - 0).toNat = n.toNat := by omega
    have hd' : DeAll X.K F1 (rgV 0 n) (rangeD 0 n.toNat) := by
      unfold rgV rangeD
      rw [e0]
      exact hd _
    obtain ⟨m2, w2⟩ := R1.m.cell nl hd'
    exact c _ (.a l) _ _ _ (w1.trans w2) (R1.to w2.f m2) rfl (q l))
/-- a list, own or not -/
inductive Lk (μ : Cells) : Vd → Prop
  | d (ds : List PyData) : Lk μ (.d (.list ds))
  | c (i : Nat) {p : Addr} {ds : List PyData} (h : μ[i]? = some (p, (ds : Cont))) : Lk μ (.a p)
theorem lk_ok {K : PySem.W.Frag} {F H : Hp} {x : Vd} {v : V} (m : RpM K F H μ) (o : VOk K F x v) (h : Lk μ x) : ∃ a us, v = .ref a ∧ SqL K H a us := by
  cases h with
  | d =>
    obtain ⟨a, us, e1, hs, _⟩ := dp_lst o
    exact ⟨a, us, e1, m.ex.seq hs⟩
  | c i hi =>
    obtain ⟨_, us, e1, _⟩ := m.cel _ _ (List.mem_of_getElem? hi)
    exact ⟨_, us, o, .of e1⟩
/-- a method with arguments -/
def MtW (K : PySem.W.Frag) (r : V → List V → Hp → VK → Prop) (x : Vd) (xs : List Vd) (μ : Cells) (Q : Vd → Cells → Prop) : Prop := ∀ F H v vs, RpM K F H μ → VOk K F x v → VAll K F xs vs → ∀ QV : VK,
  (∀ z w F' H' μ', Fw (ks μ) (ks μ') F H F' H' → RpM K F' H' μ' → VOk K F' z w → Q z μ' → QV w H') → r v vs H QV
theorem we_bmL {name : Str} {id : String} {apos cpos : Pos} {o : Expr} {r : V → List V → Hp → VK → Prop} (pa : PlainAttrs "list") (slot : Slot "list" name id) (hty : typeOf (.builtin id) = pure (.type "method_descriptor")) (hm : MtR X id r)
    (h : WE X o δ μ fun x μ1 => Lk μ1 x ∧ WA X (e :: es) δ μ1 fun xs μ2 => MtW X.K r x xs μ2 Q)
    (hbase : attributeBase o name X.env (eval o X.env) = eval o X.env := by rfl)
    (hfew : ((backTo cpos (starEach (e :: es) X.env)).all (fun x => !x.1) && (backToKw cpos (keywordEach [] X.env)).all (fun x => x.1.isSome)
      && decide ((e :: es).length + ([] : List Keyword).length + (if ([] : List Keyword).isEmpty then 0 else 1) < 30)) = true := by rfl)
    (hline : (apos.endLine == cpos.line) = true := by rfl) (hs : starEach (e :: es) X.env = (false, eval e X.env) :: starEach es X.env := by rfl) (hplain : (backTo cpos (starEach es X.env)).any (·.1) = false := by rfl) :
    WE X (.Call (.Attribute o name apos) (e :: es) [] cpos) δ μ Q := fun F H σ R QV c =>
  toE (pe_bm pa slot hty hm (pcE X o) (pcA X (e :: es)) hbase hfew hline hs hplain) (h F H σ R _ fun v x F1 H1 μ1 w1 R1 o1 q => by
    obtain ⟨ct, q⟩ := q
    obtain ⟨a, us, rfl, hl⟩ := lk_ok R1.m o1 ct
    exact ⟨.inl ⟨rfl, us, hl⟩, q F1 H1 σ R1 _ fun vs xs F2 H2 μ2 w2 R2 o2 q2 => q2 F2 H2 _ vs R2.m (o1.up w2.f) o2 _ fun z w F3 H3 μ3 w3 m3 o3 q3 => c w z F3 H3 μ3 ((w1.trans w2).trans w3) (R2.to w3.f m3) o3 q3⟩)
theorem mw_append {K : PySem.W.Frag} {p : Addr} {ds : List PyData} {y : PyData} (i : Nat) (hi : μ[i]? = some (p, (ds : Cont))) (hz : ds.length < 100000) (h : Q (.d .none) (μ.set i (p, ds ++ [y]))) : MtW K rAppend (.a p) [.d y] μ Q := fun F H v vs m o1 o2 QV c => by
  cases o2 with
  | cons o2 o3 =>
    cases o3
    obtain ⟨_, us, e1, hd⟩ := m.cel _ _ (List.mem_of_getElem? hi)
    obtain ⟨m2, w2⟩ := m.setCQ (es := ds ++ [y]) hi (dqs_app hd (.cons (.d o2) .nil))
    exact ⟨p, us, _, o1, rfl, e1, by rw [dqs_len hd]; exact Nat.lt_of_lt_of_le hz (by decide), c (.d .none) _ _ _ _ w2 m2 .non h⟩
theorem we_append {o : Expr} {apos cpos : Pos} (h : WE X o δ μ fun x μ1 => ∃ (p : Addr) (ds : List PyData), (∃ i : Nat, μ1[i]? = some (p, (ds : Cont))) ∧ x = .a p ∧ WE X e δ μ1 fun y μ2 => ∃ (yd : PyData) (ds : List PyData) (i : Nat), y = .d yd ∧ μ2[i]? = some (p, (ds : Cont)) ∧ ds.length < 100000 ∧ Q (.d .none) (μ2.set i (p, ds ++ [yd])))
    (hbase : attributeBase o "append" X.env (eval o X.env) = eval o X.env := by rfl)
    (hfew : ((backTo cpos (starEach [e] X.env)).all (fun x => !x.1) && (backToKw cpos (keywordEach [] X.env)).all (fun x => x.1.isSome)
      && decide ([e].length + ([] : List Keyword).length + (if ([] : List Keyword).isEmpty then 0 else 1) < 30)) = true := by rfl)
    (hline : (apos.endLine == cpos.line) = true := by rfl) (hs : starEach [e] X.env = (false, eval e X.env) :: starEach [] X.env := by rfl) (hplain : (backTo cpos (starEach [] X.env)).any (·.1) = false := by rfl) :
    WE X (.Call (.Attribute o "append" apos) [e] [] cpos) δ μ Q :=
  we_bmL PySem.F.plainAttrs_list PySem.F.slot_list_append PySem.F.type_list_append mt_append (h.mono fun x μ1 q => by
    obtain ⟨p, ds, ⟨i, hi⟩, rfl, q⟩ := q
    refine ⟨.c i hi, wa_one (q.mono fun y μ2 q => ?_) hs⟩
    obtain ⟨yd, ds', j, rfl, hj, hz, q⟩ := q
    exact mw_append j hj hz q) hbase hfew hline hs hplain
/-- xs.extend(ys) of two cells, or of data -/
theorem we_extend {o : Expr} {apos cpos : Pos} (h : WE X o δ μ fun x μ1 => ∃ (p : Addr) (ds : List PyData), (∃ i : Nat, μ1[i]? = some (p, (ds : Cont))) ∧ x = .a p ∧ WE X e δ μ1 fun y μ2 => ∃ (q : Addr) (fs ds : List PyData) (i j : Nat), y = .a q ∧ μ2[j]? = some (q, (fs : Cont)) ∧ μ2[i]? = some (p, (ds : Cont)) ∧ ds.length + fs.length ≤ 100000 ∧ Q (.d .none) (μ2.set i (p, ds ++ fs)))
    (hbase : attributeBase o "extend" X.env (eval o X.env) = eval o X.env := by rfl)
    (hfew : ((backTo cpos (starEach [e] X.env)).all (fun x => !x.1) && (backToKw cpos (keywordEach [] X.env)).all (fun x => x.1.isSome)
      && decide ([e].length + ([] : List Keyword).length + (if ([] : List Keyword).isEmpty then 0 else 1) < 30)) = true := by rfl)
    (hline : (apos.endLine == cpos.line) = true := by rfl) (hs : starEach [e] X.env = (false, eval e X.env) :: starEach [] X.env := by rfl) (hplain : (backTo cpos (starEach [] X.env)).any (·.1) = false := by rfl) :
    WE X (.Call (.Attribute o "extend" apos) [e] [] cpos) δ μ Q :=
  we_bmL PySem.F.plainAttrs_list PySem.F.slot_list_extend PySem.F.type_list_extend mt_extend (h.mono fun x μ1 q => by
    obtain ⟨p, ds, ⟨i, hi⟩, rfl, q⟩ := q
    refine ⟨.c i hi, wa_one (q.mono fun y μ2 q => ?_) hs⟩
    obtain ⟨q', fs, ds', i', j', rfl, hj, hi', hz, q⟩ := q
    intro F H v vs m o1 o2 QV c
    cases o2 with
    | cons o2 o3 =>
      cases o3
      obtain ⟨_, us, e1, hd⟩ := m.cel _ _ (List.mem_of_getElem? hi')
      obtain ⟨_, ws, e2, hd2⟩ := m.cel _ _ (List.mem_of_getElem? hj)
      obtain ⟨m2, w2⟩ := m.setCQ (es := ds' ++ fs) hi' (dqs_app hd hd2)
      exact ⟨p, q', us, ws, o1, by rw [show _ = V.ref q' from o2], e1, e2, by rw [dqs_len hd, dqs_len hd2]; exact Nat.le_trans hz (by decide), c (.d .none) _ _ _ _ w2 m2 .non q⟩) hbase hfew hline hs hplain
/-- xs.extend(a tuple) -/
theorem extend_tup0 (l : Addr) (xs : Array Value) (n : Nat) (b : Addr) (ys : Array Value) (n2 : Nat) (dd : Option Addr) (sl : Array (Option Value)) (h0 : ¬(!xs.isEmpty && Builtin.List.listTooLong (xs.size + ys.size)) = true) (h1 : xs.size ≤ sizeLine) (h2 : xs.size + ys.size ≤ sizeLine + 1) :
    Meets (Builtin.«list.extend» ⟨[.ref l, .ref b], []⟩) (fun _ R s => s.heap.get? l = some { cls := .type "list", dict := none, data := .seq xs n, slots := #[] } ∧ s.heap.get? b = some { cls := .type "tuple", dict := dd, data := .seq ys n2, slots := sl } ∧
      R (.ok (.ret Value.none)) { s with heap := s.heap.update l (Obj.mapSeq fun x => x ++ ys), toks := s.toks }) :=
  .of_wp fun prog w A R s h => by
    obtain ⟨hp, g, d, tk, os⟩ := s
    obtain ⟨hl, hb, h⟩ := h
    have f1 := AutoSeq1.idx_int
    have f2 := AutoSeq1.sub_tuple_tuple
    have f3 := AutoSeq1.sub_list_list
    have f4 := AutoSeq1.sub_tuple_list
    have f5 := AutoSeq1.sub_list_tuple
    have hs0 := h0
    have hz' : (xs ++ ys).size ≤ sizeLine + 1 := by
      rw [Array.size_append]
      exact h2
    wp_walk using (wpAny_updateSeq hl rfl (hz := h1) (_hz' := hz')), AutoSeq1.wpAny_loadPart' hl, AutoSeq1.wpAny_loadPart' hb
    exact ⟨_, rfl, h⟩
def rExtT (K : PySem.W.Frag) : V → List V → Hp → VK → Prop := fun x vs H Q => ∃ l b xs zs, x = .ref l ∧ vs = [.ref b] ∧ H l = some (.lst xs) ∧ SqT K H b zs ∧ xs.length + zs.length ≤ sizeLine ∧ Q .non (upd H l (.lst (xs ++ zs)))
theorem mt_extT : MtM X "list.extend" (rExtT X.K) := by
  intro pins s σ H x vs v us Q I rx rv h
  obtain ⟨l, b, xs, zs, rfl, rfl, hH, hB, hz, q⟩ := h
  cases rx
  obtain ⟨u, rfl, ru⟩ := rv.one
  cases ru
  obtain ⟨z, its, n, r, hl, e⟩ := I.lstM hH
  obtain ⟨its2, r2, ⟨⟨oc, od, dt, sl⟩, e2, hcl, n2, hdt⟩, hz2⟩ := I.tuple hB
  replace hcl : oc = .type "tuple" := hcl
  replace hdt : dt = .seq its2.toArray n2 := hdt
  subst hcl hdt
  have hl2 := r2.length
  have ok1 : its.toArray.size + its2.toArray.size ≤ sizeLine := by
    rw [List.size_toArray, List.size_toArray]
    omega
  have ok2 : ¬ (!its.toArray.isEmpty && Builtin.List.listTooLong (its.toArray.size + its2.toArray.size)) = true := by
    rw [notLongL ok1, Bool.and_false]
    decide
  refine call_meets F.slot_list_extend ⟨_, e, rfl⟩ F.entry_list_extend (F.args_list_extend_2 _ _)
    (extend_tup0 l its.toArray n b its2.toArray n2 od sl ok2 (by rw [List.size_toArray]; omega) (by omega)) ⟨e, e2, ?_⟩
  refine ⟨.non, _, I.lset (its' := its ++ its2) hH e (by simp) (r.append r2) ?_, rfl, q⟩
  rw [List.length_append]
  exact hz
theorem we_extendT {o : Expr} {apos cpos : Pos} (h : WE X o δ μ fun x μ1 => ∃ (p : Addr) (ds : List PyData), (∃ i : Nat, μ1[i]? = some (p, (ds : Cont))) ∧ x = .a p ∧ WE X e δ μ1 fun y μ2 => ∃ (fs ds : List PyData) (i : Nat), y = .d (.tuple fs) ∧ μ2[i]? = some (p, (ds : Cont)) ∧ ds.length + fs.length ≤ 100000 ∧ Q (.d .none) (μ2.set i (p, ds ++ fs)))
    (hbase : attributeBase o "extend" X.env (eval o X.env) = eval o X.env := by rfl)
    (hfew : ((backTo cpos (starEach [e] X.env)).all (fun x => !x.1) && (backToKw cpos (keywordEach [] X.env)).all (fun x => x.1.isSome)
      && decide ([e].length + ([] : List Keyword).length + (if ([] : List Keyword).isEmpty then 0 else 1) < 30)) = true := by rfl)
    (hline : (apos.endLine == cpos.line) = true := by rfl) (hs : starEach [e] X.env = (false, eval e X.env) :: starEach [] X.env := by rfl) (hplain : (backTo cpos (starEach [] X.env)).any (·.1) = false := by rfl) :
    WE X (.Call (.Attribute o "extend" apos) [e] [] cpos) δ μ Q :=
  we_bmL PySem.F.plainAttrs_list PySem.F.slot_list_extend PySem.F.type_list_extend mt_extT (h.mono fun x μ1 q => by
    obtain ⟨p, ds, ⟨i, hi⟩, rfl, q⟩ := q
    refine ⟨.c i hi, wa_one (q.mono fun y μ2 q => ?_) hs⟩
    obtain ⟨fs, ds', i', rfl, hi', hz, q⟩ := q
    intro F H v vs m o1 o2 QV c
    cases o2 with
    | cons o2 o3 =>
      cases o3
      obtain ⟨_, us, e1, hd⟩ := m.cel _ _ (List.mem_of_getElem? hi')
      obtain ⟨b, ws, rfl, e2, hd2⟩ := dp_tup o2
      obtain ⟨m2, w2⟩ := m.setCQ (es := ds' ++ fs) hi' (dqs_app hd (.of hd2))
      exact ⟨p, b, us, ws, o1, rfl, e1, same_t m.ex e2, by rw [dqs_len hd, dps_len hd2]; exact Nat.le_trans hz (by decide), c (.d .none) _ _ _ _ w2 m2 .non q⟩) hbase hfew hline hs hplain
/-- xs[i] = e -/
theorem wg_setL {is : List Nat} {o i : Expr} {x : PyData} {G : Dl → Cells → Prop} (h : WE X o δ μ fun y μ1 => WE X i δ μ1 fun z μ2 => ∃ (p : Addr) (ds : List PyData) (k j : Nat), y = .a p ∧ z = .d (.int (k : Int)) ∧ μ2[j]? = some (p, (ds : Cont)) ∧ k < ds.length ∧ G δ (μ2.set j (p, ds.set k x)))
    (ha : ∀ v, assign (.Subscript o i pos) X.env v = (do
      let ov ← holding [v] (eval o X.env)
      let iv ← holding [v, ov] (eval i X.env)
      standAt pos
      holding [v, ov, iv] (setItem ov iv v)
      release [v, ov, iv] []) := by intro _; rfl) : WGo X is (.Subscript o i pos) (.d x) δ μ G := fun F H σ R v ov QV c =>
  toG (pg_sub (pcE X o) (pcE X i) set_list ha) (h F H σ R _ fun v1 y F1 H1 μ1 w1 R1 o1 q => q F1 H1 σ R1 _ fun v2 z F2 H2 μ2 w2 R2 o2 q => by
    obtain ⟨p, ds, k, j, rfl, rfl, hj, hk, q⟩ := q
    obtain ⟨_, us, e1, hd⟩ := R2.m.cel _ _ (List.mem_of_getElem? hj)
    have hv : De X.K F2 v x := dp_up (w1.f.trans w2.f) _ _ ov
    obtain ⟨m2, w3⟩ := R2.m.setCQ (es := ds.set k x) hj (dqs_set (.d hv) k hd)
    refine ⟨p, us, (k : Int), k, (o1 : v1 = .ref p), dp_int o2, e1, ?_, ?_⟩
    · unfold ixN
      rw [if_pos (by omega), if_pos (by rw [dqs_len hd]; omega)]
      simp
    · exact c F2 _ σ δ _ ((w1.trans w2).trans w3) (R2.to w3.f m2) Only.refl q)
end
end Ec

set_option Elab.async false
set_option linter.all false
set_option maxRecDepth 100000
set_option maxHeartbeats 4000000
namespace Ec
open PySem PySem.Spec PyProof.Rows L2
/-! ### a cell lent to a call -/
mutual
def noL : PyData → Bool
  | .none => true
  | .bool _ => true
  | .int _ => true
  | .str _ => true
  | .list _ => false
  | .tuple ds => noLs ds
  | .dict _ => false
def noLs : List PyData → Bool
  | [] => true
  | d :: ds => noL d && noLs ds
end
def cut (F : Hp) (p : Addr) : Hp := fun b => if b = p then none else F b
theorem cut_ne {F : Hp} {p b : Addr} (h : b ≠ p) : cut F p b = F b := if_neg h
theorem cut_same {F : Hp} {p : Addr} : cut F p p = none := if_pos rfl
theorem same_cut {F : Hp} {p : Addr} : Same (cut F p) F := fun b o e => by
  by_cases h : b = p
  · subst h
    rw [cut_same] at e
    cases e
  · rw [cut_ne h] at e
    exact e
theorem sqt_cut {K : PySem.W.Frag} {F : Hp} {p a : Addr} {vs us : List V} (hp : F p = some (.lst us)) (h : SqT K F a vs) : SqT K (cut F p) a vs := by
  rcases h with (h | ⟨o, h⟩) | h
  · have ne : a ≠ p := fun z => by
      subst z
      rw [hp] at h
      cases h
    exact .inl (.inl (by rw [cut_ne ne]; exact h))
  · have ne : a ≠ p := fun z => by
      subst z
      rw [hp] at h
      cases h
    exact .inl (.inr ⟨o, by rw [cut_ne ne]; exact h⟩)
  · exact .inr h
mutual
theorem dp_cut {K : PySem.W.Frag} {F : Hp} {p : Addr} {us : List V} (hp : F p = some (.lst us)) : ∀ (d : PyData) (v : V), noL d = true → De K F v d → De K (cut F p) v d
  | .none, _, _, h => by cases h; exact .non
  | .bool b, _, _, h => by cases h; exact .bl b
  | .int i, _, _, h => by cases h; exact .int i
  | .str x, _, _, h => by cases h; exact .str x
  | .list ds, _, n, _ => by simp [noL] at n
  | .tuple ds, _, n, h => by
    cases h with
    | tup hs hn ha => exact .tup (by rw [cut_ne fun z => by rw [z, hp] at hs; cases hs]; exact hs) hn (dps_cut hp ds _ (by simpa [noL] using n) ha)
  | .dict _, _, n, _ => by simp [noL] at n
theorem dps_cut {K : PySem.W.Frag} {F : Hp} {p : Addr} {us : List V} (hp : F p = some (.lst us)) : ∀ (ds : List PyData) (vs : List V), noLs ds = true → DeAll K F vs ds → DeAll K (cut F p) vs ds
  | [], _, _, h => by cases h; exact .nil
  | d :: ds, _, n, h => by
    cases h with
    | cons h1 h2 =>
      have n' : noL d = true ∧ noLs ds = true := by simpa [noLs] using n
      exact .cons (dp_cut hp d _ n'.1 h1) (dps_cut hp ds _ n'.2 h2)
end
theorem noLs_ints : ∀ ns : List Int, noLs (intsD ns) = true
  | [] => rfl
  | n :: ns => by
    show (noL (.int n) && noLs (intsD ns)) = true
    rw [noLs_ints ns]
    rfl
theorem noLs_pl : ∀ {ds : List PyData}, noLs ds = true → plS ds
  | [], _ => plS_nil
  | d :: ds, h => by
    have h' : noL d = true ∧ noLs ds = true := by simpa [noLs] using h
    refine plS_cons ?_ (noLs_pl h'.2)
    cases d <;> first | rfl | (simp [noL] at h')
def noLv : Vd → Bool
  | .d x => noL x
  | .a _ => true
  | .w _ => false
  | .s _ => false
  | .k _ _ => false
  | .e _ _ _ _ => false
  | .z _ _ => false
def noLc : Cont → Bool
  | .l ds => noLs ds
  | _ => false
/-- one value of a list, a cell, read as data -/
inductive Lent (p : Addr) (ds : List PyData) : List Vd → List Vd → Prop
  | nil : Lent p ds [] []
  | keep {x : Vd} {xs ys : List Vd} : Lent p ds xs ys → Lent p ds (x :: xs) (x :: ys)
  | lend {xs ys : List Vd} : Lent p ds xs ys → Lent p ds (.a p :: xs) (.d (.list ds) :: ys)
theorem Lent.ok {K : PySem.W.Frag} {F F' : Hp} {p : Addr} {ds : List PyData} (f : Same F F') (hp : De K F' (.ref p) (.list ds)) : ∀ {xs ys : List Vd} {vs : List V}, Lent p ds xs ys → VAll K F xs vs → VAll K F' ys vs
  | _, _, _, .nil, h => by
    cases h
    exact .nil
  | _, _, _, .keep l, h => by
    cases h with
    | cons h1 h2 => exact .cons (h1.up f) (Lent.ok f hp l h2)
  | _, _, _, .lend l, h => by
    cases h with
    | cons h1 h2 =>
      rw [show _ = V.ref p from h1]
      exact .cons hp (Lent.ok f hp l h2)
section
variable {X : Cx} {δ : Dl} {μ : Cells} {e a b : Expr} {pos p : Pos} {Q : Vd → Cells → Prop}
theorem we_callZ {P : Program} {w : World} {K : PySem.W.Frag} {mg : Str → Option Value} {base : Heap} {T : TrD} {k : Nat} {x : Str} {es : List Expr} (i : Nat) (c : Cal P w K mg base k x T) (hr : Room k X.A) (hg : Gl X x)
    (h : WA X (e :: es) δ μ fun xs μ1 => ∃ (q : Addr) (ds : List PyData) (ys : List Vd), μ1[i]? = some (q, (ds : Cont)) ∧ plS ds ∧ Lent q ds xs ys ∧ T ys [] fun z μ' => noLv z = true ∧ (∀ y ∈ μ', noLc y.2 = true) ∧ Q z (μ' ++ μ1))
    (hgd : X.A.guards = some [] := by assumption) (hX : (X.prog, X.w, X.K, X.mg, X.base) = (P, w, K, mg, base) := by rfl)
    (hdb : (x == ("__debug__" : Str)) = false := by decide) (he : starEach (e :: es) X.env = (false, eval e X.env) :: starEach es X.env := by rfl) (hpl : (backTo pos (starEach es X.env)).any (·.1) = false := by rfl) :
    WE X (.Call (.Name x p) (e :: es) [] pos) δ μ Q := fun F H σ R QV kk => by
  obtain ⟨f, fd, ps, ok, hm, hk, hb⟩ := c
  cases hX
  refine toE (pe_callg ok hr hgd hg hm hk hb pass0 (pcA X (e :: es)) hdb he hpl) (h F H σ R _ fun vs xs F1 H1 μ1 w1 R1 o1 q => ?_)
  obtain ⟨q, ds, ys, hi, pl, hl, q0⟩ := q
  have pm : μ1.Perm ((q, (ds : Cont)) :: μ1.eraseIdx i) := by
    obtain ⟨hlt, e⟩ := List.getElem?_eq_some_iff.mp hi
    rw [← e]
    exact perm_erase hlt
  replace w1 := w1.perm (K := X.K) pm
  replace R1 := R1.perm pm
  generalize hμr : μ1.eraseIdx i = μr at pm w1 R1
  obtain ⟨us, hq, hd, m, sf, fq, out⟩ := R1.m.freeze pl
  have m0 : RpM X.K (upd F1 q (.lst us)) H1 [] := ⟨m.ex, List.nodup_nil, fun _ _ z => by cases z⟩
  refine ⟨_, ys, [], _, m0, Lent.ok sf (.lst upd_same hd) hl o1, q0, fun v z F2 H2 μ2 w2 m2 o2 q2 => ?_⟩
  obtain ⟨q2, q3, q4⟩ := q2
  have f2q : F2 q = some (.lst us) := w2.f q _ upd_same
  have nq : ∀ b, F1 b ≠ none → b ≠ q := fun b hb z => hb (z ▸ fq)
  have f12 : Same F1 (cut F2 q) := fun b o hb => by
    rw [cut_ne (nq b (by rw [hb]; exact fun z => by cases z))]
    exact w2.f b o (sf b o hb)
  have inr : ∀ b ∈ ks μr, F1 b = none ∧ H1 b ≠ none ∧ b ≠ q := fun b hb => by
    obtain ⟨⟨b', fs⟩, hm', e'⟩ := List.mem_map.mp hb
    have e2 : b' = b := e'
    subst e2
    obtain ⟨g1, g2⟩ := R1.m.cel b' fs (List.mem_cons_of_mem _ hm')
    exact ⟨g1, g2.ne, fun z => out (z ▸ hb)⟩
  have fresh : ∀ b ∈ ks μ2, H1 b = none := fun b hb => (w2.s b hb).elim (fun z => by cases z) id
  have W : Fw (ks ((q, (ds : Cont)) :: μr)) (ks (μ2 ++ (q, (ds : Cont)) :: μr)) F1 H1 (cut F2 q) H2 := by
    refine ⟨f12, fun b o hb _ => w2.k b o hb (by simp), fun b hb hb2 nb => ?_, fun b hb => ?_⟩
    · have nbq : b ≠ q := fun z => nb (z ▸ List.mem_cons_self)
      rw [cut_ne nbq]
      exact w2.c b (by rw [upd_ne nbq]; exact hb) hb2 (by simp)
    · rw [ks_app] at hb
      rcases List.mem_append.mp hb with hb | hb
      · exact .inr (fresh b hb)
      · exact .inl hb
  have M : RpM X.K (cut F2 q) H2 (μ2 ++ (q, (ds : Cont)) :: μr) := by
    refine ⟨same_cut.trans m2.ex, ?_, fun b fs hb => ?_⟩
    · rw [ks_app]
      refine List.nodup_append.mpr ⟨m2.nd, R1.m.nd, fun x mx y my e' => ?_⟩
      subst e'
      have h0 := fresh x mx
      obtain ⟨⟨b', fs⟩, hm', e'⟩ := List.mem_map.mp my
      have e2 : b' = x := e'
      subst e2
      exact (R1.m.cel b' fs hm').2.ne h0
    · rcases List.mem_append.mp hb with hb | hb
      · have hn := q3 _ hb
        cases fs with
        | l fs =>
          obtain ⟨g1, ws, g2, g3⟩ := m2.cel b _ hb
          have nbq : b ≠ q := fun z => by
            rw [z, f2q] at g1
            cases g1
          exact ⟨by rw [cut_ne nbq]; exact g1, ws, g2, .of (dps_cut f2q _ _ hn (g3.to (noLs_pl hn)))⟩
        | i _ => cases hn
        | t _ => cases hn
      · rcases List.mem_cons.mp hb with hb | hb
        · cases hb
          obtain ⟨_, ws, g2, g3⟩ := R1.m.cel q (.l ds) List.mem_cons_self
          exact ⟨cut_same, ws, w2.k q _ g2 (by simp), dqs_up f12 _ _ g3⟩
        · obtain ⟨g1, g2⟩ := R1.m.cel b fs (List.mem_cons_of_mem _ hb)
          obtain ⟨i1, i2, i3⟩ := inr b (List.mem_map.mpr ⟨_, hb, rfl⟩)
          refine ⟨?_, g2.to f12 fun o e => w2.k b o e (by simp)⟩
          rw [cut_ne i3]
          exact w2.c b (by rw [upd_ne i3]; exact g1) i2 (by simp)
  have pm2 : (μ2 ++ (q, (ds : Cont)) :: μr).Perm (μ2 ++ μ1) := List.Perm.append_left μ2 pm.symm
  refine kk v z (cut F2 q) H2 (μ2 ++ μ1) ((w1.trans W).perm (K := X.K) pm2) (R1.to f12 (M.perm pm2)) ?_ q4
  cases z with
  | d x => exact dp_cut f2q x v q2 o2
  | a r => exact o2
  | w es => cases q2
  | s es => cases q2
  | k _ _ => cases q2
  | e _ _ _ _ => cases q2
  | z _ _ => cases q2
theorem we_callP {P : Program} {w : World} {K : PySem.W.Frag} {mg : Str → Option Value} {base : Heap} {T : TrD} {k : Nat} {x : Str} {es : List Expr} (c : Cal P w K mg base k x T) (hr : Room k X.A) (hg : Gl X x) (h : WA X (e :: es) δ μ fun xs μ1 => T xs [] fun z μ' => Q z (μ' ++ μ1))
    (hgd : X.A.guards = some [] := by assumption) (hX : (X.prog, X.w, X.K, X.mg, X.base) = (P, w, K, mg, base) := by rfl)
    (hdb : (x == ("__debug__" : Str)) = false := by decide) (he : starEach (e :: es) X.env = (false, eval e X.env) :: starEach es X.env := by rfl) (hpl : (backTo pos (starEach es X.env)).any (·.1) = false := by rfl) :
    WE X (.Call (.Name x p) (e :: es) [] pos) δ μ Q := by
  cases hX
  refine we_call c hr hg (fun F H σ R QV kk => h F H σ R QV fun vs xs F1 H1 μ1 w1 R1 o1 q => kk vs xs F1 H1 μ1 w1 R1 o1 ⟨[], μ1, rfl, q⟩) hgd hdb he hpl
theorem perm_set {α : Type} : ∀ {l : List α} {i : Nat} (h : i < l.length) (y : α), (l.set i y).Perm (y :: l.eraseIdx i)
  | x :: r, 0, _, y => List.Perm.refl _
  | x :: r, i + 1, h, y => ((perm_set (l := r) (i := i) (Nat.lt_of_succ_lt_succ h) y).cons x).trans (List.Perm.swap _ _ _)
/-- a call that is handed the i-th cell -/
theorem we_callB {P : Program} {w : World} {K : PySem.W.Frag} {mg : Str → Option Value} {base : Heap} {T : TrD} {k : Nat} {x : Str} {es : List Expr} (i : Nat) (c : Cal P w K mg base k x T) (hr : Room k X.A) (hg : Gl X x)
    (h : WA X (e :: es) δ μ fun xs μ1 => ∃ (q : Addr) (ds : Cont), μ1[i]? = some (q, ds) ∧ T xs [(q, ds)] fun z μ' => ∃ (new : Cells) (ds' : Cont), μ' = new ++ ([(q, ds')] : Cells) ∧ Q z (new ++ μ1.set i (q, ds'))) (hgd : X.A.guards = some [] := by assumption) (hX : (X.prog, X.w, X.K, X.mg, X.base) = (P, w, K, mg, base) := by rfl)
    (hdb : (x == ("__debug__" : Str)) = false := by decide) (he : starEach (e :: es) X.env = (false, eval e X.env) :: starEach es X.env := by rfl) (hpl : (backTo pos (starEach es X.env)).any (·.1) = false := by rfl) :
    WE X (.Call (.Name x p) (e :: es) [] pos) δ μ Q := fun F H σ R QV kk => by
  obtain ⟨f, fd, ps, ok, hm, hk, hb⟩ := c
  cases hX
  refine toE (pe_callg ok hr hgd hg hm hk hb pass0 (pcA X (e :: es)) hdb he hpl) (h F H σ R _ fun vs xs F1 H1 μ1 w1 R1 o1 q => ?_)
  obtain ⟨q, ds, hi, q0⟩ := q
  have hlt := (List.getElem?_eq_some_iff.mp hi).1
  have pm : μ1.Perm ([(q, ds)] ++ μ1.eraseIdx i) := by
    obtain ⟨hlt, e⟩ := List.getElem?_eq_some_iff.mp hi
    rw [← e]
    exact perm_erase hlt
  have w1p := w1.perm (K := X.K) pm
  have R1p := R1.perm pm
  refine ⟨F1, xs, [(q, ds)], _, R1p.m.left, o1, q0, fun v z F2 H2 μ2 w2 m2 o2 q2 => ?_⟩
  obtain ⟨new, ds', rfl, q3⟩ := q2
  obtain ⟨m3, w3⟩ := R1p.m.frame w2 m2
  have pm2 : (new ++ [(q, ds')] ++ μ1.eraseIdx i).Perm (new ++ μ1.set i (q, ds')) := by
    rw [List.append_assoc]
    exact List.Perm.append_left new (perm_set hlt (q, ds')).symm
  exact kk v z F2 H2 _ ((w1p.trans w3).perm (K := X.K) pm2) (R1p.to w2.f (m3.perm pm2) |>.to (Same.refl _) (m3.perm pm2)) o2 q3
end

/-! ### the walk's steps -/
local macro_rules | `(tactic| walk_at "vis") => `(tactic| first | exact Or.inl rfl | exact Or.inr (Or.inl rfl) | exact Or.inr (Or.inr rfl))
end Ec

set_option Elab.async false
set_option linter.all false
set_option maxRecDepth 100000
set_option maxHeartbeats 4000000
namespace Ec
open PySem PySem.Spec PyProof.Rows L2
section
variable {X : Cx} {δ : Dl} {μ : Cells} {e a b : Expr} {pos p : Pos} {Q : Vd → Cells → Prop}
theorem wb_names {N : List Str} {st : List Stmt} {D : Dn} (hN : X.N = N) (k : (∀ (i : Nat) x, N[i]? = some x → X.N[i]? = some x) → WB X st δ μ D) : WB X st δ μ D := k (by rw [hN]; exact fun _ _ h => h)
/-- a comprehension that only looks -/
theorem lcP {α : Type} (ι : α → PyData) (t : α → Bool) (g : α → PyData) {elt tg iter : Expr} {ifs : List Expr} {scope : Scope} {own : List (Str × Nat)}
    (h : WI X tg iter δ μ fun ds μ1 => ∃ xs : List α, ds = xs.map ι ∧ xs.length ≤ 100000 ∧ (∀ x ∈ xs, Blk X scope fun Y => WGo Y (own.map (·.2)) tg (.d (ι x)) (wipeD δ (own.map (·.2))) μ1 fun δ2 μ2 => Blk X scope fun Y => WTs Y ifs δ2 μ2 fun k μ3 => k = t x ∧
        if k = true then Blk X scope fun Y => WE Y elt δ2 μ3 fun y μ4 => y = .d (g x) ∧ μ4 = μ1 else μ3 = μ1) ∧ ∀ q, Q (.a q) ((q, (xs.filter t).map g) :: μ1)) : LcP X scope own elt tg iter ifs δ μ Q := by
  intro F H σ R RV c
  refine h F H σ R RV fun J ds F' H' μ' w r wk q => c J ds F' H' μ' w r wk ?_
  obtain ⟨xs, rfl, hz, hx, hq⟩ := q
  refine ⟨fun i acc μ2 => μ2 = μ' ∧ acc = ((xs.take i).filter t).map g, ⟨rfl, by simp⟩, by rw [List.length_map]; exact hz, fun i acc μ2 q => ?_, fun i d acc μ2 hd q => ?_, fun acc μ2 q p => ?_⟩
  · rw [q.2, List.length_map]
    refine Nat.le_trans (List.length_filter_le _ _) ?_
    rw [List.length_take]
    exact Nat.min_le_left _ _
  · obtain ⟨rfl, rfl⟩ := q
    rw [List.getElem?_map] at hd
    cases q : xs[i]? with
    | none =>
      rw [q] at hd
      cases hd
    | some x =>
      rw [q] at hd
      cases hd
      have tk : xs.take (i + 1) = xs.take i ++ [x] := by rw [List.take_add_one, q]; rfl
      intro s H C cl fp F0 H0 σ0 R0 v o QV c
      refine hx x (List.mem_of_getElem? q) s H C cl fp F0 H0 σ0 R0 v o QV fun F1 H1 σ1 δ1 μ1 w1 R1 y1 q1 => c F1 H1 σ1 δ1 μ1 w1 R1 y1 ?_
      have fin : ∀ k μ3, (k = t x ∧ if k = true then Blk X scope fun Y => WE Y elt δ1 μ3 fun y μ4 => y = .d (g x) ∧ μ4 = μ2 else μ3 = μ2) →
          (if k = true then Blk X scope fun Y => WE Y elt δ1 μ3 fun y μ4 => ∃ yd, y = .d yd ∧ μ4 = μ2 ∧ ((xs.take i).filter t).map g ++ [yd] = ((xs.take (i + 1)).filter t).map g else μ3 = μ2 ∧ ((xs.take i).filter t).map g = ((xs.take (i + 1)).filter t).map g) := by
        intro k μ3 ⟨ek, q⟩
        rw [tk, List.filter_append, List.map_append]
        cases k with
        | true =>
          rw [if_pos rfl] at q ⊢
          intro s H C cl fp
          refine (q s H C cl fp).mono fun y μ4 q => ⟨_, q.1, q.2, ?_⟩
          simp [← ek]
        | false =>
          rw [if_neg (by decide)] at q ⊢
          refine ⟨q, ?_⟩
          simp [← ek]
      intro s H C cl fp
      have h1 := q1 s H C cl fp
      match ifs, h1 with
      | [], h1 => exact fin _ _ h1
      | [cnd], h1 => exact (show WT _ cnd δ1 μ1 _ from h1).mono fun k μ3 q => fin k μ3 q
      | _ :: _ :: _, h1 => exact h1
  · obtain ⟨rfl, rfl⟩ := q
    rw [List.length_map, List.take_length]
    exact hq p
/-- over pairs that are taken apart -/
theorem lcW {α : Type} (ι : α → PyData) (t : α → Bool) (g : α → PyData) {elt tg iter : Expr} {ifs : List Expr} {scope : Scope} {own : List (Str × Nat)}
    (h : WI X tg iter δ μ fun ds μ1 => ∃ xs : List α, ds = xs.map ι ∧ xs.length ≤ 100000 ∧ (∀ x ∈ xs, Blk X scope fun Y => WGo Y (own.map (·.2)) tg (.w (ι x)) (wipeD δ (own.map (·.2))) μ1 fun δ2 μ2 => Blk X scope fun Y => WTs Y ifs δ2 μ2 fun k μ3 => k = t x ∧
        if k = true then Blk X scope fun Y => WE Y elt δ2 μ3 fun y μ4 => y = .d (g x) ∧ μ4 = μ1 else μ3 = μ1) ∧ ∀ q, Q (.a q) ((q, (xs.filter t).map g) :: μ1)) : LcPg Vd.w X scope own elt tg iter ifs δ μ Q := by
  intro F H σ R RV c
  refine h F H σ R RV fun J ds F' H' μ' w r wk q => c J ds F' H' μ' w r wk ?_
  obtain ⟨xs, rfl, hz, hx, hq⟩ := q
  refine ⟨fun i acc μ2 => μ2 = μ' ∧ acc = ((xs.take i).filter t).map g, ⟨rfl, by simp⟩, by rw [List.length_map]; exact hz, fun i acc μ2 q => ?_, fun i d acc μ2 hd q => ?_, fun acc μ2 q p => ?_⟩
  · rw [q.2, List.length_map]
    refine Nat.le_trans (List.length_filter_le _ _) ?_
    rw [List.length_take]
    exact Nat.min_le_left _ _
  · obtain ⟨rfl, rfl⟩ := q
    rw [List.getElem?_map] at hd
    cases q : xs[i]? with
    | none =>
      rw [q] at hd
      cases hd
    | some x =>
      rw [q] at hd
      cases hd
      have tk : xs.take (i + 1) = xs.take i ++ [x] := by rw [List.take_add_one, q]; rfl
      intro s H C cl fp F0 H0 σ0 R0 v o QV c
      refine hx x (List.mem_of_getElem? q) s H C cl fp F0 H0 σ0 R0 v o QV fun F1 H1 σ1 δ1 μ1 w1 R1 y1 q1 => c F1 H1 σ1 δ1 μ1 w1 R1 y1 ?_
      have fin : ∀ k μ3, (k = t x ∧ if k = true then Blk X scope fun Y => WE Y elt δ1 μ3 fun y μ4 => y = .d (g x) ∧ μ4 = μ2 else μ3 = μ2) →
          (if k = true then Blk X scope fun Y => WE Y elt δ1 μ3 fun y μ4 => ∃ yd, y = .d yd ∧ μ4 = μ2 ∧ ((xs.take i).filter t).map g ++ [yd] = ((xs.take (i + 1)).filter t).map g else μ3 = μ2 ∧ ((xs.take i).filter t).map g = ((xs.take (i + 1)).filter t).map g) := by
        intro k μ3 ⟨ek, q⟩
        rw [tk, List.filter_append, List.map_append]
        cases k with
        | true =>
          rw [if_pos rfl] at q ⊢
          intro s H C cl fp
          refine (q s H C cl fp).mono fun y μ4 q => ⟨_, q.1, q.2, ?_⟩
          simp [← ek]
        | false =>
          rw [if_neg (by decide)] at q ⊢
          refine ⟨q, ?_⟩
          simp [← ek]
      intro s H C cl fp
      have h1 := q1 s H C cl fp
      match ifs, h1 with
      | [], h1 => exact fin _ _ h1
      | [cnd], h1 => exact (show WT _ cnd δ1 μ1 _ from h1).mono fun k μ3 q => fin k μ3 q
      | _ :: _ :: _, h1 => exact h1
  · obtain ⟨rfl, rfl⟩ := q
    rw [List.length_map, List.take_length]
    exact hq p
end
theorem nomark' {op : CmpOp} (b : Expr) (h : behindInMarks op b = false) : behindInMarks op b = false := h

/-! ### companies -/
abbrev Co := List (List Int × Int)
def SqD (d : PyData) (ds : List PyData) : Prop := d = .list ds ∨ d = .tuple ds
def EnD (d : PyData) (e : List Int × Int) : Prop := ∃ df, SqD d [df, .int e.2] ∧ SqD df (intsD e.1)
def AllD {α : Type} (r : PyData → α → Prop) : List PyData → List α → Prop
  | [], [] => True
  | d :: ds, x :: xs => r d x ∧ AllD r ds xs
  | _, _ => False
theorem allD_len {α : Type} {r : PyData → α → Prop} : ∀ {ds : List PyData} {xs : List α}, AllD r ds xs → ds.length = xs.length
  | [], [], _ => rfl
  | d :: ds, x :: xs, h => by simp [allD_len h.2]
  | [], _ :: _, h => h.elim
  | _ :: _, [], h => h.elim
theorem allD_get {α : Type} {r : PyData → α → Prop} : ∀ {ds : List PyData} {xs : List α} {i : Nat} {x : α}, AllD r ds xs → xs[i]? = some x → ∃ d, ds[i]? = some d ∧ r d x
  | [], [], _, _, _, e => by simp at e
  | d :: ds, x :: xs, 0, y, h, e => by
    simp at e
    subst e
    exact ⟨d, rfl, h.1⟩
  | d :: ds, x :: xs, i + 1, y, h, e => by
    obtain ⟨d', e1, e2⟩ := allD_get (i := i) h.2 (by simpa using e)
    exact ⟨d', by simpa using e1, e2⟩
  | [], _ :: _, _, _, h, _ => h.elim
  | _ :: _, [], _, _, h, _ => h.elim
structure CoD (d : PyData) (c : Co) : Prop where
  sq : ∃ ds, SqD d ds ∧ AllD EnD ds c
  len : c.length ≤ 1000
  frs : ∀ e ∈ c, e.1.length ≤ 1000
def fr (c : Co) (p : Int) : List Int := (c.getD p.toNat ([], 0)).1
def nd (c : Co) (p : Int) : Int := (c.getD p.toNat ([], 0)).2
def cnt (c : Co) (t : List Int) (p : Int) : Int := (((fr c p).filter fun x => decide (x ∈ t)).length : Nat)
def comes (c : Co) (t : List Int) (p : Int) : Bool := decide (nd c p ≤ cnt c t p)
def rng (n : Nat) : List Int := (List.range n).map fun (i : Nat) => (i : Int)
def nexts (c : Co) (t : List Int) : List Int := ((rng c.length).filter fun p => !decide (p ∈ t)).filter (comes c t)
theorem rng_len (n : Nat) : (rng n).length = n := by simp [rng]
theorem mem_rng {n : Nat} {p : Int} : p ∈ rng n ↔ 0 ≤ p ∧ p < n := by
  unfold rng
  rw [List.mem_map]
  constructor
  · rintro ⟨i, h, rfl⟩
    rw [List.mem_range] at h
    omega
  · rintro ⟨h1, h2⟩
    exact ⟨p.toNat, by rw [List.mem_range]; omega, by omega⟩
theorem rangeD_eq (n : Nat) : rangeD 0 n = intsD (rng n) := by
  unfold rangeD intsD rng
  rw [List.map_map]
  refine List.map_congr_left fun i _ => ?_
  simp
theorem mem_nexts {c : Co} {t : List Int} {p : Int} : p ∈ nexts c t ↔ (0 ≤ p ∧ p < c.length) ∧ p ∉ t ∧ comes c t p = true := by
  unfold nexts
  rw [List.mem_filter, List.mem_filter, mem_rng]
  simp [and_assoc]
inductive SqV : Vd → List PyData → Prop
  | mk {d : PyData} {ds : List PyData} (h : SqD d ds) : SqV (.d d) ds
theorem ct_sq {μ : Cells} {d : PyData} {ds : List PyData} (h : SqD d ds) : Ct μ (.d d) ds := by
  rcases h with rfl | rfl
  · exact .l ds
  · exact .t ds
theorem seqd_sq {d : PyData} {ds : List PyData} (h : SqD d ds) : Seqd (.d d) ds := by
  rcases h with rfl | rfl
  · exact .l ds
  · exact .t ds
/-- the entry of a person -/
theorem co_at {d : PyData} {c : Co} {p : Int} (h : CoD d c) (h0 : 0 ≤ p) (h1 : p < c.length) : ∃ ds de, SqD d ds ∧ atI ds p = some de ∧ EnD de (fr c p, nd c p) := by
  obtain ⟨ds, sq, al⟩ := h.sq
  have hl : p.toNat < c.length := by omega
  obtain ⟨de, e1, e2⟩ := allD_get al (List.getElem?_eq_getElem hl)
  refine ⟨ds, de, sq, ?_, ?_⟩
  · have := atI_nat e1
    rw [show ((p.toNat : Nat) : Int) = p by omega] at this
    exact this
  · unfold fr nd
    rw [List.getD_eq_getElem?_getD, List.getElem?_eq_getElem hl]
    exact e2

theorem fr_len {d : PyData} {c : Co} {p : Int} (h : CoD d c) : (fr c p).length ≤ 1000 := by
  unfold fr
  rw [List.getD_eq_getElem?_getD]
  cases q : c[p.toNat]? with
  | none => exact Nat.zero_le _
  | some e => exact h.frs e (List.mem_of_getElem? q)
end Ec

set_option Elab.async false
set_option linter.all false
set_option maxRecDepth 100000
set_option maxHeartbeats 4000000
namespace Ec
open PySem PySem.Spec PyProof.Rows L2
theorem itT {b : Bool} {p q : Prop} (h : b = true) (g : p) : if b = true then p else q := by rw [if_pos h]; exact g
theorem itF {b : Bool} {p q : Prop} (h : b = false) (g : q) : if b = true then p else q := by rw [if_neg (by rw [h]; decide)]; exact g
/-! ### isinstance -/
def tyP : PyData → String
  | .none => "NoneType"
  | .bool _ => "bool"
  | .int _ => "int"
  | .str _ => "str"
  | .list _ => "list"
  | .tuple _ => "tuple"
  | .dict _ => "dict"
def tyD : Vd → String
  | .d x => tyP x
  | .a _ => "list"
  | .w _ => "tuple"
  | .s _ => "list"
  | .k _ _ => "dict"
  | .e _ _ _ _ => "dict"
  | .z _ _ => "dict"
def tys : List String := ["NoneType", "bool", "int", "str", "list", "tuple"]
inductive Kn (μ : Cells) : Vd → Prop
  | d (x : PyData) : Kn μ (.d x)
  | c (i : Nat) {p : Addr} {ds : List PyData} (h : μ[i]? = some (p, (ds : Cont))) : Kn μ (.a p)
theorem Kn.x {μ : Cells} (ds : List PyData) : Kn μ (.x ds) := .d _
theorem ty_seqL {K : PySem.W.Frag} {H : Hp} {a : Addr} {xs : List V} (h : SqL K H a xs) : TyX K H (.ref a) (.type "list") := by
  rcases h with (h | ⟨o, h⟩) | ⟨o, its, n, h, hc, _⟩
  · exact .base (.lst h)
  · exact .base (.frz h)
  · exact .kList h hc
theorem ty_seqT {K : PySem.W.Frag} {H : Hp} {a : Addr} {xs : List V} (h : SqT K H a xs) : TyX K H (.ref a) (.type "tuple") := by
  rcases h with (h | ⟨o, h⟩) | ⟨o, its, n, h, hc, _⟩
  · exact .base (.tup h)
  · exact .fTuple h
  · exact .kTuple h hc
theorem ty_dp {K : PySem.W.Frag} {H : Hp} {v : V} {d : PyData} (h : De K H v d) : TyX K H v (.type (tyP d)) ∧ tyP d ∈ tys := by
  cases h with
  | non => exact ⟨.base .non, by decide⟩
  | bl b => exact ⟨.base (.bl b), (by decide : "bool" ∈ tys)⟩
  | int i => exact ⟨.base (.int i), (by decide : "int" ∈ tys)⟩
  | str x => exact ⟨.base (.str x), (by decide : "str" ∈ tys)⟩
  | lst h1 h2 => exact ⟨ty_seqL (.of h1), (by decide : "list" ∈ tys)⟩
  | tup h1 h2 h3 => exact ⟨.fTuple h1, (by decide : "tuple" ∈ tys)⟩
theorem ty_ok {K : PySem.W.Frag} {F H : Hp} {μ : Cells} {x : Vd} {v : V} (m : RpM K F H μ) (o : VOk K F x v) (k : Kn μ x) : TyX K H v (.type (tyD x)) ∧ tyD x ∈ tys := by
  cases k with
  | d x => exact ty_dp (dp_up m.ex _ _ o)
  | c i h =>
    obtain ⟨_, us, e1, _⟩ := m.cel _ _ (List.mem_of_getElem? h)
    rw [show v = V.ref _ from o]
    exact ⟨.base (.lst e1), (by decide : "list" ∈ tys)⟩
/-- isinstance(x, T) by the types' names -/
def isT (a T : String) : Bool := (kitB a T).getD false
theorem isT_ok {a T : String} (h : tys.all (fun a => (kitB a T).isSome) = true) (ha : a ∈ tys) : kitB a T = some (isT a T) := by
  have := (List.all_eq_true.mp h) a ha
  unfold isT
  cases q : kitB a T with
  | none =>
    rw [q] at this
    cases this
  | some b => rfl
section
variable {X : Cx} {δ : Dl} {μ : Cells} {e a b : Expr} {pos p p2 : Pos} {Q : Vd → Cells → Prop} {es : List Expr} {mg : Str → Option Value}
theorem we_isi {x2 : Str} {T : String} (B : Bl mg) (hg : Gl X "isinstance") (hg2 : Gl X x2) (h : WE X e δ μ fun x μ1 => Kn μ1 x ∧ Q (.d (.bool (isT (tyD x) T))) μ1) (hv2 : bootBuiltins x2 = some (.type T)) (hm2 : mg x2 = none) (hT : tys.all (fun a => (kitB a T).isSome) = true) (hn2 : x2 ≠ "__name__") (hd2 : (x2 == ("__debug__" : Str)) = false) (hm : X.mg = mg := by rfl)
    (s1 : starEach [e, .Name x2 p2] X.env = (false, eval e X.env) :: starEach [.Name x2 p2] X.env := by rfl) (s2 : starEach [.Name x2 p2] X.env = (false, eval (.Name x2 p2) X.env) :: starEach [] X.env := by rfl) (s3 : (backTo pos (starEach [.Name x2 p2] X.env)).any (·.1) = false := by rfl) :
    WE X (.Call (.Name "isinstance" p) [e, .Name x2 p2] [] pos) δ μ Q := fun F H σ R QV c =>
  toE (pe_callB call_isi hg (hm ▸ B.isi) PyProof.Rows.boot_isinstance (pa_cons (pcE X e) (pa_cons (pe_bltn (v := .ty T) hg2 (hm ▸ hm2) hv2 rfl hn2 hd2) pa_nil s2) s1) (by decide) (by decide) s1 s3)
    (h F H σ R _ fun v x F1 H1 μ1 w1 R1 o1 q => by
      obtain ⟨k, q⟩ := q
      obtain ⟨t1, t2⟩ := ty_ok R1.m o1 k
      exact ⟨v, .ty T, _, _, _, rfl, .ty T, t1, kit_ty (isT_ok hT t2), c _ (.d (.bool _)) F1 H1 μ1 w1 R1 (.bl _) q⟩)
/-- isinstance(x, (T, U)) -/
theorem we_isi2 {x2 x3 : Str} {T U : String} {k : Nat} {tp p3 : Pos} (B : Bl mg) (hg : Gl X "isinstance") (hg2 : Gl X x2) (hg3 : Gl X x3) (h : WE X e δ μ fun x μ1 => Kn μ1 x ∧ Q (.d (.bool (isT (tyD x) T || isT (tyD x) U))) μ1) (hv2 : bootBuiltins x2 = some (.type T)) (hm2 : mg x2 = none) (hT : tys.all (fun a => (kitB a T).isSome) = true) (hn2 : x2 ≠ "__name__") (hd2 : (x2 == ("__debug__" : Str)) = false)
    (hv3 : bootBuiltins x3 = some (.type U)) (hm3 : mg x3 = none) (hU : tys.all (fun a => (kitB a U).isSome) = true) (hn3 : x3 ≠ "__name__") (hd3 : (x3 == ("__debug__" : Str)) = false) (hm : X.mg = mg := by rfl)
    (s1 : starEach [e, .Tuple [.Name x2 p2, .Name x3 p3] k tp] X.env = (false, eval e X.env) :: starEach [.Tuple [.Name x2 p2, .Name x3 p3] k tp] X.env := by rfl) (s2 : starEach [.Tuple [.Name x2 p2, .Name x3 p3] k tp] X.env = (false, eval (.Tuple [.Name x2 p2, .Name x3 p3] k tp) X.env) :: starEach [] X.env := by rfl) (s3 : (backTo pos (starEach [.Tuple [.Name x2 p2, .Name x3 p3] k tp] X.env)).any (·.1) = false := by rfl)
    (s4 : starEach [.Name x2 p2, .Name x3 p3] X.env = (false, eval (.Name x2 p2) X.env) :: starEach [.Name x3 p3] X.env := by rfl) (s5 : starEach [.Name x3 p3] X.env = (false, eval (.Name x3 p3) X.env) :: starEach [] X.env := by rfl) :
    WE X (.Call (.Name "isinstance" p) [e, .Tuple [.Name x2 p2, .Name x3 p3] k tp] [] pos) δ μ Q := fun F H σ R QV c =>
  toE (pe_callB call_isiT hg (hm ▸ B.isi) PyProof.Rows.boot_isinstance (pa_cons (pcE X e) (pa_cons (pe_tup (pa_cons (pe_bltn (v := .ty T) hg2 (hm ▸ hm2) hv2 rfl hn2 hd2) (pa_cons (pe_bltn (v := .ty U) hg3 (hm ▸ hm3) hv3 rfl hn3 hd3) pa_nil s5) s4)) pa_nil s2) s1) (by decide) (by decide) s1 s3)
    (h F H σ R _ fun v x F1 H1 μ1 w1 R1 o1 q => by
      obtain ⟨k, q⟩ := q
      refine ⟨by show 2 ≤ sizeLine; rw [sizeLine_eq]; omega, fun q0 nq => ?_⟩
      obtain ⟨m2, w2⟩ := R1.m.new (o := .tup [.ty T, .ty U]) nq
      have R2 := R1.to w2.f m2
      obtain ⟨t1, t2⟩ := ty_ok R2.m (o1.up w2.f) k
      refine ⟨v, q0, [.ty T, .ty U], _, [.type T, .type U], _, rfl, upd_same, .cons (.ty T) (.cons (.ty U) .nil), t1, ?_, c _ (.d (.bool _)) _ _ μ1 (w1.trans w2) R2 (.bl _) q⟩
      refine kitAny_cons (kit_ty (isT_ok hT t2)) (fun e1 => kitAny_cons (r := isT (tyD x) T || isT (tyD x) U) (kit_ty (isT_ok hU t2)) (fun e2 => ?_) (fun e2 => by rw [e2, Bool.or_true])) (fun e1 => by rw [e1, Bool.true_or])
      rw [e1, e2]
      exact kitAny_nil)
end
/-! each with its answer -/
def isLi : Vd → Bool
  | .d (.list _) => true
  | .s _ => true
  | .a _ => true
  | _ => false
def isTu : Vd → Bool
  | .d (.tuple _) => true
  | .w _ => true
  | _ => false
def isIn : Vd → Bool
  | .d (.int _) => true
  | .d (.bool _) => true
  | _ => false
def isBo : Vd → Bool
  | .d (.bool _) => true
  | _ => false
def isSt : Vd → Bool
  | .d (.str _) => true
  | _ => false
theorem isT_Li (x : Vd) : isT (tyD x) "list" = isLi x := by
  have h1 : isT "NoneType" "list" = false := by decide +kernel
  have h2 : isT "bool" "list" = false := by decide +kernel
  have h3 : isT "int" "list" = false := by decide +kernel
  have h4 : isT "str" "list" = false := by decide +kernel
  have h5 : isT "list" "list" = true := by decide +kernel
  have h6 : isT "tuple" "list" = false := by decide +kernel
  have h7 : isT "dict" "list" = false := by decide +kernel
  cases x with
  | a p => exact h5
  | w ds => exact h6
  | s ns => exact h5
  | k _ _ => exact h7
  | e _ _ _ _ => exact h7
  | z _ _ => exact h7
  | d x => cases x <;> first | exact h1 | exact h2 | exact h3 | exact h4 | exact h5 | exact h6 | exact h7
theorem isT_Tu (x : Vd) : isT (tyD x) "tuple" = isTu x := by
  have h1 : isT "NoneType" "tuple" = false := by decide +kernel
  have h2 : isT "bool" "tuple" = false := by decide +kernel
  have h3 : isT "int" "tuple" = false := by decide +kernel
  have h4 : isT "str" "tuple" = false := by decide +kernel
  have h5 : isT "list" "tuple" = false := by decide +kernel
  have h6 : isT "tuple" "tuple" = true := by decide +kernel
  have h7 : isT "dict" "tuple" = false := by decide +kernel
  cases x with
  | a p => exact h5
  | w ds => exact h6
  | s ns => exact h5
  | k _ _ => exact h7
  | e _ _ _ _ => exact h7
  | z _ _ => exact h7
  | d x => cases x <;> first | exact h1 | exact h2 | exact h3 | exact h4 | exact h5 | exact h6 | exact h7
theorem isT_In (x : Vd) : isT (tyD x) "int" = isIn x := by
  have h1 : isT "NoneType" "int" = false := by decide +kernel
  have h2 : isT "bool" "int" = true := by decide +kernel
  have h3 : isT "int" "int" = true := by decide +kernel
  have h4 : isT "str" "int" = false := by decide +kernel
  have h5 : isT "list" "int" = false := by decide +kernel
  have h6 : isT "tuple" "int" = false := by decide +kernel
  have h7 : isT "dict" "int" = false := by decide +kernel
  cases x with
  | a p => exact h5
  | w ds => exact h6
  | s ns => exact h5
  | k _ _ => exact h7
  | e _ _ _ _ => exact h7
  | z _ _ => exact h7
  | d x => cases x <;> first | exact h1 | exact h2 | exact h3 | exact h4 | exact h5 | exact h6 | exact h7
theorem isT_Bo (x : Vd) : isT (tyD x) "bool" = isBo x := by
  have h1 : isT "NoneType" "bool" = false := by decide +kernel
  have h2 : isT "bool" "bool" = true := by decide +kernel
  have h3 : isT "int" "bool" = false := by decide +kernel
  have h4 : isT "str" "bool" = false := by decide +kernel
  have h5 : isT "list" "bool" = false := by decide +kernel
  have h6 : isT "tuple" "bool" = false := by decide +kernel
  have h7 : isT "dict" "bool" = false := by decide +kernel
  cases x with
  | a p => exact h5
  | w ds => exact h6
  | s ns => exact h5
  | k _ _ => exact h7
  | e _ _ _ _ => exact h7
  | z _ _ => exact h7
  | d x => cases x <;> first | exact h1 | exact h2 | exact h3 | exact h4 | exact h5 | exact h6 | exact h7
theorem isT_St (x : Vd) : isT (tyD x) "str" = isSt x := by
  have h1 : isT "NoneType" "str" = false := by decide +kernel
  have h2 : isT "bool" "str" = false := by decide +kernel
  have h3 : isT "int" "str" = false := by decide +kernel
  have h4 : isT "str" "str" = true := by decide +kernel
  have h5 : isT "list" "str" = false := by decide +kernel
  have h6 : isT "tuple" "str" = false := by decide +kernel
  have h7 : isT "dict" "str" = false := by decide +kernel
  cases x with
  | a p => exact h5
  | w ds => exact h6
  | s ns => exact h5
  | k _ _ => exact h7
  | e _ _ _ _ => exact h7
  | z _ _ => exact h7
  | d x => cases x <;> first | exact h1 | exact h2 | exact h3 | exact h4 | exact h5 | exact h6 | exact h7
section
variable {X : Cx} {δ : Dl} {μ : Cells} {e a b : Expr} {pos p p2 : Pos} {Q : Vd → Cells → Prop} {es : List Expr} {mg : Str → Option Value}
theorem we_isLi (B : Bl mg) (hg : Gl X "isinstance") (hg2 : Gl X "list") (h : WE X e δ μ fun x μ1 => Kn μ1 x ∧ Q (.d (.bool (isLi x))) μ1) (hm : X.mg = mg := by rfl)
    (s1 : starEach [e, .Name "list" p2] X.env = (false, eval e X.env) :: starEach [.Name "list" p2] X.env := by rfl) (s2 : starEach [.Name "list" p2] X.env = (false, eval (.Name "list" p2) X.env) :: starEach [] X.env := by rfl) (s3 : (backTo pos (starEach [.Name "list" p2] X.env)).any (·.1) = false := by rfl) :
    WE X (.Call (.Name "isinstance" p) [e, .Name "list" p2] [] pos) δ μ Q :=
  we_isi B hg hg2 (h.mono fun x μ1 q => by rw [isT_Li]; exact q) PyProof.Rows.boot_list B.list (by decide +kernel) (by decide) (by decide) hm s1 s2 s3
theorem we_isTu (B : Bl mg) (hg : Gl X "isinstance") (hg2 : Gl X "tuple") (h : WE X e δ μ fun x μ1 => Kn μ1 x ∧ Q (.d (.bool (isTu x))) μ1) (hm : X.mg = mg := by rfl)
    (s1 : starEach [e, .Name "tuple" p2] X.env = (false, eval e X.env) :: starEach [.Name "tuple" p2] X.env := by rfl) (s2 : starEach [.Name "tuple" p2] X.env = (false, eval (.Name "tuple" p2) X.env) :: starEach [] X.env := by rfl) (s3 : (backTo pos (starEach [.Name "tuple" p2] X.env)).any (·.1) = false := by rfl) :
    WE X (.Call (.Name "isinstance" p) [e, .Name "tuple" p2] [] pos) δ μ Q :=
  we_isi B hg hg2 (h.mono fun x μ1 q => by rw [isT_Tu]; exact q) PyProof.Rows.boot_tuple B.tuple (by decide +kernel) (by decide) (by decide) hm s1 s2 s3
theorem we_isIn (B : Bl mg) (hg : Gl X "isinstance") (hg2 : Gl X "int") (h : WE X e δ μ fun x μ1 => Kn μ1 x ∧ Q (.d (.bool (isIn x))) μ1) (hm : X.mg = mg := by rfl)
    (s1 : starEach [e, .Name "int" p2] X.env = (false, eval e X.env) :: starEach [.Name "int" p2] X.env := by rfl) (s2 : starEach [.Name "int" p2] X.env = (false, eval (.Name "int" p2) X.env) :: starEach [] X.env := by rfl) (s3 : (backTo pos (starEach [.Name "int" p2] X.env)).any (·.1) = false := by rfl) :
    WE X (.Call (.Name "isinstance" p) [e, .Name "int" p2] [] pos) δ μ Q :=
  we_isi B hg hg2 (h.mono fun x μ1 q => by rw [isT_In]; exact q) PyProof.Rows.boot_int B.int (by decide +kernel) (by decide) (by decide) hm s1 s2 s3
theorem we_isBo (B : Bl mg) (hg : Gl X "isinstance") (hg2 : Gl X "bool") (h : WE X e δ μ fun x μ1 => Kn μ1 x ∧ Q (.d (.bool (isBo x))) μ1) (hm : X.mg = mg := by rfl)
    (s1 : starEach [e, .Name "bool" p2] X.env = (false, eval e X.env) :: starEach [.Name "bool" p2] X.env := by rfl) (s2 : starEach [.Name "bool" p2] X.env = (false, eval (.Name "bool" p2) X.env) :: starEach [] X.env := by rfl) (s3 : (backTo pos (starEach [.Name "bool" p2] X.env)).any (·.1) = false := by rfl) :
    WE X (.Call (.Name "isinstance" p) [e, .Name "bool" p2] [] pos) δ μ Q :=
  we_isi B hg hg2 (h.mono fun x μ1 q => by rw [isT_Bo]; exact q) PyProof.Rows.boot_bool B.bool (by decide +kernel) (by decide) (by decide) hm s1 s2 s3
theorem we_isSt (B : Bl mg) (hg : Gl X "isinstance") (hg2 : Gl X "str") (h : WE X e δ μ fun x μ1 => Kn μ1 x ∧ Q (.d (.bool (isSt x))) μ1) (hm : X.mg = mg := by rfl)
    (s1 : starEach [e, .Name "str" p2] X.env = (false, eval e X.env) :: starEach [.Name "str" p2] X.env := by rfl) (s2 : starEach [.Name "str" p2] X.env = (false, eval (.Name "str" p2) X.env) :: starEach [] X.env := by rfl) (s3 : (backTo pos (starEach [.Name "str" p2] X.env)).any (·.1) = false := by rfl) :
    WE X (.Call (.Name "isinstance" p) [e, .Name "str" p2] [] pos) δ μ Q :=
  we_isi B hg hg2 (h.mono fun x μ1 q => by rw [isT_St]; exact q) PyProof.Rows.boot_str B.str (by decide +kernel) (by decide) (by decide) hm s1 s2 s3
theorem we_isLiTu {k : Nat} {tp p3 : Pos} (B : Bl mg) (hg : Gl X "isinstance") (hg2 : Gl X "list") (hg3 : Gl X "tuple") (h : WE X e δ μ fun x μ1 => Kn μ1 x ∧ Q (.d (.bool (isLi x || isTu x))) μ1) (hm : X.mg = mg := by rfl)
    (s1 : starEach [e, .Tuple [.Name "list" p2, .Name "tuple" p3] k tp] X.env = (false, eval e X.env) :: starEach [.Tuple [.Name "list" p2, .Name "tuple" p3] k tp] X.env := by rfl) (s2 : starEach [.Tuple [.Name "list" p2, .Name "tuple" p3] k tp] X.env = (false, eval (.Tuple [.Name "list" p2, .Name "tuple" p3] k tp) X.env) :: starEach [] X.env := by rfl) (s3 : (backTo pos (starEach [.Tuple [.Name "list" p2, .Name "tuple" p3] k tp] X.env)).any (·.1) = false := by rfl)
    (s4 : starEach [.Name "list" p2, .Name "tuple" p3] X.env = (false, eval (.Name "list" p2) X.env) :: starEach [.Name "tuple" p3] X.env := by rfl) (s5 : starEach [.Name "tuple" p3] X.env = (false, eval (.Name "tuple" p3) X.env) :: starEach [] X.env := by rfl) :
    WE X (.Call (.Name "isinstance" p) [e, .Tuple [.Name "list" p2, .Name "tuple" p3] k tp] [] pos) δ μ Q :=
  we_isi2 B hg hg2 hg3 (h.mono fun x μ1 q => by rw [isT_Li, isT_Tu]; exact q) PyProof.Rows.boot_list B.list (by decide +kernel) (by decide) (by decide) PyProof.Rows.boot_tuple B.tuple (by decide +kernel) (by decide) (by decide) hm s1 s2 s3 s4 s5
theorem we_isTuLi {k : Nat} {tp p3 : Pos} (B : Bl mg) (hg : Gl X "isinstance") (hg2 : Gl X "tuple") (hg3 : Gl X "list") (h : WE X e δ μ fun x μ1 => Kn μ1 x ∧ Q (.d (.bool (isTu x || isLi x))) μ1) (hm : X.mg = mg := by rfl)
    (s1 : starEach [e, .Tuple [.Name "tuple" p2, .Name "list" p3] k tp] X.env = (false, eval e X.env) :: starEach [.Tuple [.Name "tuple" p2, .Name "list" p3] k tp] X.env := by rfl) (s2 : starEach [.Tuple [.Name "tuple" p2, .Name "list" p3] k tp] X.env = (false, eval (.Tuple [.Name "tuple" p2, .Name "list" p3] k tp) X.env) :: starEach [] X.env := by rfl) (s3 : (backTo pos (starEach [.Tuple [.Name "tuple" p2, .Name "list" p3] k tp] X.env)).any (·.1) = false := by rfl)
    (s4 : starEach [.Name "tuple" p2, .Name "list" p3] X.env = (false, eval (.Name "tuple" p2) X.env) :: starEach [.Name "list" p3] X.env := by rfl) (s5 : starEach [.Name "list" p3] X.env = (false, eval (.Name "list" p3) X.env) :: starEach [] X.env := by rfl) :
    WE X (.Call (.Name "isinstance" p) [e, .Tuple [.Name "tuple" p2, .Name "list" p3] k tp] [] pos) δ μ Q :=
  we_isi2 B hg hg2 hg3 (h.mono fun x μ1 q => by rw [isT_Tu, isT_Li]; exact q) PyProof.Rows.boot_tuple B.tuple (by decide +kernel) (by decide) (by decide) PyProof.Rows.boot_list B.list (by decide +kernel) (by decide) (by decide) hm s1 s2 s3 s4 s5
theorem we_isBoSt {k : Nat} {tp p3 : Pos} (B : Bl mg) (hg : Gl X "isinstance") (hg2 : Gl X "bool") (hg3 : Gl X "str") (h : WE X e δ μ fun x μ1 => Kn μ1 x ∧ Q (.d (.bool (isBo x || isSt x))) μ1) (hm : X.mg = mg := by rfl)
    (s1 : starEach [e, .Tuple [.Name "bool" p2, .Name "str" p3] k tp] X.env = (false, eval e X.env) :: starEach [.Tuple [.Name "bool" p2, .Name "str" p3] k tp] X.env := by rfl) (s2 : starEach [.Tuple [.Name "bool" p2, .Name "str" p3] k tp] X.env = (false, eval (.Tuple [.Name "bool" p2, .Name "str" p3] k tp) X.env) :: starEach [] X.env := by rfl) (s3 : (backTo pos (starEach [.Tuple [.Name "bool" p2, .Name "str" p3] k tp] X.env)).any (·.1) = false := by rfl)
    (s4 : starEach [.Name "bool" p2, .Name "str" p3] X.env = (false, eval (.Name "bool" p2) X.env) :: starEach [.Name "str" p3] X.env := by rfl) (s5 : starEach [.Name "str" p3] X.env = (false, eval (.Name "str" p3) X.env) :: starEach [] X.env := by rfl) :
    WE X (.Call (.Name "isinstance" p) [e, .Tuple [.Name "bool" p2, .Name "str" p3] k tp] [] pos) δ μ Q :=
  we_isi2 B hg hg2 hg3 (h.mono fun x μ1 q => by rw [isT_Bo, isT_St]; exact q) PyProof.Rows.boot_bool B.bool (by decide +kernel) (by decide) (by decide) PyProof.Rows.boot_str B.str (by decide +kernel) (by decide) (by decide) hm s1 s2 s3 s4 s5
end
section
variable {X : Cx} {δ : Dl} {μ : Cells} {e a b : Expr} {pos p p2 : Pos} {Q : Vd → Cells → Prop} {es : List Expr} {mg : Str → Option Value}
/-! ### slices -/
def cutZ (ds : List PyData) (lo hi : Option Int) : List PyData := (ds.drop (HT.sIx ds.length 0 lo)).take (HT.sIx ds.length ds.length hi - HT.sIx ds.length 0 lo)
theorem dps_cutZ {K : PySem.W.Frag} {F : Hp} {ds : List PyData} {vs : List V} (h : DeAll K F vs ds) (lo hi : Option Int) : DeAll K F (cutV vs lo hi) (cutZ ds lo hi) := by
  unfold cutV cutZ
  rw [dps_len h]
  exact dps_take _ (dps_drop _ h)
theorem cutZ_whole {ds : List PyData} {lo hi : Option Int} (h : HT.sIx ds.length 0 lo = 0 ∧ HT.sIx ds.length ds.length hi = ds.length) : cutZ ds lo hi = ds := by
  unfold cutZ
  rw [h.1, h.2]
  simp
def tO (X : Cx) : Option Expr → TO
  | none => tNoPart
  | some e => tPart (cE X e)
theorem pcO : ∀ (o : Option Expr), PO X o (tO X o)
  | none => po_none
  | some e => po_some (pcE X e)
def WO (X : Cx) (o : Option Expr) (δ : Dl) (μ : Cells) (QO : Option Int → Cells → Prop) : Prop := match o with
  | none => QO none μ
  | some e => WE X e δ μ fun z μ1 => ∃ i, z = .d (.int i) ∧ QO (some i) μ1
theorem wo_run {o : Option Expr} {QO : Option Int → Cells → Prop} (h : WO X o δ μ QO) {F H : Hp} {σ : L2.St} (R : Rp X.K F H σ δ μ) {QV : Option Int → Hp → Prop}
    (c : ∀ i F' H' μ', Fw (ks μ) (ks μ') F H F' H' → Rp X.K F' H' σ δ μ' → QO i μ' → QV i H') : tO X o σ H QV := by
  cases o with
  | none => exact c none F H μ Fw.refl R h
  | some e =>
    refine (show WE X e δ μ _ from h) F H σ R _ fun v z F1 H1 μ1 w1 R1 o1 q => ?_
    obtain ⟨i, rfl, q⟩ := q
    exact ⟨i, dp_int o1, c _ F1 H1 μ1 w1 R1 q⟩
/-- t[lo:hi]: the whole of it is t itself, else a new object without a dict -/
def rSlX (K : PySem.W.Frag) : V → Option Int → Option Int → Hp → VK → Prop := fun x lo hi H Q => ∃ t ys, x = .ref t ∧ SqT K H t ys ∧
  ((HT.sIx ys.length 0 lo = 0 ∧ HT.sIx ys.length ys.length hi = ys.length) → Q (.ref t) H) ∧
  (¬ (HT.sIx ys.length 0 lo = 0 ∧ HT.sIx ys.length ys.length hi = ys.length) → ∀ l o, o.dict = none → H l = none → Q (.ref l) (upd H l (.frz o (.tup (cutV ys lo hi)))))
theorem sl_tupX {X : Cx} : SlR X (rSlX X.K) := fun pins st σ H x v vl vu lo hi sl Q iv rx sli ql qu h => by
  obtain ⟨t, ys, e, hq, hw, hn⟩ := h
  by_cases w : HT.sIx ys.length 0 lo = 0 ∧ HT.sIx ys.length ys.length hi = ys.length
  · exact sl_tupA pins st σ H x v vl vu lo hi sl Q iv rx sli ql qu ⟨t, ys, e, hq, hw, fun nw => absurd w nw⟩
  · subst e
    cases rx
    obtain ⟨its, rv, it, hz⟩ := iv.tuple hq
    have en : its.toArray.size = ys.length := by rw [List.size_toArray, rv.length]
    refine ⟨"tuple", _, PyProof.Rows.slot_tuple_getitem.lookup, it.typeIs, HT.getItem_tuple_cut it sli ql qu (by rw [en]; exact w) ?_ (by rw [en]; exact hz)⟩
    rw [en]
    have nf := iv.hok.fresh (Nat.le_refl st.heap.objs.size)
    have rc : Vals (cutV ys lo hi) _ := (rv.drop (HT.sIx ys.length 0 lo)).take (HT.sIx ys.length ys.length hi - HT.sIx ys.length 0 lo)
    exact ⟨.ref st.heap.objs.size, _, iv.laid (t' := st.toks) (o := .frz _ (.tup (cutV ys lo hi))) (fun b ob q => Heap.get?_push_of_some _ q) (Nat.le_refl _)
      ⟨Heap.get?_push_size _ rfl, Nat.le_trans (cutV_length ys lo hi) hz, _, rc, IsTup.new _ _⟩, rfl, hn w _ _ rfl nf⟩
theorem we_slT {lo hi : Option Expr} (h : WE X e δ μ fun x μ1 => WO X lo δ μ1 fun l μ2 => WO X hi δ μ2 fun u μ3 => ∃ ds, x = .d (.tuple ds) ∧ Q (.d (.tuple (cutZ ds l u))) μ3) : WE X (.Subscript e (.Slice lo hi none p2) pos) δ μ Q := fun F H σ R QV c =>
  toE (pe_slice sl_tupX (pcE X e) (pcO lo) (pcO hi)) (h F H σ R _ fun v x F1 H1 μ1 w1 R1 o1 q => wo_run q R1 fun l F2 H2 μ2 w2 R2 q2 => wo_run q2 R2 fun u F3 H3 μ3 w3 R3 q3 => by
    obtain ⟨ds, rfl, q3⟩ := q3
    obtain ⟨a, vs, ob, rfl, h1, h2, hd⟩ := dp_tupX (o1.up (w2.f.trans w3.f))
    refine ⟨a, vs, rfl, .inl (.inr ⟨ob, R3.m.ex _ _ h1⟩), fun hw => ?_, fun _ l' o ho nl => ?_⟩
    · rw [dps_len hd] at hw
      refine c _ (.d (.tuple _)) F3 H3 μ3 ((w1.trans w2).trans w3) R3 ?_ q3
      rw [cutZ_whole hw]
      exact .tup h1 h2 hd
    · obtain ⟨m4, w4⟩ := R3.m.new (o := .frz o (.tup (cutV vs l u))) nl
      exact c _ (.d (.tuple _)) _ _ μ3 (((w1.trans w2).trans w3).trans w4) (R3.to w4.f m4) (.tup upd_same ho (dps_up w4.f _ _ (dps_cutZ hd l u))) q3)
theorem we_slL {lo hi : Option Expr} (h : WE X e δ μ fun x μ1 => WO X lo δ μ1 fun l μ2 => WO X hi δ μ2 fun u μ3 => ∃ ds, Ct μ3 x ds ∧ (∀ ds, toC x ≠ .tuple ds) ∧ ∀ p, Q (.a p) ((p, cutZ ds l u) :: μ3)) : WE X (.Subscript e (.Slice lo hi none p2) pos) δ μ Q := fun F H σ R QV c =>
  toE (pe_slice sl_list (pcE X e) (pcO lo) (pcO hi)) (h F H σ R _ fun v x F1 H1 μ1 w1 R1 o1 q => wo_run q R1 fun l F2 H2 μ2 w2 R2 q2 => wo_run q2 R2 fun u F3 H3 μ3 w3 R3 q3 => by
    obtain ⟨ds, ct, nt, q3⟩ := q3
    obtain ⟨a, vs, rfl, hs, hd⟩ := ct_lst R3.m (o1.up (w2.f.trans w3.f)) ct nt
    refine ⟨a, vs, rfl, hs, fun l' nl => ?_⟩
    obtain ⟨m4, w4⟩ := R3.m.cell nl (dps_cutZ hd l u)
    exact c _ (.a l') _ _ _ (((w1.trans w2).trans w3).trans w4) (R3.to w4.f m4) rfl (q3 l'))
/-! ### displays and subscripts with cells as items -/
theorem vall_q {K : PySem.W.Frag} {F : Hp} : ∀ {xs : List Vd} {vs : List V}, (∀ d, Vd.w d ∉ xs ∧ ∀ ns, Vd.s ns ∉ xs) → VAll K F xs vs → DqAll K F vs (xs.map toC)
  | _, _, _, .nil => .nil
  | _, _, n, .cons h t => .cons (VOk.toC (fun d => ⟨fun e => (n d).1 (e ▸ List.mem_cons_self), fun ns e => (n d).2 ns (e ▸ List.mem_cons_self)⟩) h) (vall_q (fun d => ⟨fun m => (n d).1 (List.mem_cons_of_mem _ m), fun ns m => (n d).2 ns (List.mem_cons_of_mem _ m)⟩) t)
theorem we_lstP (h : WA X es δ μ fun xs μ1 => xs.length ≤ 100000 ∧ (∀ d, Vd.w d ∉ xs ∧ ∀ ns, Vd.s ns ∉ xs) ∧ ∀ p, Q (.a p) ((p, xs.map toC) :: μ1)) : WE X (.List es pos) δ μ Q := fun F H σ R QV c =>
  toE (pe_lst (pcA X es)) (h F H σ R _ fun vs xs F1 H1 μ1 w1 R1 o1 q => by
    obtain ⟨hl, nw, q⟩ := q
    have hd := vall_q nw o1
    refine ⟨by rw [dqs_len hd, List.length_map]; exact Nat.le_trans hl (by decide), fun p np => ?_⟩
    obtain ⟨m, w⟩ := R1.m.cellQ np hd
    exact c _ (.a p) _ _ _ (w1.trans w) (R1.to w.f m) rfl (q p))
end
section
variable {K : PySem.W.Frag} {μ : Cells} {Q : Vd → Cells → Prop}
/-- an item of a cell -/
def ofC : PyData → Vd
  | .dict [(.int (.ofNat n), .none)] => .a n
  | d => .d d
theorem ofC_ptr (p : Addr) : ofC (ptr p) = .a p := rfl
theorem ow_ixC {q : Addr} {i : Int} {d : PyData} {ds : List PyData} (j : Nat) (hj : μ[j]? = some (q, (ds : Cont))) (ha : atI ds i = some d) (h : (isP d = false ∧ Q (.d d) μ) ∨ ∃ r, d = ptr r ∧ Q (.a r) μ) : OpW K (rIx K) (.a q) (.d (.int i)) μ Q := fun F H v u m o1 o2 QV c => by
  obtain ⟨_, vs, e1, hd⟩ := m.cel _ _ (List.mem_of_getElem? hj)
  have hv : ∃ w, atI vs i = some w ∧ Dq K F w d := by
    unfold atI at ha ⊢
    rw [dqs_len hd]
    cases q : ixN ds.length i with
    | none =>
      rw [q] at ha
      cases ha
    | some j =>
      rw [q] at ha
      exact dqs_get hd ha
  obtain ⟨w, hw, ow⟩ := hv
  refine .inl ⟨q, vs, i, w, o1, dp_int o2, .of e1, hw, ?_⟩
  rcases h with ⟨hp, h⟩ | ⟨r, rfl, h⟩
  · exact c (.d d) w F H μ Fw.refl m (ow.to hp) h
  · refine c (.a r) w F H μ Fw.refl m ?_ h
    cases ow with
    | d h => cases h
    | p a => rfl
theorem dqs_flat {F : Hp} {vs : List V} {ds : List PyData} (h : DqAll K F vs ds) : ∀ k : Nat, DqAll K F (List.replicate k vs).flatten (List.replicate k ds).flatten
  | 0 => .nil
  | k + 1 => by
    rw [List.replicate_succ, List.replicate_succ, List.flatten_cons, List.flatten_cons]
    exact dqs_app h (dqs_flat h k)
/-- xs * k -/
theorem ow_repC {p : Addr} {k : Int} {ds : List PyData} (j : Nat) (hj : μ[j]? = some (p, (ds : Cont))) (h0 : 0 ≤ k) (h1 : k ≤ 1000) (hz : ds.length * k.toNat ≤ 100000) (h : ∀ r, Q (.a r) ((r, (List.replicate k.toNat ds).flatten) :: μ)) : OpW K (OMul K) (.a p) (.d (.int k)) μ Q := fun F H v u m o1 o2 QV c => by
  obtain ⟨_, vs, e1, hd⟩ := m.cel _ _ (List.mem_of_getElem? hj)
  refine .inr (.inr ⟨p, k, vs, o1, dp_int o2, e1, by omega, by omega, by rw [dqs_len hd]; exact Nat.le_trans hz (by decide), fun r nr => ?_⟩)
  obtain ⟨m2, w2⟩ := m.cellQ nr (dqs_flat hd k.toNat)
  exact c (.a r) _ _ _ _ w2 m2 rfl (h r)
/-! ### cells seen as data, with cells as items -/
inductive LItem (μ : Cells) : PyData → PyData → Prop
  | d {d : PyData} (h : isP d = false) : LItem μ d d
  | q (j : Nat) {q : Addr} {es : List PyData} (h : μ[j]? = some (q, (es : Cont))) (pl : plS es) : LItem μ (ptr q) (.list es)
abbrev LItems (μ : Cells) : List PyData → List PyData → Prop := Paired (LItem μ)
inductive LView (μ : Cells) : Addr → PyData → Prop
  | mk (i : Nat) {p : Addr} {rs ds : List PyData} (h : μ[i]? = some (p, (rs : Cont))) (hs : LItems μ rs ds) : LView μ p (.list ds)
theorem litems_pl {rs : List PyData} (h : plS rs) : LItems μ rs rs := by
  induction rs with
  | nil => exact .nil
  | cons r t ih => exact .cons (.d (h r List.mem_cons_self)) (ih fun d m => h d (List.mem_cons_of_mem _ m))
/-- all cells frozen -/
def allF (F H : Hp) (bs : List Addr) : Hp := fun b => if b ∈ bs then H b else F b
theorem RpM.all {F H : Hp} (m : RpM K F H μ) : Same F (allF F H (ks μ)) ∧ Same (allF F H (ks μ)) H ∧ ∀ b ∈ ks μ, F b = none ∧ ∃ o, allF F H (ks μ) b = some o ∧ Own o := by
  have inn : ∀ b ∈ ks μ, F b = none ∧ ∃ o, H b = some o ∧ Own o := fun b hb => by
    obtain ⟨⟨b', fs⟩, hm', e'⟩ := List.mem_map.mp hb
    have e2 : b' = b := e'
    subst e2
    obtain ⟨g1, g2⟩ := m.cel b' fs hm'
    exact ⟨g1, g2.obj⟩
  refine ⟨fun b o e => ?_, fun b o e => ?_, fun b hb => ?_⟩
  · unfold allF
    rw [if_neg fun h => by rw [(inn b h).1] at e; cases e]
    exact e
  · unfold allF at e
    split at e
    · exact e
    · exact m.ex b o e
  · obtain ⟨g1, us, g2, g3⟩ := inn b hb
    refine ⟨g1, us, ?_, g3⟩
    unfold allF
    rw [if_pos hb]
    exact g2
theorem lview_gen {F H G : Hp} (m : RpM K F H μ) (s1 : Same F G) (hG : ∀ b ∈ ks μ, G b = H b) {p : Addr} {d : PyData} (h : LView μ p d) : De K G (.ref p) d := by
  have key : ∀ {i : Nat} {q : Addr} {es : List PyData}, μ[i]? = some (q, (es : Cont)) → ∃ vs, G q = some (.lst vs) ∧ DqAll K G vs es := fun {i q es} hj => by
    have hm := List.mem_of_getElem? hj
    obtain ⟨_, vs, e, hd⟩ := m.cel _ _ hm
    exact ⟨vs, by rw [hG q (List.mem_map.mpr ⟨_, hm, rfl⟩)]; exact e, dqs_up s1 _ _ hd⟩
  have item : ∀ {v : V} {r d : PyData}, LItem μ r d → Dq K G v r → De K G v d := fun {v r d} hi ho => by
    cases hi with
    | d hp => exact ho.to hp
    | q j hj pl =>
      obtain ⟨vs, e, hd⟩ := key hj
      cases ho with
      | d h => cases h
      | p a => exact .lst e (hd.to pl)
  have items : ∀ {rs ds : List PyData} {vs : List V}, LItems μ rs ds → DqAll K G vs rs → DeAll K G vs ds := fun {rs ds vs} hi => by
    induction hi generalizing vs with
    | nil =>
      intro ho
      cases ho
      exact .nil
    | cons h1 _ ih =>
      intro ho
      cases ho with
      | cons o1 o2 => exact .cons (item h1 o1) (ih o2)
  cases h with
  | mk i hj hs =>
    obtain ⟨vs, e, hd⟩ := key hj
    exact .lst e (items hs hd)
/-- comparisons that see them so -/
inductive Vt (μ : Cells) : Vd → PyData → Prop
  | d (x : PyData) : Vt μ (.d x) x
  | c {p : Addr} {d : PyData} (h : LView μ p d) : Vt μ (.a p) d
theorem vt_ok {F H : Hp} {x : Vd} {v : V} {d : PyData} (m : RpM K F H μ) (o : VOk K F x v) (h : Vt μ x d) : De K H v d := by
  cases h with
  | d => exact dp_up m.ex _ _ o
  | c h =>
    rw [show v = .ref _ from o]
    exact lview_gen m m.ex (fun _ _ => rfl) h
theorem ow_eqT {x y : Vd} {d e : PyData} (hx : Vt μ x d) (hy : Vt μ y e) (sd : SeqAt.shaped d = true) (se : SeqAt.shaped e = true) (h : Q (.d (.bool (PyData.eqv d e))) μ) : OpW K (rEqD K) x y μ Q := fun F H v u m o1 o2 QV c =>
  ⟨d, e, (vt_ok m o1 hx).dp, (vt_ok m o2 hy).dp, sd, se, c (.d (.bool _)) _ F H μ Fw.refl m (.bl _) h⟩
theorem ow_neT {x y : Vd} {d e : PyData} (hx : Vt μ x d) (hy : Vt μ y e) (sd : SeqAt.shaped d = true) (se : SeqAt.shaped e = true) (h : Q (.d (.bool (!PyData.eqv d e))) μ) : OpW K (rNeD K) x y μ Q := fun F H v u m o1 o2 QV c =>
  ⟨d, e, (vt_ok m o1 hx).dp, (vt_ok m o2 hy).dp, sd, se, c (.d (.bool _)) _ F H μ Fw.refl m (.bl _) h⟩
/-- values with cells read as data -/
inductive LentT (μ : Cells) : List Vd → List Vd → Prop
  | nil : LentT μ [] []
  | keep {x : Vd} {xs ys : List Vd} : LentT μ xs ys → LentT μ (x :: xs) (x :: ys)
  | lend {p : Addr} {d : PyData} {xs ys : List Vd} (h : LView μ p d) : LentT μ xs ys → LentT μ (.a p :: xs) (.d d :: ys)
  | wk {ds : List PyData} {xs ys : List Vd} : LentT μ xs ys → LentT μ (.x ds :: xs) (.d (.tuple ds) :: ys)
theorem LentT.ok {F H G : Hp} (m : RpM K F H μ) (s1 : Same F G) (hG : ∀ b ∈ ks μ, G b = H b) : ∀ {xs ys : List Vd} {vs : List V}, LentT μ xs ys → VAll K F xs vs → VAll K G ys vs
  | _, _, _, .nil, h => by
    cases h
    exact .nil
  | _, _, _, .keep l, h => by
    cases h with
    | cons h1 h2 => exact .cons (h1.up s1) (LentT.ok m s1 hG l h2)
  | _, _, _, .lend hv l, h => by
    cases h with
    | cons h1 h2 =>
      rw [show _ = V.ref _ from h1]
      exact .cons (lview_gen m s1 hG hv) (LentT.ok m s1 hG l h2)
  | _, _, _, .wk l, h => by
    cases h with
    | cons h1 h2 =>
      exact .cons (dp_up s1 _ _ h1) (LentT.ok m s1 hG l h2)
/-! ### cells cut out again -/
def cutS (F : Hp) (bs : List Addr) : Hp := fun b => if b ∈ bs then none else F b
theorem same_cutS {F : Hp} {bs : List Addr} : Same (cutS F bs) F := fun b o e => by
  unfold cutS at e
  split at e
  · cases e
  · exact e
theorem cutS_ne {F : Hp} {bs : List Addr} {b : Addr} (h : b ∉ bs) : cutS F bs b = F b := if_neg h
theorem sqt_cutS {F : Hp} {bs : List Addr} {a : Addr} {vs : List V} (hp : ∀ b ∈ bs, ∃ o, F b = some o ∧ Own o) (h : SqT K F a vs) : SqT K (cutS F bs) a vs := by
  have out : ∀ {o : HO}, F a = some o → ¬ Own o → a ∉ bs := fun e n z => by
    obtain ⟨o', hu, ow⟩ := hp a z
    rw [hu] at e
    cases e
    exact n ow
  rcases h with (h | ⟨o, h⟩) | h
  · exact .inl (.inl (by rw [cutS_ne (out h fun z => z)]; exact h))
  · exact .inl (.inr ⟨o, by rw [cutS_ne (out h fun z => z)]; exact h⟩)
  · exact .inr h
mutual
theorem dp_cutS {F : Hp} {bs : List Addr} (hp : ∀ b ∈ bs, ∃ o, F b = some o ∧ Own o) : ∀ (d : PyData) (v : V), noL d = true → De K F v d → De K (cutS F bs) v d
  | .none, _, _, h => by cases h; exact .non
  | .bool b, _, _, h => by cases h; exact .bl b
  | .int i, _, _, h => by cases h; exact .int i
  | .str x, _, _, h => by cases h; exact .str x
  | .list ds, _, n, _ => by simp [noL] at n
  | .tuple ds, _, n, h => by
    cases h with
    | tup hs hn ha => exact .tup (by rw [cutS_ne fun z => by obtain ⟨o, e, ow⟩ := hp _ z; rw [e] at hs; cases hs; exact ow]; exact hs) hn (dps_cutS hp ds _ (by simpa [noL] using n) ha)
  | .dict _, _, n, _ => by simp [noL] at n
theorem dps_cutS {F : Hp} {bs : List Addr} (hp : ∀ b ∈ bs, ∃ o, F b = some o ∧ Own o) : ∀ (ds : List PyData) (vs : List V), noLs ds = true → DeAll K F vs ds → DeAll K (cutS F bs) vs ds
  | [], _, _, h => by cases h; exact .nil
  | d :: ds, _, n, h => by
    cases h with
    | cons h1 h2 =>
      have n' : noL d = true ∧ noLs ds = true := by simpa [noLs] using n
      exact .cons (dp_cutS hp d _ n'.1 h1) (dps_cutS hp ds _ n'.2 h2)
end
end
/-! ### calls, positional or by keywords -/
def pick {α : Type} (is : List Nat) (xs : List α) : List α := is.filterMap fun i => xs[i]?
def gK {α : Type} (n : Nat) (is : List Nat) (us ws : List α) : List α := match us with
  | [] => if ws.length = n then pick is ws else []
  | _ :: _ => []
def CalK (P : Program) (w : World) (K : PySem.W.Frag) (mg : Str → Option Value) (base : Heap) (k : Nat) (x : Str) (ks : List Str) (is : List Nat) (T : TrD) : Prop :=
  ∃ f fd ps, FnG P w K mg base CX0 k f fd ps (spW K T) ∧ mg x = some (.ref f) ∧ PySem.W.keepIn K (.ref f) = true ∧ KBinds K fd ps ks (gK ks.length is) (gK ks.length is)
theorem paired_get {α β : Type} {r : α → β → Prop} : ∀ {xs : List α} {ys : List β} (i : Nat), Paired r xs ys → (xs[i]? = none ∧ ys[i]? = none) ∨ ∃ x y, xs[i]? = some x ∧ ys[i]? = some y ∧ r x y
  | _, _, i, .nil => .inl ⟨by simp, by simp⟩
  | _, _, 0, .cons h _ => .inr ⟨_, _, rfl, rfl, h⟩
  | _, _, i + 1, .cons _ t => by
    rcases paired_get i t with ⟨h1, h2⟩ | ⟨x, y, h1, h2, h3⟩
    · exact .inl ⟨by simpa using h1, by simpa using h2⟩
    · exact .inr ⟨x, y, by simpa using h1, by simpa using h2, h3⟩
theorem paired_pick {α β : Type} {r : α → β → Prop} {xs : List α} {ys : List β} (h : Paired r xs ys) : ∀ is : List Nat, Paired r (pick is xs) (pick is ys)
  | [] => .nil
  | i :: is => by
    unfold pick
    rw [List.filterMap_cons, List.filterMap_cons]
    rcases paired_get i h with ⟨h1, h2⟩ | ⟨x, y, h1, h2, h3⟩
    · rw [h1, h2]
      exact paired_pick h is
    · rw [h1, h2]
      exact .cons h3 (paired_pick h is)
theorem paired_gK {α β : Type} {r : α → β → Prop} {n : Nat} {is : List Nat} {us zs : List α} {vs ws : List β} (h : Paired r us vs) (g : Paired r zs ws) : Paired r (gK n is us zs) (gK n is vs ws) := by
  cases h with
  | nil =>
    unfold gK
    rw [Paired.length g]
    by_cases e : ws.length = n
    · rw [if_pos e, if_pos e]
      exact paired_pick g is
    · rw [if_neg e, if_neg e]
      exact .nil
  | cons _ _ => exact .nil
theorem fun_kb {K : PySem.W.Frag} {x qual : Str} {st : Stmt} {f : Addr} {fd : FuncData} (F : Fun K x qual st f fd) {ps ks : List Str} {is : List Nat} (hp : ps ≠ [])
    (h : ∀ (kV doc pm : Value) (an : Option Addr) (cdv ct : Value) (ws : List Value), ws.length = ks.length → bindArgs (PySem.W.fnOf x qual (defArgs st) (defBody st) (defScope st) .none kV doc pm an cdv ct) ⟨[], ks.zip ws⟩ = pure (ps.zip (pick is ws))) : KBinds K fd ps ks (gK ks.length is) (gK ks.length is) := by
  obtain ⟨oc, od, kV, doc, pm, an, cdv, ct, osl, rfl, lk, hcd⟩ := F.ex
  refine ⟨fun s us ws X hl => ?_, fun r1 r2 => paired_gK r1 r2⟩
  cases us with
  | cons u us =>
    refine absurd ?_ hp
    have : (0 : Nat) = ps.length := hl
    exact List.length_eq_zero_iff.mp this.symm
  | nil =>
    unfold gK at hl ⊢
    by_cases e : ws.length = ks.length
    · rw [if_pos e] at hl ⊢
      exact .of_eq (h kV doc pm an cdv ct ws e)
    · rw [if_neg e] at hl
      refine absurd ?_ hp
      have : (0 : Nat) = ps.length := hl
      exact List.length_eq_zero_iff.mp this.symm
section
variable {X : Cx} {δ : Dl} {μ : Cells} {e a b E : Expr} {pos p p2 : Pos} {Q : Vd → Cells → Prop} {es : List Expr} {mg : Str → Option Value} {kws : List Keyword}
/-- a call's arguments -/
def WCl (X : Cx) (E : Expr) (T : TrD) (δ : Dl) (μ : Cells) (QA : List Vd → Cells → Prop) : Prop := ∀ F H σ, Rp X.K F H σ δ μ → ∀ QV : VK,
  (∀ vs xs F' H' μ', Fw (ks μ) (ks μ') F H F' H' → Rp X.K F' H' σ δ μ' → VAll X.K F' xs vs → QA xs μ' → spW X.K T vs H' QV E0) → cE X E σ H QV
theorem wc_pos {P : Program} {w : World} {K : PySem.W.Frag} {mg : Str → Option Value} {base : Heap} {T : TrD} {k : Nat} {x : Str} {QA : List Vd → Cells → Prop} (c : Cal P w K mg base k x T) (hr : Room k X.A) (hg : Gl X x) (h : WA X (e :: es) δ μ QA)
    (hgd : X.A.guards = some [] := by assumption) (hX : (X.prog, X.w, X.K, X.mg, X.base) = (P, w, K, mg, base) := by rfl)
    (hdb : (x == ("__debug__" : Str)) = false := by decide) (he : starEach (e :: es) X.env = (false, eval e X.env) :: starEach es X.env := by rfl) (hpl : (backTo pos (starEach es X.env)).any (·.1) = false := by rfl) :
    WCl X (.Call (.Name x p) (e :: es) [] pos) T δ μ QA := fun F H σ R QV kk => by
  obtain ⟨f, fd, ps, ok, hm, hk, hb⟩ := c
  cases hX
  refine toE (pe_callg ok hr hgd hg hm hk hb pass0 (pcA X (e :: es)) hdb he hpl) (h F H σ R _ fun vs xs F1 H1 μ1 w1 R1 o1 q => ?_)
  exact kk vs xs F1 H1 μ1 w1 R1 o1 q
theorem wc_kw {P : Program} {w : World} {K : PySem.W.Frag} {mg : Str → Option Value} {base : Heap} {T : TrD} {k : Nat} {x : Str} {ks : List Str} {is : List Nat} {QA : List Vd → Cells → Prop} (c : CalK P w K mg base k x ks is T) (hr : Room k X.A) (hg : Gl X x) (h : WK X kws δ μ fun xs μ1 => QA (gK ks.length is [] xs) μ1)
    (hgd : X.A.guards = some [] := by assumption) (hX : (X.prog, X.w, X.K, X.mg, X.base) = (P, w, K, mg, base) := by rfl) (hall : (backToKw pos (keywordEach kws X.env)).all (·.1.isSome) = true := by rfl) (hks : (backToKw pos (keywordEach kws X.env)).filterMap (·.1) = ks := by rfl)
    (hdb : (x == ("__debug__" : Str)) = false := by decide)
    (hpl : ((backTo pos (starEach [] X.env)).any (·.1) || (backToKw pos (keywordEach kws X.env)).any (·.1.isNone)) = false := by rfl) :
    WCl X (.Call (.Name x p) [] kws pos) T δ μ QA := fun F H σ R QV kk => by
  obtain ⟨f, fd, ps, ok, hm, hk, hb⟩ := c
  cases hX
  refine toE (pe_callKg (E := fun _ => E0) ok hr hgd hg hm hk hb (fun σ pins H s e s' I h => pass0 pins σ H s e s' I h) (pcK X kws) hall hks hdb hpl) (h F H σ R _ fun vs xs F1 H1 μ1 w1 R1 o1 q => ?_)
  exact kk (gK ks.length is [] vs) _ F1 H1 μ1 w1 R1 (paired_gK .nil o1) q
/-- a pure call -/
theorem we_clP {T : TrD} (h : WCl X E T δ μ fun xs μ1 => T xs [] fun z μ' => Q z (μ' ++ μ1)) : WE X E δ μ Q := fun F H σ R QV kk =>
  h F H σ R QV fun vs xs F1 H1 μ1 w1 R1 o1 q => by
    have m0 : RpM X.K F1 H1 [] := ⟨R1.m.ex, List.nodup_nil, fun _ _ z => by cases z⟩
    refine ⟨F1, xs, [], _, m0, o1, q, fun v z F2 H2 μ2 w2 m2 o2 q2 => ?_⟩
    obtain ⟨m3, w3⟩ := (R1.m : RpM X.K F1 H1 ([] ++ μ1)).frame w2 m2
    exact kk v z F2 H2 _ (w1.trans w3) (R1.to w2.f m3) o2 q2
/-- a pure call that reads cells as data -/
theorem we_clT {T : TrD} (h : WCl X E T δ μ fun xs μ1 => ∃ ys, LentT μ1 xs ys ∧ T ys [] fun z μ' => noLv z = true ∧ (∀ y ∈ μ', noLc y.2 = true) ∧ Q z (μ' ++ μ1)) : WE X E δ μ Q := fun F H σ R QV kk =>
  h F H σ R QV fun vs xs F1 H1 μ1 w1 R1 o1 q => by
    obtain ⟨ys, hl, q0⟩ := q
    obtain ⟨sf, sh, hc⟩ := R1.m.all
    have hG : ∀ b ∈ ks μ1, allF F1 H1 (ks μ1) b = H1 b := fun b hb => if_pos hb
    have m0 : RpM X.K (allF F1 H1 (ks μ1)) H1 [] := ⟨sh, List.nodup_nil, fun _ _ z => by cases z⟩
    refine ⟨_, ys, [], _, m0, LentT.ok R1.m sf hG hl o1, q0, fun v z F2 H2 μ2 w2 m2 o2 q2 => ?_⟩
    obtain ⟨q2, q3, q4⟩ := q2
    have f2 : ∀ b ∈ ks μ1, ∃ o, F2 b = some o ∧ Own o := fun b hb => by
      obtain ⟨_, us, e, ow⟩ := hc b hb
      exact ⟨us, w2.f b _ e, ow⟩
    have f12 : Same F1 (cutS F2 (ks μ1)) := fun b o hb => by
      rw [cutS_ne fun z => by rw [(hc b z).1] at hb; cases hb]
      exact w2.f b o (sf b o hb)
    have live : ∀ b ∈ ks μ1, H1 b ≠ none := fun b hb z => by
      obtain ⟨_, us, e, _⟩ := hc b hb
      rw [hG b hb, z] at e
      cases e
    have fresh : ∀ b ∈ ks μ2, H1 b = none := fun b hb => (w2.s b hb).elim (fun z => by cases z) id
    have W : Fw (ks μ1) (ks (μ2 ++ μ1)) F1 H1 (cutS F2 (ks μ1)) H2 := by
      refine ⟨f12, fun b o hb _ => w2.k b o hb (by simp), fun b hb hb2 nb => ?_, fun b hb => ?_⟩
      · rw [cutS_ne nb]
        exact w2.c b (by unfold allF; rw [if_neg nb]; exact hb) hb2 (by simp)
      · rw [ks_app] at hb
        rcases List.mem_append.mp hb with hb | hb
        · exact .inr (fresh b hb)
        · exact .inl hb
    have M : RpM X.K (cutS F2 (ks μ1)) H2 (μ2 ++ μ1) := by
      refine ⟨same_cutS.trans m2.ex, ?_, fun b fs hb => ?_⟩
      · rw [ks_app]
        refine List.nodup_append.mpr ⟨m2.nd, R1.m.nd, fun x mx y my e' => ?_⟩
        subst e'
        exact live x my (fresh x mx)
      · rcases List.mem_append.mp hb with hb | hb
        · have nb : b ∉ ks μ1 := fun z => live b z (fresh b (List.mem_map.mpr ⟨_, hb, rfl⟩))
          have hn := q3 _ hb
          cases fs with
          | l fs =>
            obtain ⟨g1, ws, g2, g3⟩ := m2.cel b _ hb
            exact ⟨by rw [cutS_ne nb]; exact g1, ws, g2, .of (dps_cutS f2 _ _ hn (g3.to (noLs_pl hn)))⟩
          | i _ => cases hn
          | t _ => cases hn
        · obtain ⟨g1, g2⟩ := R1.m.cel b fs hb
          exact ⟨if_pos (List.mem_map.mpr ⟨_, hb, rfl⟩), g2.to f12 fun o e => w2.k b o e (by simp)⟩
    refine kk v z (cutS F2 (ks μ1)) H2 (μ2 ++ μ1) (w1.trans W) (R1.to f12 M) ?_ q4
    cases z with
    | d x => exact dp_cutS f2 x v q2 o2
    | a r => exact o2
    | w es => cases q2
    | s es => cases q2
    | k _ _ => cases q2
    | e _ _ _ _ => cases q2
    | z _ _ => cases q2
end
end Ec

set_option Elab.async false
set_option linter.all false
set_option maxRecDepth 100000
set_option maxHeartbeats 4000000
/-! the law's own call, from a promise that knows the guards; repr of data -/
namespace Ec
open PySem PySem.Spec PyProof.Rows L2
/-- what may be tracked at the law's call: the script, if it is not the module's own -/
theorem entry_hp {P : Program} {w : World} {K : PySem.W.Frag} {h : Heap} {a : Addr} {vs : List Value} {ns : List Int} (KX : K.In h) (ha : h.get? a = some { cls := .type "list", data := .seq vs.toArray }) (hi : IntsAre vs ns) (hl : ns.length ≤ sizeLine) :
    ∃ H : Hp, L2.Only H ∧ SqL K H a (ns.map V.int) ∧ HOk P w H h ∧ (∀ b, H b ≠ none → b = a) ∧ (H a ≠ none → K.lookup a = none) := by
  have rv := vals_ints hi
  cases hk : K.lookup a with
  | some o =>
    have e := (KX a o hk).symm.trans ha
    cases e
    exact ⟨fun _ => none, fun _ => .inl rfl, .inr ⟨_, vs.toArray, _, hk, rfl, rfl, rfl, by rw [List.size_toArray, hi.length]; exact hl, by simpa using rv⟩, (fun _ _ z => by cases z), fun _ z => absurd rfl z, fun z => absurd rfl z⟩
  | none =>
    let H : Hp := upd (fun _ => none) a (.frz { cls := .type "list", data := .seq vs.toArray } (.lst (ns.map V.int)))
    have at_ : ∀ b, b ≠ a → H b = none := fun b hb => upd_ne hb
    refine ⟨H, fun b => ?_, .inl (.inr ⟨_, upd_same⟩), fun b u z => ?_, fun b z => ?_, fun _ => rfl⟩
    · by_cases hb : b = a
      · subst hb
        exact .inr ⟨_, _, upd_same⟩
      · exact .inl (at_ b hb)
    · by_cases hb : b = a
      · subst hb
        cases (upd_same.symm.trans z : some _ = some u)
        exact ⟨ha, by rw [List.length_map]; exact hl, vs, _, rv, ha⟩
      · cases (at_ b hb).symm.trans z
    · by_cases hb : b = a
      · exact hb
      · exact absurd (at_ b hb) z
theorem law_g {P : Program} {w : World} {K : PySem.W.Frag} {mg mb : Str → Option Value} {k : Nat} {fa a : Addr} {fd : FuncData} {x : Str} {sp : Sp} {s₁ : Shared} {vs : List Value} {ns : List Int}
    (KX : K.In s₁.heap) (hns : s₁.heap.Ns mainGlobals mg) (hb : s₁.heap.Ns builtinsNs mb) (hbb : ∀ x : Str, x ≠ "__name__" → mb x = bootBuiltins x) (hlim : s₁.heap.NoLimit) (hg : s₁.gens = #[])
    (ha : s₁.heap.get? a = some { cls := .type "list", data := .seq vs.toArray }) (hi : IntsAre vs ns) (hl : ns.length ≤ sizeLine) (hr : Room k callerA)
    (F : ∀ base : Heap, K.In base → base.Ns mainGlobals mg → FnG P w K mg base CX0 k fa fd [x] sp) (hbind : ∀ (s : Shared) (u : Value), BindsTo s fd ⟨[u], []⟩ [(x, u)])
    (hsp : ∀ H : Hp, L2.Only H → SqL K H a (ns.map V.int) → sp [.ref a] H (fun v _ => v = .bl true) fun _ _ _ => False) :
    codeAny (model P w) callerA (.call (.ref fa) ⟨[.ref a], []⟩) (fun r s' => r = .ok (.ret (.bool true)) ∧ OldK s₁.heap s'.heap ∧ s'.os = s₁.os ∧ AllBare s'.gens) s₁ := by
  obtain ⟨H, hO, hS, hok, hA, hK⟩ := entry_hp (P := P) (w := w) KX ha hi hl
  have off : ∀ {b : Addr} {o : Obj}, s₁.heap.get? b = some o → (b = a → False) → (hidT s₁.heap H).get? b = some o := fun {b o} e n => hidT_get e (by
    cases q : H b with
    | none => rfl
    | some u => exact (n (hA b (by rw [q]; simp))).elim)
  have nsOff : ∀ {b : Addr} {m : Str → Option Value}, s₁.heap.Ns b m → (hidT s₁.heap H).Ns b m := fun {b m} ⟨o, es, ep, e, d, r⟩ => ⟨o, es, ep, off e (fun z => by
    subst z
    rw [ha] at e
    cases e
    cases (show Data.seq vs.toArray _ = Data.dict es ep from d)), d, r⟩
  have hKb : K.In (hidT s₁.heap H) := fun b o e => by
    cases q : H b with
    | none => exact hidT_get (KX b o e) q
    | some u =>
      have z := hA b (by rw [q]; simp)
      subst z
      rw [hK (by rw [q]; simp)] at e
      cases e
  obtain ⟨mc, l1, l2⟩ := hlim
  have e0 : Env0 P w K mg (hidT s₁.heap H) callerA [] s₁ H := ⟨rfl, ⟨hKb, nsOff hns, ⟨mb, nsOff hb, hbb⟩, ⟨mc, nsOff l1, l2⟩⟩, fun b o e => of_hidT e, Nat.le_of_eq (hidT_size _ _), trivial, fun b z => absurd (show b ∈ ([] : List Addr) from z) (by simp), hok, .of_eq hg⟩
  refine codeAny_mono ((F _ hKb (nsOff hns)).run callerA [] s₁ H ⟨[.ref a], []⟩ [.ref a] [.ref a] _ _ hr rfl e0 (hbind s₁ (.ref a)) (.cons rfl .nil) (hsp H hO hS)) fun r s' h => ?_
  match r, h with
  | .error e, h => exact h.elim
  | .ok .next, h => exact h.elim
  | .ok .brk, h => exact h.elim
  | .ok .cont, h => exact h.elim
  | .ok (.ret u), ⟨v, H', os, bare, un, hok', r', q⟩ =>
    have q' : v = .bl true := q
    subst q'
    obtain rfl : u = Value.bool true := r'
    refine ⟨rfl, OldK.of_keep fun b o e => ?_, os, bare⟩
    rcases hO b with z | ⟨ob, xs, z⟩
    · exact un.keep b o e z (fun m => absurd (show b ∈ ([] : List Addr) from m) (by simp)) (by simp)
    · obtain ⟨e1, _⟩ := hok b _ z
      obtain ⟨e2, _⟩ := hok' b _ (un.frzs b ob _ z)
      rw [e] at e1
      cases e1
      exact e2
theorem walk_g {l : PySem.W.OpenLaw} {n k : Nat} {q : Program} {loose : List Str} {XP : (Str → Option Value) → Heap → Prop} {YP : World → Heap → Prop} {d : DefRec} {K : Params → PySem.W.Frag} {sp : World → Sp} {x : Str}
    (hn : l.most = some n) (hn2 : n ≤ sizeLine) (hdf : d.params.defaults = []) (hr : Room k callerA)
    (hY : ∀ (w : World) (h : Heap), YP w h → (K w.params).In h)
    (F : ∀ (w : World) (mg : Str → Option Value) (fa : Addr) (h : Heap), (K w.params).In h → h.Ns mainGlobals mg → mg d.name = some (.ref fa) →
      ∃ fd : FuncData, (∀ (s : Shared) (u : Value), BindsTo s fd ⟨[u], []⟩ [(x, u)]) ∧
        ∀ base : Heap, (K w.params).In base → base.Ns mainGlobals mg → FnG l.prog w (K w.params) mg base CX0 k fa fd [x] (sp w))
    (hsp : ∀ (w : World) (H : Hp) (a : Addr) (ns : List Int), ns.length ≤ n → L2.Only H → SqL (K w.params) H a (ns.map V.int) → sp w [.ref a] H (fun v _ => v = .bl true) fun _ _ _ => False) :
    PySem.W.WalkO q loose XP YP l.row.toRowW d [] (fun f vs => PySem.call f vs) :=
  Att.attach_call hn hdf fun w s₀ s₁ mg mb fa o pm cd doc a vs ns G Y ho hd hcd hmg hobj hints hlen hg => by
    obtain ⟨fd, hb, hF⟩ := F w mg fa _ (hY w _ Y) G.T.g hmg
    exact law_g (hY w _ Y) G.T.g G.T.b G.T.builtins G.T.nolimit hg hobj hints (Nat.le_trans hlen hn2) hr hF hb fun H hO hS => hsp w H a ns hlen hO hS
/-! ### repr(e) -/
section
variable {X : Cx} {δ : Dl} {μ : Cells} {e : Expr} {pos p : Pos} {Q : Vd → Cells → Prop} {mg : Str → Option Value}
theorem we_repr (B : Bl mg) (hg : Gl X "repr") (hu : X.A.units + 64 < cLine) (h : WE X e δ μ fun x μ1 => ∃ d, x = .d d ∧ d.showable = true ∧ d.hasDict = false ∧ d.depth ≤ 60 ∧ (∃ l, d = .list l ∨ d = .tuple l) ∧ d.shown.length ≤ sizeLine ∧ Q (.d (.str d.shown)) μ1) (hgd : X.A.guards = some [] := by assumption) (hm : X.mg = mg := by rfl)
    (s1 : starEach [e] X.env = (false, eval e X.env) :: starEach [] X.env := by rfl) (s2 : (backTo pos (starEach [] X.env)).any (·.1) = false := by rfl) :
    WE X (.Call (.Name "repr" p) [e] [] pos) δ μ Q := fun F H σ R QV k =>
  toE (pe_callB (call_reprD hgd hu) hg (hm ▸ B.repr) boot_repr (pa_cons (pcE X e) pa_nil s1) (by decide) (by decide) s1 s2)
    (h F H σ R _ fun v x F1 H1 μ1 w1 R1 o1 q => by
      obtain ⟨d, rfl, h1, h2, h3, h4, h5, q⟩ := q
      exact ⟨v, d, rfl, De.dp (dp_up R1.m.ex _ _ o1), h1, h2, h3, h4, h5, k _ (.d (.str d.shown)) F1 H1 μ1 w1 R1 (.str _) q⟩)
end
end Ec

set_option Elab.async false
set_option linter.all false
set_option maxRecDepth 100000
set_option maxHeartbeats 4000000
/-! a list or a tuple unpacked -/
namespace Ec
open PySem PySem.Spec PyProof.Rows L2
section
variable {X : Cx} {is : List Nat} {δ : Dl} {μ : Cells} {pos : Pos} {G : Dl → Cells → Prop}
theorem wg_lst {ts : List Expr} {k : Nat} {ds : List PyData} (hc : X.calm = true) (h : WGso X is ts (ds.map Vd.d) δ μ G) (hn : (assignEach ts X.env).length = ds.length := by rfl)
    (hst : (assignEach ts X.env).findIdx? (·.1) = none := by rfl) : WGo X is (.Tuple ts k pos) (.d (.list ds)) δ μ G := fun F H σ R v o QV c => by
  obtain ⟨a, vs, rfl, hs, hd⟩ := dp_lst o
  exact toG (pg_lst hc (pcGs X ts) hn hst) ⟨a, vs, rfl, R.m.ex.seq hs, dps_len hd, h F H σ R vs (vall_d hd) QV c⟩
theorem wg_sq {ts : List Expr} {k : Nat} {d : PyData} {ds : List PyData} (q : SqD d ds) (hc : X.calm = true) (h : WGso X is ts (ds.map Vd.d) δ μ G) (hn : (assignEach ts X.env).length = ds.length := by rfl)
    (hst : (assignEach ts X.env).findIdx? (·.1) = none := by rfl) : WGo X is (.Tuple ts k pos) (.d d) δ μ G := by
  rcases q with rfl | rfl
  · exact wg_lst hc h hn hst
  · exact wg_tup hc h hn hst
end
theorem allD_zip {α : Type} {r : PyData → α → Prop} : ∀ {ds : List PyData} {xs : List α}, AllD r ds xs → (ds.zip xs).map Prod.fst = ds ∧ (ds.zip xs).map Prod.snd = xs ∧ ∀ z ∈ ds.zip xs, r z.1 z.2
  | [], [], _ => ⟨rfl, rfl, fun _ z => by cases z⟩
  | d :: ds, x :: xs, h => by
    obtain ⟨h1, h2, h3⟩ := allD_zip h.2
    refine ⟨by rw [List.zip_cons_cons, List.map_cons, h1], by rw [List.zip_cons_cons, List.map_cons, h2], fun z m => ?_⟩
    rcases List.mem_cons.mp m with rfl | m
    · exact h.1
    · exact h3 z m
  | [], _ :: _, h => h.elim
  | _ :: _, [], h => h.elim
end Ec

set_option Elab.async false
set_option linter.all false
set_option maxRecDepth 100000
set_option maxHeartbeats 4000000
namespace Ec
/-! ### who comes: the mathematics -/
theorem filter_lt {α : Type} {p q : α → Bool} : ∀ {l : List α}, (∀ a ∈ l, p a = true → q a = true) → (∃ a ∈ l, q a = true ∧ p a = false) → (l.filter p).length < (l.filter q).length
  | [], _, h => by
    obtain ⟨a, h, _⟩ := h
    cases h
  | x :: l, h, ⟨a, ha, h1, h2⟩ => by
    have le : (l.filter p).length ≤ (l.filter q).length := by
      clear h1 h2 ha
      have hl : ∀ a ∈ l, p a = true → q a = true := fun a m => h a (List.mem_cons_of_mem _ m)
      clear h
      induction l with
      | nil => exact Nat.le_refl _
      | cons y r ih =>
        have := ih fun a m => hl a (List.mem_cons_of_mem _ m)
        have hy := hl y List.mem_cons_self
        rw [List.filter_cons, List.filter_cons]
        by_cases e : p y = true
        · rw [if_pos e, if_pos (hy e)]
          simp only [List.length_cons]
          omega
        · rw [if_neg e]
          split
          · simp only [List.length_cons]
            omega
          · exact this
    rw [List.filter_cons, List.filter_cons]
    rcases List.mem_cons.mp ha with e | m
    · subst e
      rw [h1, h2]
      simp only [if_true, Bool.false_eq_true, if_false, List.length_cons]
      omega
    · have ih := filter_lt (fun a m => h a (List.mem_cons_of_mem _ m)) ⟨a, m, h1, h2⟩
      by_cases e : p x = true
      · rw [if_pos e, if_pos (h x List.mem_cons_self e)]
        simp only [List.length_cons]
        omega
      · rw [if_neg e]
        split
        · simp only [List.length_cons]
          omega
        · exact ih
theorem rng_nodup (n : Nat) : (rng n).Nodup := by
  unfold rng
  rw [List.nodup_iff_pairwise_ne, List.pairwise_map]
  exact (List.nodup_range).imp fun h e => h (by omega)
def stp (c : Co) (t b : List Int) : List Int := (nexts c t).filter fun p => !decide (p ∈ b)
def rnds : Nat → Co → List Int → List Int → List (List Int)
  | 0, _, _, _ => []
  | n + 1, c, t, b => if stp c t b = [] then [] else stp c t b :: rnds n c (t ++ stp c t b) b
def und (c : Co) (t : List Int) : Nat := ((rng c.length).filter fun p => !decide (p ∈ t)).length
theorem mem_stp {c : Co} {t b : List Int} {p : Int} : p ∈ stp c t b ↔ (0 ≤ p ∧ p < c.length) ∧ p ∉ t ∧ comes c t p = true ∧ p ∉ b := by
  unfold stp
  rw [List.mem_filter, mem_nexts]
  simp [and_assoc]
theorem und_le (c : Co) (t : List Int) : und c t ≤ c.length := by
  unfold und
  refine Nat.le_trans (List.length_filter_le _ _) ?_
  rw [rng_len]
  exact Nat.le_refl _
theorem und_lt {c : Co} {t s : List Int} (h : ∃ x, x ∈ s ∧ x ∉ t ∧ 0 ≤ x ∧ x < c.length) : und c (t ++ s) < und c t := by
  obtain ⟨x, h1, h2, h3, h4⟩ := h
  refine filter_lt (fun a _ e => ?_) ⟨x, mem_rng.mpr ⟨h3, h4⟩, by simp [h2], by simp [h1]⟩
  simp at e ⊢
  exact e.1
theorem stp_lt {c : Co} {t b : List Int} (h : stp c t b ≠ []) : und c (t ++ stp c t b) < und c t := by
  obtain ⟨x, hx⟩ := List.exists_mem_of_ne_nil _ h
  obtain ⟨h1, h2, _⟩ := mem_stp.mp hx
  exact und_lt ⟨x, hx, h2, h1⟩
theorem stp_sum (c : Co) (t b : List Int) : (stp c t b).length + und c (t ++ stp c t b) = und c t := by
  unfold und
  have e : ∀ L : List Int, (L.filter fun p => !decide (p ∈ t ++ stp c t b)) = (L.filter fun p => !decide (p ∈ t)).filter fun p => !decide (p ∈ stp c t b) := fun L => by
    rw [List.filter_filter]
    refine List.filter_congr fun x _ => ?_
    by_cases h1 : x ∈ t <;> by_cases h2 : x ∈ stp c t b <;> simp [h1, h2]
  rw [e]
  generalize hL : ((rng c.length).filter fun p => !decide (p ∈ t)) = L
  have s : stp c t b = L.filter fun p => comes c t p && !decide (p ∈ b) := by
    unfold stp nexts
    rw [hL, List.filter_filter]
    refine List.filter_congr fun x _ => ?_
    rw [Bool.and_comm]
  have s2 : (L.filter fun p => !decide (p ∈ stp c t b)) = L.filter fun p => !(comes c t p && !decide (p ∈ b)) := List.filter_congr fun x hx => by
    simp only [s, List.mem_filter, hx, true_and]
    cases (comes c t x && !decide (x ∈ b)) <;> rfl
  rw [s2, s]
  have cnt : ∀ (f : Int → Bool) (L : List Int), (L.filter f).length + (L.filter fun p => !f p).length = L.length := fun f L => by
    induction L with
    | nil => rfl
    | cons x r ih =>
      rw [List.filter_cons, List.filter_cons]
      cases hf : f x <;> simp <;> omega
  exact cnt _ L
theorem rnds_flat : ∀ (n : Nat) (c : Co) (t b : List Int), (rnds n c t b).flatten.length ≤ und c t
  | 0, _, _, _ => Nat.zero_le _
  | n + 1, c, t, b => by
    unfold rnds
    split
    · exact Nat.zero_le _
    · rw [List.flatten_cons, List.length_append]
      have := rnds_flat n c (t ++ stp c t b) b
      have := stp_sum c t b
      omega
def AR (c : Co) (t b : List Int) : List (List Int) := rnds (c.length + 1) c t b
def cl (c : Co) (t b : List Int) : List Int := srt (t ++ (AR c t b).flatten)
theorem comes_mono {c : Co} {s t : List Int} (h : ∀ x ∈ s, x ∈ t) {p : Int} (hp : comes c s p = true) : comes c t p = true := by
  unfold comes cnt at *
  have h1 := of_decide_eq_true hp
  refine decide_eq_true (Int.le_trans h1 ?_)
  have : ∀ L : List Int, (L.filter fun x => decide (x ∈ s)).length ≤ (L.filter fun x => decide (x ∈ t)).length := fun L => by
    induction L with
    | nil => exact Nat.le_refl _
    | cons y r ih =>
      rw [List.filter_cons, List.filter_cons]
      by_cases e : y ∈ s
      · rw [if_pos (decide_eq_true e), if_pos (decide_eq_true (h y e))]
        simp only [List.length_cons]
        omega
      · rw [if_neg (by simp [e])]
        split
        · simp only [List.length_cons]
          omega
        · exact ih
  exact Int.ofNat_le.mpr (this _)
theorem comes_same {c : Co} {s t : List Int} (h : ∀ x, x ∈ s ↔ x ∈ t) (p : Int) : comes c s p = comes c t p := by
  cases h1 : comes c s p with
  | true => exact (comes_mono (fun x m => (h x).mp m) h1).symm
  | false =>
    cases h2 : comes c t p with
    | true => exact absurd (comes_mono (fun x m => (h x).mpr m) h2) (by rw [h1]; decide)
    | false => rfl
/-- nobody more comes -/
def Shut (c : Co) (b : List Int) (S : Int → Prop) : Prop := ∀ p : Int, 0 ≤ p → p < c.length → p ∉ b → (∃ t : List Int, (∀ x ∈ t, S x) ∧ comes c t p = true) → S p
theorem rnds_in {c : Co} {b : List Int} {S : Int → Prop} (hS : Shut c b S) : ∀ (n : Nat) (t : List Int), (∀ x ∈ t, S x) → ∀ x ∈ (rnds n c t b).flatten, S x
  | 0, _, _, x, h => by cases h
  | n + 1, t, ht, x, h => by
    unfold rnds at h
    split at h
    · cases h
    · rw [List.flatten_cons] at h
      have hs : ∀ y ∈ stp c t b, S y := fun y hy => by
        obtain ⟨⟨h0, h1⟩, _, h3, h4⟩ := mem_stp.mp hy
        exact hS y h0 h1 h4 ⟨t, ht, h3⟩
      rcases List.mem_append.mp h with h | h
      · exact hs x h
      · exact rnds_in hS n _ (fun y hy => (List.mem_append.mp hy).elim (ht y) (hs y)) x h
theorem rnds_end {c : Co} {b : List Int} : ∀ (n : Nat) (t : List Int), und c t < n → stp c (t ++ (rnds n c t b).flatten) b = []
  | 0, _, h => absurd h (Nat.not_lt_zero _)
  | n + 1, t, h => by
    unfold rnds
    split
    · rename_i e
      rw [List.flatten_nil, List.append_nil]
      exact e
    · rename_i e
      rw [List.flatten_cons, ← List.append_assoc]
      have := stp_lt e
      exact rnds_end n _ (by omega)
theorem shut_of {c : Co} {b t : List Int} (h : stp c t b = []) : Shut c b (fun x => x ∈ t) := fun p h0 h1 hb ⟨s, hs, hc⟩ => by
  apply Classical.byContradiction
  intro hn
  have : p ∈ stp c t b := mem_stp.mpr ⟨⟨h0, h1⟩, hn, comes_mono hs hc, hb⟩
  rw [h] at this
  cases this
theorem rnds_nodup : ∀ (n : Nat) (c : Co) (t b : List Int), (rnds n c t b).flatten.Nodup ∧ ∀ x ∈ (rnds n c t b).flatten, x ∉ t ∧ 0 ≤ x ∧ x < c.length
  | 0, _, _, _ => ⟨List.nodup_nil, fun x h => by cases h⟩
  | n + 1, c, t, b => by
    unfold rnds
    split
    · exact ⟨List.nodup_nil, fun x h => by cases h⟩
    · obtain ⟨ih, ih2⟩ := rnds_nodup n c (t ++ stp c t b) b
      rw [List.flatten_cons]
      refine ⟨List.nodup_append.mpr ⟨?_, ih, fun x h y h' e => ?_⟩, fun x h => ?_⟩
      · exact (((rng_nodup _).filter _).filter _).filter _
      · subst e
        exact (ih2 x h').1 (List.mem_append_right _ h)
      · rcases List.mem_append.mp h with h | h
        · obtain ⟨h1, h2, _⟩ := mem_stp.mp h
          exact ⟨h2, h1⟩
        · obtain ⟨h1, h2⟩ := ih2 x h
          exact ⟨fun z => h1 (List.mem_append_left _ z), h2⟩
theorem mem_srt {x : Int} {l : List Int} : x ∈ srt l ↔ x ∈ l := (srt_perm l).mem_iff
theorem mem_cl {c : Co} {t b : List Int} {x : Int} : x ∈ cl c t b ↔ x ∈ t ++ (AR c t b).flatten := mem_srt
theorem cl_in {c : Co} {t b : List Int} {S : Int → Prop} (hS : Shut c b S) (ht : ∀ x ∈ t, S x) : ∀ x ∈ cl c t b, S x := fun x h => by
  rcases List.mem_append.mp (mem_cl.mp h) with h | h
  · exact ht x h
  · exact rnds_in hS _ t ht x h
theorem cl_shut (c : Co) (t b : List Int) : Shut c b (fun x => x ∈ cl c t b) := by
  have h := shut_of (rnds_end (c := c) (b := b) (c.length + 1) t (by have := und_le c t; omega))
  intro p h0 h1 hb hc
  obtain ⟨s, hs, hc⟩ := hc
  exact mem_cl.mpr (h p h0 h1 hb ⟨s, fun x m => mem_cl.mp (hs x m), hc⟩)
theorem cl_base {c : Co} {t b : List Int} : ∀ x ∈ t, x ∈ cl c t b := fun x h => mem_cl.mpr (List.mem_append_left _ h)
theorem cl_nodup {c : Co} {t b : List Int} (h : t.Nodup) : (cl c t b).Nodup := by
  refine (srt_perm _).nodup_iff.mpr (List.nodup_append.mpr ⟨h, (rnds_nodup _ c t b).1, fun x hx y hy e => ?_⟩)
  subst e
  exact ((rnds_nodup _ c t b).2 x hy).1 hx
theorem cl_rng {c : Co} {t b : List Int} (h : ∀ x ∈ t, 0 ≤ x ∧ x < c.length) : ∀ x ∈ cl c t b, 0 ≤ x ∧ x < c.length := fun x hx => by
  rcases List.mem_append.mp (mem_cl.mp hx) with m | m
  · exact h x m
  · exact ((rnds_nodup _ c t b).2 x m).2
theorem cl_len (c : Co) (t b : List Int) : (t ++ (AR c t b).flatten).length ≤ t.length + c.length := by
  rw [List.length_append]
  have := rnds_flat (c.length + 1) c t b
  have := und_le c t
  unfold AR
  omega
theorem perm_of_mem {as bs : List Int} (h1 : as.Nodup) (h2 : bs.Nodup) (h : ∀ x, x ∈ as ↔ x ∈ bs) : as.Perm bs := (List.perm_ext_iff_of_nodup h1 h2).mpr h
/-- the one closure -/
theorem cl_one {c : Co} {t0 t b : List Int} (n0 : t0.Nodup) (n : t.Nodup) (h0 : ∀ x ∈ t0, x ∈ t) (h1 : ∀ S : Int → Prop, Shut c b S → (∀ x ∈ t0, S x) → ∀ x ∈ t, S x) (h2 : Shut c b (fun x => x ∈ t)) : srt t = cl c t0 b := by
  have pm : t.Perm (cl c t0 b) := perm_of_mem n (cl_nodup n0) fun x => ⟨h1 _ (cl_shut c t0 b) cl_base x, cl_in h2 h0 x⟩
  exact (srt_one (pm.symm.trans (srt_perm t).symm) (srt_up _) (srt_up _)).symm
/-- the people that all come, the others -/
def gr (c : Co) : List Int := cl c [] []
def nev (c : Co) : List Int := (rng c.length).filter fun p => !decide (p ∈ gr c)
end Ec

set_option Elab.async false
set_option linter.all false
namespace Ec
open PySem PySem.Spec PyProof.Rows L2
/-! ### the laws' draws -/
def boxD (x y z : Int) : List PyData := [.int x, .int y, .int z]
def BoxOk (m : Nat) (ds : List PyData) : Prop := ∃ x y z : Int, ds = boxD x y z ∧ 0 ≤ x ∧ 0 ≤ y ∧ y < 4611686018427387904 ∧ 0 ≤ z ∧ z ≤ m
theorem BoxOk.mono {m n : Nat} {ds : List PyData} (h : BoxOk m ds) (l : m ≤ n) : BoxOk n ds := by
  obtain ⟨x, y, z, e, h1, h2, h3, h4, h5⟩ := h
  exact ⟨x, y, z, e, h1, h2, h3, h4, by omega⟩
abbrev T_cell : TrD := fun xs μ R => ∃ (ns : List Int) (k : Nat), xs = [.s ns, .d (.int (k : Int))] ∧ R (.d (.int (ns.getD k 0))) μ
abbrev T_box : TrD := fun xs μ R => ∃ (ns : List Int) (k : Nat), xs = [.s ns, .d (.int (k : Int))] ∧ k ≤ 1000 ∧ ∀ q ds, BoxOk 0 ds → R (.a q) ((q, ds) :: μ)
abbrev T_takeN (lim c : Nat) : TrD := fun xs μ R => ∃ (b : Addr) (ds : List PyData) (n : Int) (m : Nat), xs = [.a b, .d (.int n)] ∧ μ = ([(b, ds)] : Cells) ∧ BoxOk m ds ∧ 0 < n ∧ n ≤ lim ∧ m ≤ 1000000000000 ∧ ∀ (r : Int) ds', 0 ≤ r → r < n → BoxOk (m + c) ds' → R (.d (.int r)) [(b, ds')]
abbrev T_take : TrD := T_takeN 10000000 1
/-- a company by the rules: friends ascending, others; needs from 0 -/
structure CoW (c : Co) : Prop where
  up : ∀ e ∈ c, e.1.Pairwise (· < ·)
  nn : ∀ e ∈ c, 0 ≤ e.2
  nb : ∀ e ∈ c, e.2 ≤ 1000
  lt : ∀ e ∈ c, ∀ x ∈ e.1, 0 ≤ x ∧ x < c.length
  no : ∀ (i : Nat) (e : List Int × Int), c[i]? = some e → (i : Int) ∉ e.1
def enD (e : List Int × Int) : PyData := .tuple [.tuple (intsD e.1), .int e.2]
def coD (c : Co) : PyData := .tuple (c.map enD)
abbrev T_crowd_of : TrD := fun xs μ R => ∃ (b : Addr) (ds : List PyData) (n m : Nat), xs = [.a b, .d (.int (n : Int))] ∧ μ = ([(b, ds)] : Cells) ∧ BoxOk m ds ∧ n ≤ 40 ∧ m + 4000 ≤ 1000000000000 ∧ ∀ c ds', c.length = n → CoW c → BoxOk (m + 4000) ds' → R (.d (coD c)) [(b, ds')]
abbrev T_crowd : TrD := fun xs μ R => ∃ (b : Addr) (ds : List PyData) (n m : Nat), xs = [.a b, .d (.int (n : Int))] ∧ μ = ([(b, ds)] : Cells) ∧ BoxOk m ds ∧ n ≤ 40 ∧ m + 5000 ≤ 1000000000000 ∧ ∀ c ds', c.length ≤ n → CoW c → BoxOk (m + 5000) ds' → R (.d (coD c)) [(b, ds')]
def CoP (n : Nat) (c : Co) : Prop := ∀ (j : Nat) (e : List Int × Int), c[j]? = some e → e.1.Sublist (rng n) ∧ (j : Int) ∉ e.1 ∧ 0 ≤ e.2 ∧ e.2 ≤ 1000
theorem CoP.add {n : Nat} {c : Co} {e : List Int × Int} (h : CoP n c) (h1 : e.1.Sublist (rng n)) (h2 : (c.length : Int) ∉ e.1) (h3 : 0 ≤ e.2) (h4 : e.2 ≤ 1000) : CoP n (c ++ [e]) := fun j x hj => by
  by_cases hl : j < c.length
  · rw [List.getElem?_append_left hl] at hj
    exact h j x hj
  · rw [List.getElem?_append_right (by omega)] at hj
    have hz : j - c.length = 0 := by
      have := (List.getElem?_eq_some_iff.mp hj).1
      simp at this
      omega
    rw [hz] at hj
    cases hj
    rw [show j = c.length by omega]
    exact ⟨h1, h2, h3, h4⟩
theorem sub_rng {n : Nat} {l : List Int} (h : l.Sublist (rng n)) : l.Pairwise (· < ·) ∧ (∀ x ∈ l, 0 ≤ x ∧ x < n) ∧ l.length ≤ n := by
  refine ⟨?_, fun x hx => mem_rng.mp (h.mem hx), ?_⟩
  · refine List.Pairwise.sublist h ?_
    unfold rng
    rw [List.pairwise_map]
    exact List.pairwise_lt_range.imp fun h => by omega
  · have := h.length_le
    rw [rng_len] at this
    exact this
theorem rng_take_succ {n i : Nat} (h : i < n) : (rng n).take (i + 1) = (rng n).take i ++ [(i : Int)] := by
  rw [List.take_add_one]
  have : (rng n)[i]? = some (i : Int) := by
    unfold rng
    rw [List.getElem?_map, List.getElem?_range h]
    rfl
  rw [this]
  rfl
theorem CoP.whole {c : Co} (h : CoP c.length c) : CoW c where
  up := fun e he => by
    obtain ⟨j, hj⟩ := List.mem_iff_getElem?.mp he
    exact (sub_rng (h j e hj).1).1
  nn := fun e he => by
    obtain ⟨j, hj⟩ := List.mem_iff_getElem?.mp he
    exact (h j e hj).2.2.1
  nb := fun e he => by
    obtain ⟨j, hj⟩ := List.mem_iff_getElem?.mp he
    exact (h j e hj).2.2.2
  lt := fun e he => by
    obtain ⟨j, hj⟩ := List.mem_iff_getElem?.mp he
    exact (sub_rng (h j e hj).1).2.1
  no := fun j e hj => (h j e hj).2.1
/-! ### the program's promises -/
abbrev T_cnt : TrD := fun xs μ R => ∃ dc c p dt t, xs = [.d dc, .d (.int p), .d dt] ∧ CoD dc c ∧ 0 ≤ p ∧ p < c.length ∧ SqD dt (intsD t) ∧ R (.d (.int (cnt c t p))) μ
abbrev T_can : TrD := fun xs μ R => ∃ dc c p dt t, xs = [.d dc, .d (.int p), .d dt] ∧ CoD dc c ∧ 0 ≤ p ∧ p < c.length ∧ SqD dt (intsD t) ∧ R (.d (.bool (comes c t p))) μ
abbrev T_next : TrD := fun xs μ R => ∃ dc c dt t, xs = [.d dc, .d dt] ∧ CoD dc c ∧ SqD dt (intsD t) ∧ ∀ q, R (.a q) ((q, intsD (nexts c t)) :: μ)
abbrev tups (rs : List (List Int)) : List PyData := rs.map fun r => .tuple (intsD r)
abbrev T_rounds : TrD := fun xs μ R => ∃ dc c dt t db b, xs = [.d dc, .d dt, .d db] ∧ CoD dc c ∧ SqD dt (intsD t) ∧ SqD db (intsD b) ∧ t.length ≤ 1000 ∧ ∀ q, R (.a q) ((q, tups (AR c t b)) :: μ)
abbrev T_closure : TrD := fun xs μ R => ∃ dc c dt t db b, xs = [.d dc, .d dt, .d db] ∧ CoD dc c ∧ SqD dt (intsD t) ∧ SqD db (intsD b) ∧ t.length + c.length < 64 ∧ R (.d (.tuple (intsD (cl c t b)))) μ
abbrev T_great : TrD := fun xs μ R => ∃ dc c, xs = [.d dc] ∧ CoD dc c ∧ c.length < 64 ∧ R (.d (.tuple (intsD (gr c)))) μ
abbrev T_without : TrD := fun xs μ R => ∃ dc c db b, xs = [.d dc, .d db] ∧ CoD dc c ∧ SqD db (intsD b) ∧ c.length < 64 ∧ R (.d (.tuple (intsD (cl c [] b)))) μ
abbrev T_never : TrD := fun xs μ R => ∃ dc c, xs = [.d dc] ∧ CoD dc c ∧ c.length < 64 ∧ R (.d (.tuple (intsD (nev c)))) μ
def posb (c : Co) (t : List Int) : Bool := decide (cl c [] ((rng c.length).filter fun p => !decide (p ∈ t)) = t)
abbrev T_poss : TrD := fun xs μ R => ∃ dc c dt t, xs = [.d dc, .d dt] ∧ CoD dc c ∧ SqD dt (intsD t) ∧ c.length < 64 ∧ R (.d (.bool (posb c t))) μ
theorem asc_len {b : Int} : ∀ {l : List Int} {a : Int}, l.Pairwise (· < ·) → (∀ x ∈ l, a ≤ x ∧ x < b) → l.length ≤ (b - a).toNat
  | [], _, _, _ => Nat.zero_le _
  | x :: l, a, h, hb => by
    obtain ⟨h1, h2⟩ := List.pairwise_cons.mp h
    have hx := hb x List.mem_cons_self
    have := asc_len (a := x + 1) (b := b) h2 fun y hy => by
      have := h1 y hy
      have := hb y (List.mem_cons_of_mem _ hy)
      omega
    rw [List.length_cons]
    omega
theorem enD_ok (e : List Int × Int) : EnD (enD e) e := ⟨_, .inr rfl, .inr rfl⟩
theorem coD_ok {c : Co} (hl : c.length ≤ 40) (hw : CoW c) : CoD (coD c) c where
  sq := ⟨_, .inr rfl, by
    have : ∀ l : Co, AllD EnD (l.map enD) l := fun l => by
      induction l with
      | nil => trivial
      | cons e r ih => exact ⟨enD_ok e, ih⟩
    exact this c⟩
  len := by omega
  frs := fun e he => by
    have h1 := hw.up e he
    have h2 := hw.lt e he
    have := asc_len h1 h2
    omega
theorem canLays_ints : ∀ ns : List Int, PyData.canLayAll0 (intsD ns) = true
  | [] => rfl
  | n :: ns => by
    show (PyData.canLay0 (.int n) && PyData.canLayAll0 (intsD ns)) = true
    rw [canLays_ints ns]
    rfl
theorem depth_ints : ∀ ns : List Int, PyData.depthAll (intsD ns) = 0
  | [] => rfl
  | n :: ns => by
    have := depth_ints ns
    simp only [intsD, List.map_cons, PyData.depthAll] at this ⊢
    rw [this]
    rfl
theorem shaped_tup (ns : List Int) : SeqAt.shaped (.tuple (intsD ns)) = true := by
  unfold SeqAt.shaped
  rw [Bool.and_eq_true_iff]
  refine ⟨canLays_ints ns, decide_eq_true ?_⟩
  simp only [PyData.depth, depth_ints]
  decide
theorem shaped_lst (ns : List Int) : SeqAt.shaped (.list (intsD ns)) = true := by
  unfold SeqAt.shaped
  rw [Bool.and_eq_true_iff]
  refine ⟨canLays_ints ns, decide_eq_true ?_⟩
  simp only [PyData.depth, depth_ints]
  decide
theorem eqvAll_ints : ∀ as bs : List Int, PyData.eqvAll (intsD as) (intsD bs) = decide (as = bs)
  | [], [] => rfl
  | [], b :: bs => rfl
  | a :: as, [] => rfl
  | a :: as, b :: bs => by
    show (PyData.eqv (.int a) (.int b) && PyData.eqvAll (intsD as) (intsD bs)) = _
    rw [eqvAll_ints as bs]
    simp only [PyData.eqv, List.cons.injEq, Bool.decide_and]
    congr 1
theorem eqv_tup (as bs : List Int) : PyData.eqv (.tuple (intsD as)) (.tuple (intsD bs)) = decide (as = bs) := eqvAll_ints as bs
theorem eqv_lst (as bs : List Int) : PyData.eqv (.list (intsD as)) (.list (intsD bs)) = decide (as = bs) := eqvAll_ints as bs
end Ec

set_option Elab.async false
set_option linter.all false
namespace Ec
open PySem PySem.Spec PyProof.Rows L2
abbrev T_closed : TrD := fun xs μ R => ∃ dc c dt t db b, xs = [.d dc, .d dt, .d db] ∧ CoD dc c ∧ SqD dt (intsD t) ∧ SqD db (intsD b) ∧ t.Nodup ∧ t.length + c.length < 64 ∧ ∀ q, R (.a q) ((q, intsD (cl c t b)) :: μ)
abbrev T_some : TrD := fun xs μ R => ∃ (b : Addr) (ds : List PyData) (dc : PyData) (c : Co) (m : Nat), xs = [.a b, .d dc] ∧ μ = ([(b, ds)] : Cells) ∧ CoD dc c ∧ c.length ≤ 40 ∧ BoxOk m ds ∧ m + 100 ≤ 1000000000000 ∧ ∀ (t : List Int) ds', t.Sublist (rng c.length) → BoxOk (m + 100) ds' → R (.d (.tuple (intsD t))) [(b, ds')]
/-- on the way to the closure -/
structure Cls (c : Co) (t b tt : List Int) : Prop where
  nd : tt.Nodup
  base : ∀ x ∈ t, x ∈ tt
  low : ∀ S : Int → Prop, Shut c b S → (∀ x ∈ t, S x) → ∀ x ∈ tt, S x
  len : tt.length + und c tt ≤ t.length + c.length
theorem Cls.start {c : Co} {t b : List Int} (h : t.Nodup) : Cls c t b t := ⟨h, fun _ h => h, fun _ _ h => h, by have := und_le c t; omega⟩
theorem Cls.add {c : Co} {t b tt : List Int} {i : Int} (h : Cls c t b tt) (h0 : 0 ≤ i) (h1 : i < c.length) (h2 : i ∉ tt) (h3 : i ∉ b) (h4 : comes c tt i = true) : Cls c t b (tt ++ [i]) where
  nd := List.nodup_append.mpr ⟨h.nd, by simp, fun x hx y hy e => by
    rw [List.mem_singleton] at hy
    subst hy
    subst e
    exact h2 hx⟩
  base := fun x m => List.mem_append_left _ (h.base x m)
  low := fun S hS ht x m => by
    rcases List.mem_append.mp m with m | m
    · exact h.low S hS ht x m
    · rw [List.mem_singleton] at m
      subst m
      exact hS x h0 h1 h3 ⟨tt, h.low S hS ht, h4⟩
  len := by
    have := und_lt (c := c) (t := tt) (s := [i]) ⟨i, List.mem_singleton.mpr rfl, h2, h0, h1⟩
    have := h.len
    rw [List.length_append, List.length_singleton]
    omega
/-- data that fits the walk down: depth, widths -/
def fits : Nat → PyData → Bool
  | _, .none => true
  | _, .bool _ => true
  | _, .int _ => true
  | _, .str x => SeqAt.shaped (.str x)
  | 0, .list _ => false
  | 0, .tuple _ => false
  | n + 1, .list ds => decide (ds.length ≤ 1000) && ds.all (fits n)
  | n + 1, .tuple ds => decide (ds.length ≤ 1000) && ds.all (fits n)
  | _, .dict _ => false
abbrev T_same (n : Nat) : TrD := fun xs μ R => ∃ d, xs = [.d d, .d d] ∧ fits n d = true ∧ R (.d (.bool true)) μ
theorem all_true {α : Type} (l : List α) : ((l.map fun _ => true).all id) = true := by
  rw [List.all_map]
  exact List.all_eq_true.mpr fun _ _ => rfl
theorem zip_self (ds : List PyData) : zipD ds ds = ds.map fun d => .tuple [d, d] := by
  unfold zipD
  induction ds with
  | nil => rfl
  | cons d r ih =>
    rw [List.zipWith_cons_cons, ih]
    rfl
theorem filt_all {α : Type} (l : List α) : l.filter (fun _ => true) = l := List.filter_eq_self.mpr fun _ _ => rfl
theorem eqv_ii (i : Int) : PyData.eqv (.int i) (.int i) = true := by simp [PyData.eqv]
theorem eqv_bb (i : Bool) : PyData.eqv (.bool i) (.bool i) = true := by simp [PyData.eqv]
theorem eqv_ss (i : Str) : PyData.eqv (.str i) (.str i) = true := by simp [PyData.eqv]
theorem eqv_nn : PyData.eqv .none .none = true := by simp [PyData.eqv]
theorem fits_ints (n : Nat) (ns : List Int) (h : ns.length ≤ 1000) : fits (n + 1) (.list (intsD ns)) = true ∧ fits (n + 1) (.tuple (intsD ns)) = true := by
  have : (intsD ns).all (fits n) = true := List.all_eq_true.mpr fun d hd => by
    obtain ⟨i, _, rfl⟩ := List.mem_map.mp hd
    unfold fits
    rfl
  unfold fits
  rw [this, List.length_map]
  simp [h]

end Ec

set_option Elab.async false
set_option linter.all false
set_option maxRecDepth 100000
set_option maxHeartbeats 4000000
namespace Ec
open PySem PySem.Spec PyProof.Rows L2
section
variable {X : Cx} {δ : Dl} {μ : Cells} {e a b : Expr} {pos p : Pos} {Q : Vd → Cells → Prop} {D : Dn} {sts : List Stmt}
theorem wts_nil {Q : Bool → Cells → Prop} (h : Q true μ) : WTs X [] δ μ Q := h
/-! ### cells in another order -/
theorem fw_perm0 {K : PySem.W.Frag} {F H : Hp} {μ μ' : Cells} (p : μ.Perm μ') : Fw (ks μ) (ks μ') F H F H := (Fw.refl (bs := ks μ) (F := F) (H := H)).perm (K := K) p
theorem wb_perm {μ' : Cells} (p : μ.Perm μ') (h : WB X sts δ μ' D) : WB X sts δ μ D := fun F H σ R De b =>
  h F H σ (R.perm p) De (b.next (fw_perm0 (K := X.K) p))
theorem we_perm {μ' : Cells} (p : μ.Perm μ') (h : WE X e δ μ' Q) : WE X e δ μ Q := fun F H σ R QV c =>
  h F H σ (R.perm p) QV fun v x F1 H1 μ1 w1 R1 o1 q => c v x F1 H1 μ1 ((fw_perm0 (K := X.K) p).trans w1) R1 o1 q
theorem we_permR (h : WE X e δ μ fun x μ1 => ∃ μ2, μ1.Perm μ2 ∧ Q x μ2) : WE X e δ μ Q := fun F H σ R QV c =>
  h F H σ R QV fun v x F1 H1 μ1 w1 R1 o1 q => by
    obtain ⟨μ2, p, q⟩ := q
    exact c v x F1 H1 μ2 (w1.perm (K := X.K) p) (R1.perm p) o1 q
/-- cells at the head are forgotten behind an expression -/
theorem we_keep (h : WE X e δ μ fun x μ1 => Keep μ1 (Q x)) : WE X e δ μ Q := fun F H σ R QV c =>
  h F H σ R QV fun v x F1 H1 μ1 w1 R1 o1 q => by
    obtain ⟨k, w2, m2, q⟩ := RpM.kept w1 R1.m q
    exact c v x F1 H1 k w2 (R1.to (Same.refl _) m2) o1 q
theorem wt_keep {T : Bool → Cells → Prop} (h : WT X e δ μ fun x μ1 => Keep μ1 (T x)) : WT X e δ μ T := fun F H σ R QV c =>
  h F H σ R QV fun v F1 H1 μ1 w1 R1 q => by
    obtain ⟨k, w2, m2, q⟩ := RpM.kept w1 R1.m q
    exact c v F1 H1 k w2 (R1.to (Same.refl _) m2) q
end
/-! ### a company as a list of lists -/
def enL (e : List Int × Int) : List PyData := [.list (intsD e.1), .int e.2]
def trC (ps : List Addr) (c : Co) : Cells := List.zipWith (fun p e => (p, Cont.l (enL e))) ps c
def coL (c : Co) : PyData := .list (c.map fun e => .list (enL e))
theorem trC_get {ps : List Addr} {c : Co} {i : Nat} {p : Addr} {e : List Int × Int} (h1 : ps[i]? = some p) (h2 : c[i]? = some e) : (trC ps c)[i]? = some (p, Cont.l (enL e)) := by
  unfold trC
  rw [List.getElem?_zipWith, h1, h2]
theorem trC_add {ps : List Addr} {c : Co} {p : Addr} {e : List Int × Int} (h : ps.length = c.length) : trC (ps ++ [p]) (c ++ [e]) = trC ps c ++ [(p, Cont.l (enL e))] := by
  unfold trC
  rw [List.zipWith_append h]
  rfl
theorem trC_set {ps : List Addr} {c : Co} {i : Nat} {p : Addr} {e : List Int × Int} (h : ps[i]? = some p) : (trC ps c).set i (p, Cont.l (enL e)) = trC ps (c.set i e) := by
  refine List.ext_getElem? fun j => ?_
  unfold trC
  by_cases hj : i = j
  · subst hj
    rw [List.getElem?_zipWith, h]
    by_cases hl : i < c.length
    · have hz : i < (List.zipWith (fun p e => (p, Cont.l (enL e))) ps c).length := by
        rw [List.length_zipWith]
        have := (List.getElem?_eq_some_iff.mp h).1
        omega
      rw [List.getElem?_set_self hl, List.getElem?_set_self hz]
    · rw [List.getElem?_eq_none (by rw [List.length_set, List.length_zipWith]; omega), List.getElem?_eq_none (by rw [List.length_set]; omega)]
  · rw [List.getElem?_set_ne hj, List.getElem?_zipWith, List.getElem?_zipWith, List.getElem?_set_ne hj]
theorem litems_tr {μ : Cells} : ∀ {ps : List Addr} {c : Co}, ps.length = c.length → (∀ y ∈ trC ps c, ∃ i : Nat, μ[i]? = some y) → LItems μ (ps.map ptr) (c.map fun e => .list (enL e))
  | [], [], _, _ => .nil
  | p :: ps, e :: c, h, hm => by
    have h1 : (p, Cont.l (enL e)) ∈ trC (p :: ps) (e :: c) := List.mem_cons_self
    obtain ⟨i, hi⟩ := hm _ h1
    refine .cons (.q i hi ?_) (litems_tr (by simpa using h) fun y hy => hm y (List.mem_cons_of_mem _ hy))
    exact plS_cons rfl (plS_cons rfl plS_nil)
  | [], _ :: _, h, _ => by simp at h
  | _ :: _, [], h, _ => by simp at h
theorem coL_ok {c : Co} (hl : c.length ≤ 1000) (hf : ∀ e ∈ c, e.1.length ≤ 1000) : CoD (coL c) c where
  sq := ⟨_, .inl rfl, by
    have : ∀ l : Co, AllD EnD (l.map fun e => .list (enL e)) l := fun l => by
      induction l with
      | nil => trivial
      | cons e r ih => exact ⟨⟨_, .inl rfl, .inl rfl⟩, ih⟩
    exact this c⟩
  len := hl
  frs := hf
theorem coD_ok' {c : Co} (hl : c.length ≤ 1000) (hf : ∀ e ∈ c, e.1.length ≤ 1000) : CoD (coD c) c where
  sq := ⟨_, .inr rfl, by
    have : ∀ l : Co, AllD EnD (l.map enD) l := fun l => by
      induction l with
      | nil => trivial
      | cons e r ih => exact ⟨enD_ok e, ih⟩
    exact this c⟩
  len := hl
  frs := hf
theorem CoW.frs {c : Co} (h : CoW c) (hl : c.length ≤ 40) : ∀ e ∈ c, e.1.length ≤ 1000 := fun e he => by
  have := asc_len (h.up e he) (h.lt e he)
  omega
/-! ### nested lists of data -/
mutual
def lsD : PyData → PyData
  | .list ds => .list (lsDs ds)
  | .tuple ds => .list (lsDs ds)
  | d => d
def lsDs : List PyData → List PyData
  | [] => []
  | d :: ds => lsD d :: lsDs ds
end
theorem lsDs_map : ∀ ds : List PyData, lsDs ds = ds.map lsD
  | [] => rfl
  | d :: ds => by
    unfold lsDs
    rw [lsDs_map ds]
    rfl
theorem lsD_ints (ns : List Int) : (intsD ns).map lsD = intsD ns := by
  unfold intsD
  rw [List.map_map]
  refine List.map_congr_left fun i _ => ?_
  rfl
theorem plS_ls {ds : List PyData} {n : Nat} (h : ∀ x ∈ ds, fits n x = true) : plS (ds.map lsD) := fun d m => by
  obtain ⟨x, hx, rfl⟩ := List.mem_map.mp m
  have := h x hx
  cases x <;> first | rfl | (cases n <;> simp [fits] at this)
abbrev T_lists (n : Nat) : TrD := fun xs μ R => ∃ d, xs = [.d d] ∧ fits n d = true ∧ ((∃ ds, (d = .list ds ∨ d = .tuple ds) ∧ ∀ q, R (.a q) ((q, ds.map lsD) :: μ)) ∨ (isLi (.d d) || isTu (.d d)) = false ∧ R (.d d) μ)
abbrev T_tree : TrD := fun xs μ R => ∃ c, xs = [.d (coD c)] ∧ c.length ≤ 40 ∧ (∀ e ∈ c, e.1.length ≤ 1000) ∧ ∀ r ps, ps.length = c.length → R (.a r) ((r, ps.map ptr) :: trC ps c ++ μ)
theorem enD_fits {e : List Int × Int} (h : e.1.length ≤ 1000) : fits 2 (enD e) = true := by
  have := (fits_ints 0 e.1 h).2
  unfold enD fits
  simp only [List.all_cons, this, List.all_nil]
  rfl
theorem enD_ls (e : List Int × Int) : ([.tuple (intsD e.1), .int e.2] : List PyData).map lsD = enL e := by
  show [lsD (.tuple (intsD e.1)), lsD (.int e.2)] = _
  unfold lsD
  rw [lsDs_map, lsD_ints]
  rfl
/-! ### shapes by fits -/
theorem canLays_all : ∀ {ds : List PyData}, (∀ d ∈ ds, d.canLay0 = true) → PyData.canLayAll0 ds = true
  | [], _ => rfl
  | d :: ds, h => by
    show (PyData.canLay0 d && PyData.canLayAll0 ds) = true
    rw [h d List.mem_cons_self, canLays_all fun x m => h x (List.mem_cons_of_mem _ m)]
    rfl
theorem depths_le {k : Nat} : ∀ {ds : List PyData}, (∀ d ∈ ds, d.depth ≤ k) → PyData.depthAll ds ≤ k
  | [], _ => Nat.zero_le _
  | d :: ds, h => by
    simp only [PyData.depthAll]
    exact Nat.max_le.mpr ⟨h d List.mem_cons_self, depths_le fun x m => h x (List.mem_cons_of_mem _ m)⟩
theorem eqvs_self : ∀ {ds : List PyData}, (∀ d ∈ ds, PyData.eqv d d = true) → PyData.eqvAll ds ds = true
  | [], _ => rfl
  | d :: ds, h => by
    show (PyData.eqv d d && PyData.eqvAll ds ds) = true
    rw [h d List.mem_cons_self, eqvs_self fun x m => h x (List.mem_cons_of_mem _ m)]
    rfl
theorem fits_all : ∀ (n : Nat) (d : PyData), fits n d = true → d.canLay0 = true ∧ d.depth ≤ n ∧ PyData.eqv d d = true
  | n, .none, _ => ⟨rfl, Nat.zero_le _, eqv_nn⟩
  | n, .bool b, _ => ⟨rfl, Nat.zero_le _, eqv_bb b⟩
  | n, .int i, _ => ⟨rfl, Nat.zero_le _, eqv_ii i⟩
  | n, .str x, h => by
    have h' : SeqAt.shaped (.str x) = true := by
      unfold fits at h
      exact h
    unfold SeqAt.shaped at h'
    rw [Bool.and_eq_true_iff] at h'
    exact ⟨h'.1, Nat.zero_le _, eqv_ss x⟩
  | 0, .list ds, h => by simp [fits] at h
  | 0, .tuple ds, h => by simp [fits] at h
  | n, .dict ds, h => by simp [fits] at h
  | n + 1, .list ds, h => by
    simp [fits] at h
    have ih := fun d m => fits_all n d (h.2 d m)
    exact ⟨canLays_all fun d m => (ih d m).1, by simp only [PyData.depth]; exact Nat.succ_le_succ (depths_le fun d m => (ih d m).2.1), eqvs_self fun d m => (ih d m).2.2⟩
  | n + 1, .tuple ds, h => by
    simp [fits] at h
    have ih := fun d m => fits_all n d (h.2 d m)
    exact ⟨canLays_all fun d m => (ih d m).1, by simp only [PyData.depth]; exact Nat.succ_le_succ (depths_le fun d m => (ih d m).2.1), eqvs_self fun d m => (ih d m).2.2⟩
theorem fits_shaped {n : Nat} {d : PyData} (h : fits n d = true) (hn : n ≤ 64 := by decide) : SeqAt.shaped d = true := by
  obtain ⟨h1, h2, _⟩ := fits_all n d h
  unfold SeqAt.shaped
  rw [h1, Bool.true_and]
  exact decide_eq_true (Nat.le_trans h2 hn)
theorem fits_eqv {n : Nat} {d : PyData} (h : fits n d = true) : PyData.eqv d d = true := (fits_all n d h).2.2
theorem fits_tup {n : Nat} {ds : List PyData} (hl : ds.length ≤ 1000) (h : ∀ d ∈ ds, fits n d = true) : fits (n + 1) (.tuple ds) = true := by
  unfold fits
  rw [decide_eq_true hl, List.all_eq_true.mpr h]
  rfl
theorem fits_lst {n : Nat} {ds : List PyData} (hl : ds.length ≤ 1000) (h : ∀ d ∈ ds, fits n d = true) : fits (n + 1) (.list ds) = true := by
  unfold fits
  rw [decide_eq_true hl, List.all_eq_true.mpr h]
  rfl
theorem coD_fits {c : Co} (hl : c.length ≤ 1000) (hf : ∀ e ∈ c, e.1.length ≤ 1000) : fits 3 (coD c) = true := fits_tup (by rw [List.length_map]; exact hl) fun d m => by
  obtain ⟨e, he, rfl⟩ := List.mem_map.mp m
  exact enD_fits (hf e he)
theorem enL_fits {e : List Int × Int} (h : e.1.length ≤ 1000) : fits 2 (.list (enL e)) = true := by
  have := (fits_ints 0 e.1 h).1
  unfold enL fits
  simp only [List.all_cons, this, List.all_nil]
  rfl
theorem coL_fits {c : Co} (hl : c.length ≤ 1000) (hf : ∀ e ∈ c, e.1.length ≤ 1000) : fits 3 (coL c) = true := fits_lst (by rw [List.length_map]; exact hl) fun d m => by
  obtain ⟨e, he, rfl⟩ := List.mem_map.mp m
  exact enL_fits (hf e he)
theorem eqv_co_nil (c : Co) : PyData.eqv (coD c) (.tuple []) = decide (c = []) := by
  cases c with
  | nil => rfl
  | cons e r => rfl
/-! ### slices of data -/
theorem cutZ_take {ds : List PyData} {k : Nat} (h : k ≤ ds.length) : cutZ ds none (some (k : Int)) = ds.take k := by
  unfold cutZ
  rw [HT.sIx_none, HT.sIx_nat, Nat.min_eq_left h, Nat.sub_zero]
  rfl
theorem cutZ_drop {ds : List PyData} {k : Nat} (h : k ≤ ds.length) : cutZ ds (some (k : Int)) none = ds.drop k := by
  unfold cutZ
  rw [HT.sIx_none, HT.sIx_nat, Nat.min_eq_left h]
  exact List.take_of_length_le (by rw [List.length_drop]; exact Nat.le_refl _)
theorem co_cut {c : Co} {s : Nat} {e : List Int × Int} (h : s < c.length) : (c.map enD).take s ++ [enD e] ++ (c.map enD).drop (s + 1) = (c.set s e).map enD := by
  rw [List.set_eq_take_append_cons_drop, if_pos h, List.map_append, List.map_take, List.map_cons, List.map_drop, List.append_assoc]
  rfl
theorem nexts_nil (c : Co) : nexts c [] = (rng c.length).filter (comes c []) := by
  unfold nexts
  congr 1
  exact List.filter_eq_self.mpr fun x _ => by simp
section
variable {X : Cx} {δ : Dl} {μ : Cells}
theorem wo_none {QO : Option Int → Cells → Prop} (h : QO none μ) : WO X none δ μ QO := h
theorem wo_some {e : Expr} {QO : Option Int → Cells → Prop} (h : WE X e δ μ fun z μ1 => ∃ i, z = .d (.int i) ∧ QO (some i) μ1) : WO X (some e) δ μ QO := h
end
abbrev T_chg : TrD := fun xs μ R => ∃ (b : Addr) (ds : List PyData) (c : Co) (m : Nat), xs = [.a b, .d (coD c)] ∧ μ = ([(b, ds)] : Cells) ∧ BoxOk m ds ∧ m + 10 ≤ 1000000000000 ∧ c.length ≤ 40 ∧ (∀ e ∈ c, e.1.length ≤ 1000) ∧ ∀ ds', BoxOk (m + 10) ds' → R (.d (.bool true)) [(b, ds')]
abbrev T_right (k : Nat) : TrD := fun xs μ R => ∃ (b : Addr) (ds : List PyData) (m : Nat), xs = [.a b] ∧ μ = ([(b, ds)] : Cells) ∧ BoxOk m ds ∧ m + k ≤ 1000000000000 ∧ ∀ ds', BoxOk (m + k) ds' → R (.d (.bool true)) [(b, ds')]
section
variable {X : Cx} {δ : Dl} {μ : Cells} {D : Dn} {st : Stmt}
/-- a state between -/
theorem ws_mid (N : Dl → Cells → Prop) (h : WS X st δ μ { D with nx := N }) (k : ∀ δ' μ', N δ' μ' → D.nx δ' μ') : WS X st δ μ D := fun F H σ R De b =>
  h F H σ R De ⟨fun F' H' σ' δ' μ' w r q => b.nx F' H' σ' δ' μ' w r (k δ' μ' q), b.rt, b.bk, b.ct⟩
end
theorem srt_gr (c : Co) : srt (gr c) = gr c := (srt_eq (List.Perm.refl _) (srt_up _)).symm
theorem posb_nil (c : Co) : posb c [] = true := by
  unfold posb
  refine decide_eq_true ?_
  have e0 : srt [] = [] := by simp [srt]
  refine e0.symm.trans ?_ |>.symm
  refine (cl_one (t0 := []) (t := []) List.nodup_nil List.nodup_nil (fun x h => by cases h) (fun _ _ _ x h => by cases h) (fun p h0 h1 hb _ => ?_))
  refine absurd (List.mem_filter.mpr ⟨mem_rng.mpr ⟨h0, h1⟩, ?_⟩) hb
  simp
theorem posb_gr (c : Co) : posb c (gr c) = true := by
  unfold posb
  refine decide_eq_true ?_
  have hin : ∀ p : Int, p ∈ gr c → p ∉ (rng c.length).filter fun p => !decide (p ∈ gr c) := fun p hp z => by
    have := (List.mem_filter.mp z).2
    simp [hp] at this
  refine ((srt_gr c).symm.trans (cl_one (t0 := []) (t := gr c) List.nodup_nil (cl_nodup List.nodup_nil) (fun x h => by cases h) (fun S hS _ x hx => ?_) (fun p h0 h1 _ hc => cl_shut c [] [] p h0 h1 (by simp) hc))).symm
  have hS2 : Shut c [] (fun x => S x ∧ x ∈ gr c) := fun p h0 h1 _ ⟨t, ht, hc⟩ => by
    have hg : p ∈ gr c := cl_shut c [] [] p h0 h1 (by simp) ⟨t, fun x m => (ht x m).2, hc⟩
    exact ⟨hS p h0 h1 (hin p hg) ⟨t, fun x m => (ht x m).1, hc⟩, hg⟩
  exact (cl_in hS2 (fun x h => by cases h) x hx).1
theorem cl_le (c : Co) (b : List Int) : (cl c [] b).length ≤ c.length := by
  have := cl_len c [] b
  unfold cl
  rw [(srt_perm _).length_eq]
  simpa using this
theorem nexts_le (c : Co) (t : List Int) : (nexts c t).length ≤ c.length := by
  unfold nexts
  refine Nat.le_trans (List.length_filter_le _ _) (Nat.le_trans (List.length_filter_le _ _) ?_)
  rw [rng_len]
  exact Nat.le_refl _
theorem nev_le (c : Co) : (nev c).length ≤ c.length := by
  unfold nev
  refine Nat.le_trans (List.length_filter_le _ _) ?_
  rw [rng_len]
  exact Nat.le_refl _
theorem co_ls (c : Co) : (c.map enD).map lsD = c.map fun e => .list (enL e) := by
  rw [List.map_map]
  refine List.map_congr_left fun e _ => ?_
  show lsD (.tuple [.tuple (intsD e.1), .int e.2]) = _
  unfold lsD
  rw [lsDs_map, enD_ls]
theorem plS_of_fits {n : Nat} {ds : List PyData} (h : ∀ d ∈ ds, fits n d = true) : plS ds := fun d m => by
  have := h d m
  cases d <;> first | rfl | (cases n <;> simp [fits] at this)
abbrev T_law : TrD := fun xs μ R => ∃ ns : List Int, xs = [.s ns] ∧ ns.length ≤ 63 ∧ μ = [] ∧ R (.d (.bool true)) []
theorem law_end {K : PySem.W.Frag} {vs : List V} {H : Hp} {Q : VK} {E : XK} (h : ∃ (a : Addr) (ns : List Int), vs = [.ref a] ∧ SqL K H a (ns.map V.int) ∧ ns.length ≤ 63 ∧ ∀ H', Q (.bl true) H') : spW K T_law vs H Q E := by
  obtain ⟨a, ns, rfl, hs, hl, q⟩ := h
  refine ⟨H, [.s ns], [], fun z _ => z = .d (.bool true), ⟨Same.refl _, List.nodup_nil, fun _ _ z => by cases z⟩, .cons ⟨a, rfl, hs⟩ .nil, ⟨ns, rfl, hl, rfl, rfl⟩, fun v x F' H' μ' _ _ o e => ?_⟩
  subst e
  rw [dp_bl o]
  exact q H'
end Ec

set_option Elab.async false
set_option linter.all false
set_option maxRecDepth 100000
set_option maxHeartbeats 4000000
namespace Ec
open PySem PySem.Spec PyProof.Rows L2
/-! ### sorted of a tuple of ints -/
section
variable {prog : Program} {w : World} {A : Around} {E : Value → Shared → Prop} {s : Shared}
theorem gather_tup {t : Addr} {us : List Value} {Q : List Value → Shared → Prop} (ht : s.heap.IsTuple t us.toArray) (hz : us.length ≤ sizeLine)
    (k : Q us { s with heap := (s.heap.push (seqObj "list" #[] 0)).update s.heap.objs.size (Obj.mapSeq (· ++ us.toArray)) }) : wpAny (model prog w) A (collect (.ref t)) Q E s := by
  obtain ⟨o, e1, e2, n, e3⟩ := (show ∃ o, s.heap.get? t = some o ∧ o.cls = .type "tuple" ∧ ∃ n, o.data = .seq us.toArray n from by
    obtain ⟨o, a1, a2, n, a3⟩ := ht
    exact ⟨o, a1, a2, n, a3⟩)
  unfold collect
  refine wpAny_bind (wpAny_runValue (codeAny_builtin entry_proto_collect' (?_ : wpAny _ _ _ _ _ _)))
  have e1' : (s.heap.push (seqObj "list" #[] 0)).get? t = some o := Heap.get?_push_of_some _ e1
  refine wpAny_bind (wpAny_newList ?_)
  refine wpAny_pure ⟨Code.quiet_builtin _ (by decide +kernel), codeAny_builtin entry_list_iadd' (?_ : wpAny _ _ _ _ _ _)⟩
  have eT : (Value.type "tuple" == Value.type "tuple") = true := by rfl
  change wpAny (model prog w) _ (Builtin.List.listExtendWith (.ref s.heap.objs.size) (.ref t) (.ref _)) _ _ { s with heap := s.heap.push (seqObj "list" #[] 0) }
  unfold Builtin.List.listExtendWith
  refine wpAny_bind (wpAny_typeOf ⟨o, e1', e2⟩ ?_)
  rw [if_pos (by rw [eT, Bool.or_true])]
  have e4 : (s.heap.push (seqObj "list" #[] 0)).get? s.heap.objs.size = some (seqObj "list" #[] 0) := Heap.get?_push_size _ rfl
  refine wpAny_bind (listItems_at e1' e3 (wpAny_bind (listItems_at (xs := #[]) (n := 0) e4 rfl ?_)))
  rw [if_neg (by simp)]
  have e5 : (#[] ++ us.toArray : Array Value).size ≤ sizeLine + 1 := by
    simp only [Array.size_append, List.size_toArray, List.length_nil]
    omega
  refine wpAny_bind (listUpdate_at (xs := #[]) (n := 0) e4 rfl (wpAny_pure ?_) (Nat.zero_le _) e5)
  have e6 := get?_update_seq e4 (fun x => x ++ us.toArray)
  have e7 : ((#[] : Array Value) ++ us.toArray).toList = us := by simp
  refine wpAny_bind (wpAny_load e6 ?_)
  change wpAny _ _ (pure ((#[] : Array Value) ++ us.toArray).toList) Q E _
  rw [e7]
  exact wpAny_pure k
theorem sorted_tup {t : Addr} {us : List Value} {ns : List Int} {Q : Value → Shared → Prop} (ht : s.heap.IsTuple t us.toArray) (hI : IntsAre us ns) (h64 : us.length < 64)
    (k : ∀ (out : Array Value) (ms : List Int), IntsAre out.toList ms → ms.Perm ns → ms.Pairwise (· ≤ ·) → Q (.ref (s.heap.objs.size + 1)) { s with heap := sortedAll s.heap us out }) : wpAny (model prog w) A (call (.builtin "sorted") [.ref t]) Q E s := by
  have hz : us.length ≤ sizeLine := by rw [sizeLine_eq]; omega
  refine Calls.call_function_entry kind_sorted plain_sorted entry_sorted (args_sorted1 (.ref t)) (?_ : wpAny _ _ _ _ _ _)
  unfold Builtin.«sorted»
  refine wpAny_bind (m := checkCount _ 1 1 _) (wpAny_pure (wpAny_bind (gather_tup ht hz (wpAny_bind (wpAny_newList ?_ hz)))))
  generalize hh : (s.heap.push (seqObj "list" #[] 0)).update s.heap.objs.size (Obj.mapSeq (· ++ us.toArray)) = h1
  have z1 : h1.objs.size = s.heap.objs.size + 1 := by rw [← hh, Heap.size_update, size_push']
  have z2 : (h1.push (seqObj "list" us.toArray 0)).get? (s.heap.objs.size + 1) = some (seqObj "list" us.toArray 0) := by
    rw [← z1]
    exact Heap.get?_push_size _ rfl
  change wpAny _ _ _ _ _ { s with heap := h1.push (seqObj "list" us.toArray 0) }
  rw [z1]
  refine wpAny_bind (wpAny_holding (wpAny_call_entry slot_list_sort ⟨_, z2, rfl⟩ entry_list_sort (list_sort_tree z2 hI h64 fun out ms a1 a2 a3 => ⟨_, rfl, wpAny_pure ⟨_, rfl, ?_⟩⟩) (args_list_sort _)))
  have z3 := k out ms a1 a2 a3
  unfold sortedAll at z3
  rw [hh] at z3
  exact z3
end
section
variable {X : Cx} {δ : Dl} {μ : Cells} {e a b : Expr} {pos p : Pos} {Q : Vd → Cells → Prop} {es : List Expr} {mg : Str → Option Value}
def rSortTup (K : PySem.W.Frag) : List V → Hp → VK → Prop := fun vs H Q => ∃ (t : Addr) (ns : List Int), vs = [V.ref t] ∧ SqT K H t (ns.map V.int) ∧ ns.length < 64 ∧
  ∀ (ms : List Int) (p : Addr), ms.Perm ns → ms.Pairwise (· ≤ ·) → H p = none → Q (.ref p) (upd H p (.lst (ms.map V.int)))
theorem cr_sortTup : CallR X (.builtin "sorted") (rSortTup X.K) := by
  intro pins s σ H vs us Q I r h
  obtain ⟨t, ns, rfl, hs, h64, q⟩ := h
  obtain ⟨its, rv, hl, _⟩ := I.tuple hs
  rw [Vals.ref1 r]
  have hi := intsAre_of rv
  refine sorted_tup hl hi (by rw [hi.length]; exact h64) fun out ms h1 h2 h3 => ?_
  obtain ⟨n, e1⟩ := PyProof.Rows.sortedAll_at s.heap its out
  have hz : (ms.map V.int).length ≤ sizeLine := by
    rw [List.length_map, h2.length_eq]
    exact small64 h64
  have I2 := I.laid (t' := s.toks) (o := .lst (ms.map V.int)) (fun _ _ => PyProof.Rows.sortedAll_old) (Nat.le_succ _) ⟨hz, out.toList, n, vals_of_ints h1, e1⟩
  exact ⟨.ref (s.heap.objs.size + 1), _, I2, rfl, q ms _ h2 h3 (I.hok.fresh (Nat.le_succ _))⟩
theorem we_sortedT (B : Bl mg) (hg : Gl X "sorted") (h : WE X e δ μ fun x μ1 => ∃ ns, x = .d (.tuple (intsD ns)) ∧ ns.length < 64 ∧ ∀ p, Q (.a p) ((p, intsD (srt ns)) :: μ1)) (hm : X.mg = mg := by rfl) (s1 : starEach [e] X.env = (false, eval e X.env) :: starEach [] X.env := by rfl) (s2 : (backTo pos (starEach [] X.env)).any (·.1) = false := by rfl) :
    WE X (.Call (.Name "sorted" p) [e] [] pos) δ μ Q :=
  we_cb cr_sortTup hg (hm ▸ B.sorted) PyProof.Rows.boot_sorted (wa_one (h.mono fun x μ1 q => fun F H vs m o QV c => by
    obtain ⟨ns, rfl, hz, q⟩ := q
    cases o with
    | cons o1 o2 =>
      cases o2
      obtain ⟨a, us, rfl, hs, hd⟩ := dp_tup o1
      rw [dps_ints hd] at hs
      refine ⟨a, ns, rfl, same_t m.ex hs, hz, fun ns' l pm up nl => ?_⟩
      rw [srt_eq pm up]
      obtain ⟨m2, w2⟩ := m.cell nl (ints_dps (K := X.K) (H := F) (srt ns))
      exact c (.a l) _ _ _ _ w2 m2 rfl (q l)) s1) (he := s1) (hpl := s2)
/-! ### places of values -/
def posn (v : Int) : List Int → Nat
  | [] => 0
  | x :: r => if x = v then 0 else posn v r + 1
theorem posn_at {v : Int} : ∀ {ns : List Int}, v ∈ ns → ns[posn v ns]? = some v ∧ ∀ m : Nat, m < posn v ns → ∀ z, ns[m]? = some z → z ≠ v
  | [], h => by cases h
  | x :: r, h => by
    unfold posn
    by_cases e : x = v
    · rw [if_pos e]
      exact ⟨by rw [e]; rfl, fun m h => absurd h (Nat.not_lt_zero _)⟩
    · rw [if_neg e]
      rcases List.mem_cons.mp h with h | h
      · exact absurd h.symm e
      · obtain ⟨h1, h2⟩ := posn_at h
        refine ⟨by simpa using h1, fun m hm z hz => ?_⟩
        cases m with
        | zero =>
          simp at hz
          rw [← hz]
          exact e
        | succ m => exact h2 m (by omega) z (by simpa using hz)
theorem flatV_ints (ns : List Int) : (ns.map V.int).all flatV = true := by
  rw [List.all_map]
  exact List.all_eq_true.mpr fun _ _ => rfl
theorem mw_index {K : PySem.W.Frag} {x : Vd} {v : Int} {ns : List Int} (hx : Ct μ x (intsD ns)) (nt : ∀ ds, toC x ≠ .tuple ds) (hv : v ∈ ns) (h : Q (.d (.int (posn v ns : Nat))) μ) : MtW K (rIndex K) x [.d (.int v)] μ Q := fun F H u vs m o1 o2 QV c => by
  cases o2 with
  | cons o2 o3 =>
    cases o3
    obtain ⟨a, us, rfl, hs, hd⟩ := ct_lst m o1 hx nt
    rw [dps_ints hd] at hs
    obtain ⟨h1, h2⟩ := posn_at hv
    refine ⟨a, _, .int v, posn v ns, .int v, rfl, by rw [dp_int o2], hs, rfl, flatV_ints ns, by rw [List.getElem?_map, h1]; rfl, by simp [eqV], fun k z hk hz => ?_, c (.d (.int _)) _ F H μ Fw.refl m (.int _) h⟩
    rw [List.getElem?_map] at hz
    cases q : ns[k]? with
    | none =>
      rw [q] at hz
      cases hz
    | some y =>
      rw [q] at hz
      cases hz
      have := h2 k hk y q
      simp [eqV, this]
/-- xs.index(v), xs a list -/
theorem we_index {o : Expr} {apos cpos : Pos} (h : WE X o δ μ fun x μ1 => Lk μ1 x ∧ WE X e δ μ1 fun y μ2 => ∃ ns v, Ct μ2 x (intsD ns) ∧ (∀ ds, toC x ≠ .tuple ds) ∧ y = .d (.int v) ∧ v ∈ ns ∧ Q (.d (.int (posn v ns : Nat))) μ2)
    (hbase : attributeBase o "index" X.env (eval o X.env) = eval o X.env := by rfl)
    (hfew : ((backTo cpos (starEach [e] X.env)).all (fun x => !x.1) && (backToKw cpos (keywordEach [] X.env)).all (fun x => x.1.isSome)
      && decide ([e].length + ([] : List Keyword).length + (if ([] : List Keyword).isEmpty then 0 else 1) < 30)) = true := by rfl)
    (hline : (apos.endLine == cpos.line) = true := by rfl) (hs : starEach [e] X.env = (false, eval e X.env) :: starEach [] X.env := by rfl) (hplain : (backTo cpos (starEach [] X.env)).any (·.1) = false := by rfl) :
    WE X (.Call (.Attribute o "index" apos) [e] [] cpos) δ μ Q :=
  we_bmL PySem.F.plainAttrs_list PySem.F.slot_list_index PySem.F.type_list_index mt_index (h.mono fun x μ1 q => by
    obtain ⟨lk, q⟩ := q
    refine ⟨lk, wa_one (q.mono fun y μ2 q => ?_) hs⟩
    obtain ⟨ns, v, hx, nt, rfl, hv, q⟩ := q
    exact mw_index hx nt hv q) hbase hfew hline hs hplain
/-- xs.pop(i) -/
theorem mw_pop {K : PySem.W.Frag} {p : Addr} {ds : List PyData} {k : Nat} {d : PyData} (i : Nat) (hi : μ[i]? = some (p, (ds : Cont))) (hz : ds.length ≤ 100000) (hk : ds[k]? = some d) (hp : isP d = false) (h : Q (.d d) (μ.set i (p, ds.eraseIdx k))) : MtW K rPopAt (.a p) [.d (.int (k : Int))] μ Q := fun F H v vs m o1 o2 QV c => by
  cases o2 with
  | cons o2 o3 =>
    cases o3
    obtain ⟨_, us, e1, hd⟩ := m.cel _ _ (List.mem_of_getElem? hi)
    have hkl := (List.getElem?_eq_some_iff.mp hk).1
    obtain ⟨w, hw, ow⟩ := dqs_get hd hk
    have he : DqAll K F (us.eraseIdx k) (ds.eraseIdx k) := by
      have : ∀ {vs : List V} {es : List PyData} (j : Nat), DqAll K F vs es → DqAll K F (vs.eraseIdx j) (es.eraseIdx j) := fun {vs es} j hh => by
        induction hh generalizing j with
        | nil => exact .nil
        | cons a _ ih =>
          cases j with
          | zero => assumption
          | succ j => exact .cons a (ih j)
      exact this k hd
    obtain ⟨m2, w2⟩ := m.setCQ (es := ds.eraseIdx k) hi he
    refine ⟨p, us, (k : Int), k, w, o1, by rw [dp_int o2], e1, by omega, by omega, ?_, hw, c (.d d) _ _ _ _ w2 m2 ((ow.up w2.f).to hp) h⟩
    rw [dqs_len hd]
    unfold seqIndex?
    have hn : ¬ ((k : Int) < 0) := by omega
    simp [hn]
    omega
theorem we_popAt {o : Expr} {apos cpos : Pos} (h : WE X o δ μ fun x μ1 => Lk μ1 x ∧ WE X e δ μ1 fun y μ2 => ∃ (p : Addr) (ds : List PyData) (k i : Nat) (d : PyData), x = .a p ∧ y = .d (.int (k : Int)) ∧ μ2[i]? = some (p, (ds : Cont)) ∧ ds.length ≤ 100000 ∧ ds[k]? = some d ∧ isP d = false ∧ Q (.d d) (μ2.set i (p, ds.eraseIdx k)))
    (hbase : attributeBase o "pop" X.env (eval o X.env) = eval o X.env := by rfl)
    (hfew : ((backTo cpos (starEach [e] X.env)).all (fun x => !x.1) && (backToKw cpos (keywordEach [] X.env)).all (fun x => x.1.isSome)
      && decide ([e].length + ([] : List Keyword).length + (if ([] : List Keyword).isEmpty then 0 else 1) < 30)) = true := by rfl)
    (hline : (apos.endLine == cpos.line) = true := by rfl) (hs : starEach [e] X.env = (false, eval e X.env) :: starEach [] X.env := by rfl) (hplain : (backTo cpos (starEach [] X.env)).any (·.1) = false := by rfl) :
    WE X (.Call (.Attribute o "pop" apos) [e] [] cpos) δ μ Q :=
  we_bmL PySem.F.plainAttrs_list PySem.F.slot_list_pop PySem.F.type_list_pop mt_popAt (h.mono fun x μ1 q => by
    obtain ⟨lk, q⟩ := q
    refine ⟨lk, wa_one (q.mono fun y μ2 q => ?_) hs⟩
    obtain ⟨p, ds, k, i, d, rfl, rfl, hi, hz, hk, hp, q⟩ := q
    exact mw_pop i hi hz hk hp q) hbase hfew hline hs hplain
theorem room65 {k : Nat} {A : Around} (r : Room k A) : A.units + 65 < cLine := by
  have := r.un
  omega
/-! ### in, over data of any depth -/
theorem ow_inD {x y : Vd} {d : PyData} {ds : List PyData} (hx : Vt μ x d) (hy : Vt μ y (.list ds)) (sd : SeqAt.shaped d = true) (se : SeqAt.shaped (.list ds) = true) {K : PySem.W.Frag} (h : Q (.d (.bool (inD d ds))) μ) : OpW K (rInD K) x y μ Q := fun F H v u m o1 o2 QV c =>
  ⟨d, ds, (vt_ok m o1 hx).dp, (vt_ok m o2 hy).dp, sd, se, c (.d (.bool _)) _ F H μ Fw.refl m (.bl _) h⟩
theorem ow_niD {x y : Vd} {d : PyData} {ds : List PyData} (hx : Vt μ x d) (hy : Vt μ y (.list ds)) (sd : SeqAt.shaped d = true) (se : SeqAt.shaped (.list ds) = true) {K : PySem.W.Frag} (h : Q (.d (.bool (!inD d ds))) μ) : OpW K (rNotInD K) x y μ Q := fun F H v u m o1 o2 QV c =>
  ⟨d, ds, (vt_ok m o1 hx).dp, (vt_ok m o2 hy).dp, sd, se, c (.d (.bool _)) _ F H μ Fw.refl m (.bl _) h⟩
/-! ### a < b < c; is True -/
theorem we_chain {op op' : CmpOp} {r r' : R2} {c : Expr} (ho : OpR X (compareOp op) r) (ho' : OpR X (compareOp op') r') (h : WE X a δ μ fun x μ1 => WE X b δ μ1 fun y μ2 => OpW X.K r x y μ2 fun z μ3 => ∃ k, z = .d (.bool k) ∧ if k = true then ∀ y', y' = y → WE X c δ μ3 fun w μ4 => OpW X.K r' y' w μ4 Q else Q (.d (.bool false)) μ3)
    (hm : lastMarks [op, op'] [b, c] = false := by with_unfolding_all rfl) : WE X (.Compare a [op, op'] [b, c] pos) δ μ Q := fun F H σ R QV cc =>
  toE (pe_chain ho ho' (pcE X a) (pcE X b) (pcE X c) hm) (h F H σ R _ fun v x F1 H1 μ1 w1 R1 o1 q1 => q1 F1 H1 σ R1 _ fun u y F2 H2 μ2 w2 R2 o2 q2 => q2 F2 H2 v u R2.m (o1.up w2.f) o2 _ fun z w F3 H3 μ3 w3 m3 o3 q3 => by
    obtain ⟨k, rfl, q3⟩ := q3
    refine ⟨k, dp_bl o3, ?_⟩
    have R3 := R2.to w3.f m3
    have wa := (w1.trans w2).trans w3
    cases k with
    | true => exact (q3 y rfl) F3 H3 σ R3 _ fun w' x4 F4 H4 μ4 w4 R4 o4 q4 => q4 F4 H4 u w' R4.m (o2.up (w3.f.trans w4.f)) o4 _ fun z5 w5' F5 H5 μ5 w5 m5 o5 q5 => cc _ z5 F5 H5 μ5 ((wa.trans w4).trans w5) (R4.to w5.f m5) o5 q5
    | false => exact cc _ (.d (.bool false)) F3 H3 μ3 wa R3 (.bl false) q3)
theorem wt_chain {op op' : CmpOp} {r r' : R2} {c : Expr} {T : Bool → Cells → Prop} (ho : OpR X (compareOp op) r) (ho' : OpR X (compareOp op') r') (h : WE X a δ μ fun x μ1 => WE X b δ μ1 fun y μ2 => OpW X.K r x y μ2 fun z μ3 => ∃ k, z = .d (.bool k) ∧ if k = true then ∀ y', y' = y → WE X c δ μ3 fun w μ4 => OpW X.K r' y' w μ4 fun z μ5 => ∃ k, z = .d (.bool k) ∧ T k μ5 else T false μ3)
    (hm : lastMarks [op, op'] [b, c] = false := by with_unfolding_all rfl) : WT X (.Compare a [op, op'] [b, c] pos) δ μ T := fun F H σ R QV cc =>
  toT (pt_chain ho ho' (pcE X a) (pcE X b) (pcE X c) hm) (h F H σ R _ fun v x F1 H1 μ1 w1 R1 o1 q1 => q1 F1 H1 σ R1 _ fun u y F2 H2 μ2 w2 R2 o2 q2 => q2 F2 H2 v u R2.m (o1.up w2.f) o2 _ fun z w F3 H3 μ3 w3 m3 o3 q3 => by
    obtain ⟨k, rfl, q3⟩ := q3
    refine ⟨k, dp_bl o3, ?_⟩
    have R3 := R2.to w3.f m3
    have wa := (w1.trans w2).trans w3
    cases k with
    | true => exact (q3 y rfl) F3 H3 σ R3 _ fun w' x4 F4 H4 μ4 w4 R4 o4 q4 => q4 F4 H4 u w' R4.m (o2.up (w3.f.trans w4.f)) o4 _ fun z5 w5' F5 H5 μ5 w5 m5 o5 q5 => by
                obtain ⟨k5, rfl, q5⟩ := q5
                exact ⟨k5, dp_bl o5, cc k5 F5 H5 μ5 ((wa.trans w4).trans w5) (R4.to w5.f m5) q5⟩
    | false => exact ⟨false, rfl, cc false F3 H3 μ3 wa R3 q3⟩)
theorem ow_isB {K : PySem.W.Frag} {i j : Bool} (h : Q (.d (.bool (decide (i = j)))) μ) : OpW K (fun x y H Q => ∃ a b, x = .bl a ∧ y = .bl b ∧ Q (.bl (decide (a = b))) H) (.d (.bool i)) (.d (.bool j)) μ Q := fun F H v u m o1 o2 QV c =>
  ⟨i, j, dp_bl o1, dp_bl o2, c (.d (.bool _)) _ F H μ Fw.refl m (.bl _) h⟩
theorem ow_inB {K : PySem.W.Frag} {i j : Bool} (h : Q (.d (.bool (!decide (i = j)))) μ) : OpW K (fun x y H Q => ∃ a b, x = .bl a ∧ y = .bl b ∧ Q (.bl (!decide (a = b))) H) (.d (.bool i)) (.d (.bool j)) μ Q := fun F H v u m o1 o2 QV c =>
  ⟨i, j, dp_bl o1, dp_bl o2, c (.d (.bool _)) _ F H μ Fw.refl m (.bl _) h⟩
/-! ### t.index(v), t a tuple -/
def rIxT (K : PySem.W.Frag) : V → List V → Hp → VK → Prop := fun x xs H Q => ∃ (t : Addr) (ns : List Int) (v : Int), x = V.ref t ∧ xs = [.int v] ∧ SqT K H t (ns.map V.int) ∧ v ∈ ns ∧ Q (.int (posn v ns : Nat)) H
theorem mt_ixT : MtR X "tuple.index" (rIxT X.K) := by
  intro pins s σ H x xs v us Q I rx rs h
  obtain ⟨t, ns, y, rfl, rfl, hq, hv, q⟩ := h
  cases rx
  obtain ⟨u, rfl, ru⟩ := vals1 rs
  obtain ⟨its, r, ⟨⟨cls, dd, dt, sl⟩, ho, hc, n, hd⟩, hz⟩ := I.tuple hq
  simp only at hc hd
  subst hc hd
  obtain ⟨h1, h2⟩ := posn_at hv
  have hl := r.length
  rw [List.length_map] at hl
  have hj : posn y ns < its.toArray.size := by
    rw [List.size_toArray, ← hl]
    exact (List.getElem?_eq_some_iff.mp h1).1
  have each : ∀ (k : Nat) (hk : k < its.toArray.size) (z : Int), ns[k]? = some z → eqU (.int y) its.toArray[k] = decide (z = y) := fun k hk z e => by
    obtain ⟨w, hw, rw'⟩ := r.get (i := k) (x := .int z) (by rw [List.getElem?_map, e]; rfl)
    have e2 : its.toArray[k] = w := by
      have := (List.getElem?_eq_some_iff.mp hw).2
      simpa using this
    rw [e2, eqU_of rw' rfl]
    exact Bool.eq_iff_iff.mpr (by simp [eqV])
  refine call_meets PySem.F.slot_tuple_index ⟨_, ho, rfl⟩ PySem.F.entry_tuple_index (PySem.F.args_tuple_index_2 _ _) (TI.tuple_indexAt t its.toArray n dd sl u (eqU (.int y)) (posn y ns) hj ?_ ?_)
    ⟨ho, fun w hw => mem_eqAt ru rfl r (flatV_ints ns) w (by simpa using hw), ⟨.int (posn y ns : Nat), H, I.tok _, ⟨_, rfl⟩, q⟩⟩
  · rw [each _ hj y h1]
    simp
  · intro k hk hlt
    have hkn : k < ns.length := by
      rw [List.size_toArray, ← hl] at hk
      exact hk
    rw [each k hk ns[k] (List.getElem?_eq_getElem hkn)]
    exact decide_eq_false (h2 k hlt _ (List.getElem?_eq_getElem hkn))
def tIxT (K : PySem.W.Frag) (to : TE) (t : TA) : TE := fun σ H Q => to σ H fun x H1 => (∃ a o vs, x = V.ref a ∧ H1 a = some (.frz o (.tup vs)) ∧ o.dict = none) ∧ t σ H1 fun xs H2 => rIxT K x xs H2 Q
theorem pe_ixT {o : Expr} {apos cpos : Pos} {to : TE} {t : TA} (ho : PE X o to) (ha : PA X [e] t) (hbase : attributeBase o "index" X.env (eval o X.env) = eval o X.env := by rfl)
    (hfew : ((backTo cpos (starEach [e] X.env)).all (fun x => !x.1) && (backToKw cpos (keywordEach [] X.env)).all (fun x => x.1.isSome)
      && decide ([e].length + ([] : List Keyword).length + (if ([] : List Keyword).isEmpty then 0 else 1) < 30)) = true := by rfl)
    (hline : (apos.endLine == cpos.line) = true := by rfl) (hs : starEach [e] X.env = (false, eval e X.env) :: starEach [] X.env := by rfl) (hplain : (backTo cpos (starEach [] X.env)).any (·.1) = false := by rfl) :
    PE X (.Call (.Attribute o "index" apos) [e] [] cpos) (tIxT X.K to t) := ⟨fun pins s σ H Q I h => by
  refine wpAny_Call_method_late hbase hfew hline rfl (thn (ho.run pins s σ H _ I h) fun v s1 ⟨x, H1, I1, r1, k, q1⟩ => ?_)
  obtain ⟨a, ob, vs, rfl, e1, e2⟩ := k
  cases (show v = Value.ref a from r1)
  obtain ⟨g1, g2⟩ := (show s1.heap.get? a = some ob ∧ ObjOk X.prog X.w H1 s1.heap a (.tup vs) from I1.hok a _ e1)
  obtain ⟨_, its, _, o2, g3, g4, _⟩ := g2
  refine ⟨"tuple", _, PySem.F.plainAttrs_tuple, PySem.F.slot_tuple_index, PySem.F.type_tuple_index, ⟨o2, g3, g4⟩, fun b z => ?_, ?_⟩
  · cases z
    exact ⟨ob, g1, e2⟩
  have hA := ha.run cpos pins s1 σ H1 _ I1 q1
  rw [hs] at hA ⊢
  have np : (false || (backTo cpos (starEach [] X.env)).any (·.1)) = false := by rw [hplain, Bool.or_false]
  exact Calls.callWith_builtin np (Calls.evalArgs_plain (thn hA fun us s2 ⟨xs, H2, I2, r2, q2⟩ => mt_ixT pins s2 σ H2 (.ref a) xs (.ref a) us Q I2 rfl r2 q2))⟩
theorem we_indexX {o : Expr} {apos cpos : Pos} (h : WE X o δ μ fun x μ1 => ∃ ns, x = .x (intsD ns) ∧ WE X e δ μ1 fun y μ2 => ∃ v, y = .d (.int v) ∧ v ∈ ns ∧ Q (.d (.int (posn v ns : Nat))) μ2)
    (hbase : attributeBase o "index" X.env (eval o X.env) = eval o X.env := by rfl)
    (hfew : ((backTo cpos (starEach [e] X.env)).all (fun x => !x.1) && (backToKw cpos (keywordEach [] X.env)).all (fun x => x.1.isSome)
      && decide ([e].length + ([] : List Keyword).length + (if ([] : List Keyword).isEmpty then 0 else 1) < 30)) = true := by rfl)
    (hline : (apos.endLine == cpos.line) = true := by rfl) (hs : starEach [e] X.env = (false, eval e X.env) :: starEach [] X.env := by rfl) (hplain : (backTo cpos (starEach [] X.env)).any (·.1) = false := by rfl) :
    WE X (.Call (.Attribute o "index" apos) [e] [] cpos) δ μ Q := fun F H σ R QV c =>
  toE (pe_ixT (pcE X o) (pcA X [e]) hbase hfew hline hs hplain) (h F H σ R _ fun v x F1 H1 μ1 w1 R1 o1 q => by
    obtain ⟨ns, rfl, q⟩ := q
    obtain ⟨a, vs, ob, rfl, e1, e2, e3⟩ := dp_tupX o1
    refine ⟨⟨a, ob, vs, rfl, R1.m.ex _ _ e1, e2⟩, (wa_one (QA := fun zs μ2 => ∃ v, zs = [.d (.int v)] ∧ v ∈ ns ∧ Q (.d (.int (posn v ns : Nat))) μ2) (q.mono fun y μ2 q => by
      obtain ⟨v, rfl, q⟩ := q
      exact ⟨v, rfl, q⟩) hs) F1 H1 σ R1 _ fun us xs F2 H2 μ2 w2 R2 o2 q2 => ?_⟩
    obtain ⟨z, rfl, hz, q2⟩ := q2
    cases o2 with
    | cons o2 o3 =>
      cases o3
      have hq : SqT X.K H2 a (ns.map V.int) := by
        rw [← dps_ints e3]
        exact .inl (.inr ⟨ob, R2.m.ex _ _ (w2.f _ _ e1)⟩)
      exact ⟨a, ns, z, rfl, by rw [dp_int o2], hq, hz, c _ (.d (.int _)) F2 H2 μ2 (w1.trans w2) R2 (.int _) q2⟩)
/-! ### tuples whose objects are known -/
theorem we_tupX {k : Nat} (h : WA X es δ μ fun xs μ1 => ∃ ds, dsOf xs = some ds ∧ ds.length ≤ 100000 ∧ Q (.x ds) μ1) : WE X (.Tuple es k pos) δ μ Q := we_tup h
theorem we_catX (h : WE X a δ μ fun x μ1 => WE X b δ μ1 fun y μ2 => ∃ ds es, x = .x ds ∧ y = .x es ∧ ds.length + es.length ≤ 100000 ∧ Q (.x (ds ++ es)) μ2) : WE X (.BinOp a .Add b pos) δ μ Q :=
  we_bin (op := .Add) o_add (h.mono fun x μ1 q => q.mono fun y μ2 q => by
    obtain ⟨ds, es, rfl, rfl, hl, q⟩ := q
    exact ow_catT hl q)
/-- the value as data -/
theorem we_wk (h : WE X e δ μ fun x μ1 => ∃ ds, x = .x ds ∧ Q (.d (.tuple ds)) μ1) : WE X e δ μ Q := h.mono fun x μ1 q => by
  obtain ⟨ds, rfl, q⟩ := q
  exact q
end
end Ec

set_option Elab.async false
set_option linter.all false
namespace Ec
open PySem PySem.Spec PyProof.Rows L2
/-! ### orders -/
def misL (c : Co) (r : List Int) : List Nat := (List.range r.length).filter fun i => !comes c (r.take i) (r.getD i 0)
def misV (c : Co) (r : List Int) : PyData := match misL c r with
  | [] => .none
  | i :: _ => .int (i : Int)
def ordb (c : Co) (r : List Int) : Bool := decide (srt r = rng c.length) && (misL c r).isEmpty
def bh (c : Co) (p : Int) : List Int := (rng c.length).filter fun o => !decide (o = p) && !decide (o ∈ cl c [] [p])
def duoD (q : Int × Int) : PyData := .tuple [.int q.1, .int q.2]
def prs (n : Nat) : List (Int × Int) := (rng n).flatMap fun lo => ((rng n).filter fun h => decide (lo < h)).map fun h => (lo, h)
def mb (c : Co) : List (Int × Int) := (rng c.length).flatMap fun p => (bh c p).map fun o => (p, o)
def fp (c : Co) : List (Int × Int) := (prs c.length).filter fun q => !decide (q ∈ mb c) && !decide ((q.2, q.1) ∈ mb c)
def er (c : Co) (p : Int) : List Int := ((rng c.length).filter fun o => !decide (o = p)).filter fun o => decide (p ∈ bh c o)
abbrev T_isnum : TrD := fun xs μ R => ∃ d, xs = [.d d] ∧ R (.d (.bool (isIn (.d d) && !isBo (.d d)))) μ
abbrev T_lookw : TrD := fun xs μ R => ∃ dc c, xs = [.d dc] ∧ CoD dc c ∧ c.length < 64 ∧ nev c = [] ∧ R (.d .none) μ
abbrev T_lookp : TrD := fun xs μ R => ∃ dc c p, xs = [.d dc, .d (.int p)] ∧ CoD dc c ∧ 0 ≤ p ∧ p < c.length ∧ R (.d .none) μ
abbrev T_misfit : TrD := fun xs μ R => ∃ dc c dr r, xs = [.d dc, .d dr] ∧ CoD dc c ∧ SqD dr (intsD r) ∧ r.length ≤ 1000 ∧ (∀ x ∈ r, 0 ≤ x ∧ x < c.length) ∧ R (.d (misV c r)) μ
abbrev T_isord : TrD := fun xs μ R => ∃ dc c r, xs = [.d dc, .d (.tuple (intsD r))] ∧ CoD dc c ∧ r.length < 64 ∧ R (.d (.bool (ordb c r))) μ
abbrev T_pairs : TrD := fun xs μ R => ∃ n : Nat, xs = [.d (.int (n : Int))] ∧ n ≤ 60 ∧ ∀ q, R (.a q) ((q, (prs n).map duoD) :: μ)
abbrev T_behind : TrD := fun xs μ R => ∃ dc c p, xs = [.d dc, .d (.int p)] ∧ CoD dc c ∧ c.length < 63 ∧ ∀ q, R (.a q) ((q, intsD (bh c p)) :: μ)
abbrev T_mb : TrD := fun xs μ R => ∃ dc c, xs = [.d dc] ∧ CoD dc c ∧ c.length < 63 ∧ nev c = [] ∧ ∀ q, R (.a q) ((q, (mb c).map duoD) :: μ)
abbrev T_free : TrD := fun xs μ R => ∃ dc c, xs = [.d dc] ∧ CoD dc c ∧ c.length ≤ 60 ∧ nev c = [] ∧ ∀ q, R (.a q) ((q, (fp c).map duoD) :: μ)
abbrev T_earlier : TrD := fun xs μ R => ∃ dc c p, xs = [.d dc, .d (.int p)] ∧ CoD dc c ∧ c.length < 63 ∧ nev c = [] ∧ 0 ≤ p ∧ p < c.length ∧ R (.d (.tuple (intsD (er c p)))) μ
abbrev T_later : TrD := fun xs μ R => ∃ dc c p, xs = [.d dc, .d (.int p)] ∧ CoD dc c ∧ c.length < 63 ∧ nev c = [] ∧ 0 ≤ p ∧ p < c.length ∧ R (.d (.tuple (intsD (bh c p)))) μ
abbrev T_latest : TrD := fun xs μ R => ∃ dc c p, xs = [.d dc, .d (.int p)] ∧ CoD dc c ∧ c.length < 63 ∧ nev c = [] ∧ 0 ≤ p ∧ p < c.length ∧ R (.d (.int ((cl c [] [p]).length : Nat))) μ
theorem bh_le (c : Co) (p : Int) : (bh c p).length ≤ c.length := by
  unfold bh
  refine Nat.le_trans (List.length_filter_le _ _) ?_
  rw [rng_len]
  exact Nat.le_refl _
theorem flat_le {α β : Type} (f : α → List β) (k : Nat) : ∀ l : List α, (∀ x ∈ l, (f x).length ≤ k) → (l.flatMap f).length ≤ l.length * k
  | [], _ => by simp
  | x :: l, h => by
    rw [List.flatMap_cons, List.length_append, List.length_cons, Nat.succ_mul]
    have := h x List.mem_cons_self
    have := flat_le f k l fun y m => h y (List.mem_cons_of_mem _ m)
    omega
theorem rng_succ (n : Nat) : rng (n + 1) = rng n ++ [(n : Int)] := by
  unfold rng
  rw [List.range_succ, List.map_append]
  rfl
theorem rangeD_from (lo n : Nat) (h : lo ≤ n) : rangeD (lo : Int) (n - lo) = intsD ((rng n).filter fun x => decide ((lo : Int) ≤ x)) := by
  obtain ⟨k, rfl⟩ : ∃ k, n = lo + k := ⟨n - lo, by omega⟩
  rw [Nat.add_sub_cancel_left]
  induction k with
  | zero =>
    have e : (rng (lo + 0)).filter (fun x => decide ((lo : Int) ≤ x)) = [] := List.filter_eq_nil_iff.mpr fun x hx => by
      have := (mem_rng.mp hx).2
      simp
      omega
    rw [e]
    rfl
  | succ k ih =>
    have e : rangeD (lo : Int) (k + 1) = rangeD (lo : Int) k ++ [.int ((lo : Int) + (k : Int))] := by
      unfold rangeD
      rw [List.range_succ, List.map_append]
      rfl
    have e2 : (rng (lo + (k + 1))).filter (fun x => decide ((lo : Int) ≤ x)) = (rng (lo + k)).filter (fun x => decide ((lo : Int) ≤ x)) ++ [((lo : Int) + (k : Int))] := by
      rw [← Nat.add_assoc, rng_succ, List.filter_append]
      have : ((lo + k : Nat) : Int) = (lo : Int) + (k : Int) := by omega
      rw [this]
      have h2 : [((lo : Int) + (k : Int))].filter (fun x => decide ((lo : Int) ≤ x)) = [((lo : Int) + (k : Int))] := by
        rw [List.filter_cons, if_pos (decide_eq_true (by omega))]
        rfl
      rw [h2]
    rw [e, e2, ih (by omega)]
    show _ = List.map PyData.int (_ ++ _)
    rw [List.map_append]
    rfl
theorem eqv_pr (a b : Int × Int) : PyData.eqv (duoD a) (duoD b) = decide (a = b) := by
  obtain ⟨a1, a2⟩ := a
  obtain ⟨b1, b2⟩ := b
  show (PyData.eqv (.int a1) (.int b1) && (PyData.eqv (.int a2) (.int b2) && true)) = _
  simp only [PyData.eqv, Bool.and_true, Prod.mk.injEq, Bool.decide_and]
  congr 1
theorem inD_pr (a : Int × Int) (l : List (Int × Int)) : inD (duoD a) (l.map duoD) = decide (a ∈ l) := by
  unfold inD
  rw [List.any_map]
  rw [Bool.eq_iff_iff]
  simp only [List.any_eq_true, Function.comp, eqv_pr, decide_eq_true_eq]
  constructor
  · rintro ⟨x, hx, rfl⟩
    exact hx
  · exact fun h => ⟨a, h, rfl⟩
theorem pr_fits (q : Int × Int) : fits 1 (duoD q) = true := by
  unfold duoD fits
  simp only [List.all_cons, List.all_nil]
  unfold fits
  rfl
theorem shaped_lst' {n : Nat} {ds : List PyData} (h : ∀ d ∈ ds, fits n d = true) (hn : n + 1 ≤ 64 := by decide) : SeqAt.shaped (.list ds) = true := by
  have ih := fun d m => fits_all n d (h d m)
  unfold SeqAt.shaped
  rw [Bool.and_eq_true_iff]
  refine ⟨canLays_all fun d m => (ih d m).1, decide_eq_true ?_⟩
  simp only [PyData.depth]
  exact Nat.le_trans (Nat.succ_le_succ (depths_le fun d m => (ih d m).2.1)) hn
theorem prs_shaped (l : List (Int × Int)) : SeqAt.shaped (.list (l.map duoD)) = true := shaped_lst' (n := 1) fun d m => by
  obtain ⟨q, _, rfl⟩ := List.mem_map.mp m
  exact pr_fits q
end Ec

set_option Elab.async false
set_option linter.all false
set_option maxRecDepth 100000
set_option maxHeartbeats 4000000
namespace Ec
/-! ### whole companies, orders -/
theorem cnt_two {α : Type} (f : α → Bool) : ∀ L : List α, (L.filter f).length + (L.filter fun p => !f p).length = L.length
  | [] => rfl
  | x :: r => by
    have := cnt_two f r
    rw [List.filter_cons, List.filter_cons]
    cases hf : f x <;> simp <;> omega
theorem nodup_le {as bs : List Int} (ha : as.Nodup) (hb : bs.Nodup) (h : ∀ x ∈ as, x ∈ bs) : as.length ≤ bs.length := by
  have p : as.Perm (bs.filter fun x => decide (x ∈ as)) := perm_of_mem ha (hb.filter _) fun x => by
    rw [List.mem_filter]
    exact ⟨fun m => ⟨h x m, decide_eq_true m⟩, fun m => of_decide_eq_true m.2⟩
  rw [p.length_eq]
  exact List.length_filter_le _ _
theorem len_und {c : Co} {t : List Int} (h : t.Nodup) (hr : ∀ x ∈ t, 0 ≤ x ∧ x < c.length) : t.length + und c t = c.length := by
  have p : t.Perm ((rng c.length).filter fun x => decide (x ∈ t)) := perm_of_mem h ((rng_nodup _).filter _) fun x => by
    rw [List.mem_filter]
    exact ⟨fun m => ⟨mem_rng.mpr (hr x m), decide_eq_true m⟩, fun m => of_decide_eq_true m.2⟩
  have := cnt_two (fun x => decide (x ∈ t)) (rng c.length)
  rw [rng_len] at this
  unfold und
  rw [p.length_eq]
  exact this
theorem gr_nodup (c : Co) : (gr c).Nodup := cl_nodup List.nodup_nil
theorem gr_rng (c : Co) : ∀ x ∈ gr c, 0 ≤ x ∧ x < c.length := cl_rng fun x h => by cases h
theorem whole_iff (c : Co) : nev c = [] ↔ ∀ p : Int, 0 ≤ p → p < c.length → p ∈ gr c := by
  unfold nev
  rw [List.filter_eq_nil_iff]
  constructor
  · intro h p h0 h1
    have := h p (mem_rng.mpr ⟨h0, h1⟩)
    simpa using this
  · intro h p hp
    have := mem_rng.mp hp
    simpa using h p this.1 this.2
theorem whole_len {c : Co} (h : nev c = []) : (gr c).length = c.length := by
  have h1 := nodup_le (gr_nodup c) (rng_nodup c.length) fun x m => mem_rng.mpr (gr_rng c x m)
  have h2 := nodup_le (rng_nodup c.length) (gr_nodup c) fun x m => (whole_iff c).mp h x (mem_rng.mp m).1 (mem_rng.mp m).2
  rw [rng_len] at h1 h2
  omega
theorem whole_of_len {c : Co} (h : c.length ≤ (gr c).length) : nev c = [] := by
  have h1 := len_und (gr_nodup c) (gr_rng c)
  have h2 : und c (gr c) = 0 := by omega
  unfold und at h2
  exact List.length_eq_zero_iff.mp h2
/-! ### a need made smaller -/
theorem fr_set {c : Co} {s : Nat} {e : List Int × Int} {k : Int} (he : c[s]? = some e) (p : Int) : fr (c.set s (e.1, k)) p = fr c p := by
  unfold fr
  rw [List.getD_eq_getElem?_getD, List.getD_eq_getElem?_getD]
  by_cases hs : s = p.toNat
  · have hl := (List.getElem?_eq_some_iff.mp he).1
    rw [← hs, List.getElem?_set_self hl, he]
    rfl
  · rw [List.getElem?_set_ne hs]
theorem nd_set {c : Co} {s : Nat} {e : List Int × Int} {k : Int} (he : c[s]? = some e) (p : Int) : nd (c.set s (e.1, k)) p = if s = p.toNat then k else nd c p := by
  unfold nd
  rw [List.getD_eq_getElem?_getD, List.getD_eq_getElem?_getD]
  by_cases hs : s = p.toNat
  · have hl := (List.getElem?_eq_some_iff.mp he).1
    rw [if_pos hs, ← hs, List.getElem?_set_self hl]
    rfl
  · rw [List.getElem?_set_ne hs, if_neg hs]
theorem cnt_set {c : Co} {s : Nat} {e : List Int × Int} {k : Int} (he : c[s]? = some e) (t : List Int) (p : Int) : cnt (c.set s (e.1, k)) t p = cnt c t p := by
  unfold cnt
  rw [fr_set he]
theorem ease {c : Co} {s : Nat} {e : List Int × Int} (he : c[s]? = some e) (hs : (s : Int) ∉ gr c) : und (c.set s (e.1, cnt c (gr c) s)) (gr (c.set s (e.1, cnt c (gr c) s))) < und c (gr c) := by
  have hl := (List.getElem?_eq_some_iff.mp he).1
  have hsl : (s : Int) < c.length := by omega
  have hnc : comes c (gr c) s = false := by
    cases q : comes c (gr c) s with
    | false => rfl
    | true => exact absurd (cl_shut c [] [] s (by omega) hsl (by simp) ⟨gr c, fun _ h => h, q⟩) hs
  have hlt : cnt c (gr c) s < nd c s := by
    unfold comes at hnc
    have := of_decide_eq_false hnc
    omega
  generalize hk : cnt c (gr c) s = k at hlt
  have hlen : (c.set s (e.1, k)).length = c.length := List.length_set
  have up : ∀ t p, comes c t p = true → comes (c.set s (e.1, k)) t p = true := fun t p h => by
    unfold comes at h ⊢
    rw [cnt_set he, nd_set he]
    have h1 := of_decide_eq_true h
    refine decide_eq_true ?_
    split
    · rename_i e1
      have e2 : nd c p = nd c s := by
        unfold nd
        rw [← e1, Int.toNat_natCast]
      omega
    · exact h1
  have sub : ∀ x ∈ gr c, x ∈ gr (c.set s (e.1, k)) := cl_in (fun p h0 h1 hb ⟨t, ht, hc⟩ => cl_shut _ [] [] p h0 (by rw [hlen]; exact h1) hb ⟨t, ht, up t p hc⟩) (fun x h => by cases h)
  have low : (s : Int) ∈ gr (c.set s (e.1, k)) := by
    refine cl_shut _ [] [] s (by omega) (by rw [hlen]; exact hsl) (by simp) ⟨gr c, sub, ?_⟩
    unfold comes
    rw [cnt_set he, nd_set he, Int.toNat_natCast, if_pos rfl, hk]
    exact decide_eq_true (Int.le_refl _)
  unfold und
  rw [hlen]
  refine filter_lt (fun x _ h => ?_) ⟨s, mem_rng.mpr ⟨by omega, hsl⟩, by simpa using hs, by simpa using low⟩
  have h1 : x ∉ gr (c.set s (e.1, k)) := by simpa using h
  simpa using fun z => h1 (sub x z)
/-! ### orders, begun ones -/
structure POrd (c : Co) (r : List Int) : Prop where
  nd : r.Nodup
  rg : ∀ x ∈ r, 0 ≤ x ∧ x < c.length
  ok : ∀ i : Nat, ∀ x, r[i]? = some x → comes c (r.take i) x = true
theorem POrd.nil (c : Co) : POrd c [] := ⟨List.nodup_nil, fun x h => (by cases h), fun i x h => (by simp at h)⟩
theorem POrd.add {c : Co} {r : List Int} {x : Int} (h : POrd c r) (h0 : 0 ≤ x) (h1 : x < c.length) (h2 : x ∉ r) (h3 : comes c r x = true) : POrd c (r ++ [x]) where
  nd := List.nodup_append.mpr ⟨h.nd, by simp, fun a ha b hb e => by
    rw [List.mem_singleton] at hb
    subst hb
    subst e
    exact h2 ha⟩
  rg := fun y m => by
    rcases List.mem_append.mp m with m | m
    · exact h.rg y m
    · rw [List.mem_singleton] at m
      subst m
      exact ⟨h0, h1⟩
  ok := fun i y hy => by
    by_cases hi : i < r.length
    · rw [List.getElem?_append_left hi] at hy
      rw [List.take_append_of_le_length (by omega)]
      exact h.ok i y hy
    · have hl := (List.getElem?_eq_some_iff.mp hy).1
      rw [List.length_append, List.length_singleton] at hl
      have e : i = r.length := by omega
      subst e
      rw [List.getElem?_append_right (Nat.le_refl _), Nat.sub_self] at hy
      cases hy
      rw [List.take_append_of_le_length (Nat.le_refl _), List.take_length]
      exact h3
theorem POrd.take {c : Co} {r : List Int} (h : POrd c r) (k : Nat) : POrd c (r.take k) where
  nd := h.nd.sublist (List.take_sublist _ _)
  rg := fun x m => h.rg x (List.mem_of_mem_take m)
  ok := fun i x hx => by
    have hl := (List.getElem?_eq_some_iff.mp hx).1
    rw [List.length_take] at hl
    rw [List.getElem?_take_of_lt (by omega)] at hx
    rw [List.take_take, Nat.min_eq_left (by omega)]
    exact h.ok i x hx
theorem POrd.len {c : Co} {r : List Int} (h : POrd c r) : r.length ≤ c.length := by
  have := nodup_le h.nd (rng_nodup c.length) fun x m => mem_rng.mpr (h.rg x m)
  rw [rng_len] at this
  exact this
theorem POrd.more {c : Co} {r : List Int} (h : POrd c r) (hw : nev c = []) (hl : r.length < c.length) : ∃ x : Int, 0 ≤ x ∧ x < c.length ∧ x ∉ r ∧ comes c r x = true := by
  apply Classical.byContradiction
  intro hn
  have hS : Shut c [] (fun x => x ∈ r) := fun p h0 h1 _ ⟨t, ht, hc⟩ => by
    apply Classical.byContradiction
    intro hp
    exact hn ⟨p, h0, h1, hp, comes_mono ht hc⟩
  have hin := cl_in (t := []) hS (fun x h => by cases h)
  have := nodup_le (gr_nodup c) h.nd hin
  rw [whole_len hw] at this
  omega
/-- those ahead of s come without s -/
theorem POrd.sub {c : Co} {s : Int} : ∀ {r : List Int}, POrd c r → s ∉ r → ∀ x ∈ r, x ∈ cl c [] [s] := fun {r} h hs => by
  have key : ∀ k, ∀ x ∈ r.take k, x ∈ cl c [] [s] := fun k => by
    induction k with
    | zero => intro x hx; simp at hx
    | succ k ih =>
      intro x hx
      cases q : r[k]? with
      | none =>
        rw [List.take_add_one, q] at hx
        exact ih x (by simpa using hx)
      | some y =>
        rw [List.take_add_one, q] at hx
        rcases List.mem_append.mp hx with hx | hx
        · exact ih x hx
        · have e : x = y := by simpa using hx
          subst e
          have hm := List.mem_of_getElem? q
          refine cl_shut c [] [s] x (h.rg x hm).1 (h.rg x hm).2 ?_ ⟨r.take k, ih, h.ok k x q⟩
          intro z
          rw [List.mem_singleton] at z
          exact hs (z ▸ hm)
  intro x hx
  refine key r.length x ?_
  rw [List.take_length]
  exact hx
/-- a whole order -/
structure IsOrd (c : Co) (r : List Int) : Prop where
  po : POrd c r
  len : r.length = c.length
theorem IsOrd.mem {c : Co} {r : List Int} (h : IsOrd c r) {x : Int} (h0 : 0 ≤ x) (h1 : x < c.length) : x ∈ r := by
  have p : und c r = 0 := by
    have := len_und h.po.nd h.po.rg
    have := h.len
    omega
  unfold und at p
  have := List.filter_eq_nil_iff.mp (List.length_eq_zero_iff.mp p) x (mem_rng.mpr ⟨h0, h1⟩)
  simpa using this
theorem IsOrd.perm {c : Co} {r : List Int} (h : IsOrd c r) : r.Perm (rng c.length) := perm_of_mem h.po.nd (rng_nodup _) fun x => ⟨fun m => mem_rng.mpr (h.po.rg x m), fun m => h.mem (mem_rng.mp m).1 (mem_rng.mp m).2⟩
theorem rng_up (n : Nat) : (rng n).Pairwise (· ≤ ·) := by
  unfold rng
  rw [List.pairwise_map]
  exact List.pairwise_lt_range.imp fun h => by omega
theorem misL_nil {c : Co} {r : List Int} (h : POrd c r) : misL c r = [] := by
  unfold misL
  refine List.filter_eq_nil_iff.mpr fun i hi => ?_
  have hl := List.mem_range.mp hi
  have := h.ok i r[i] (List.getElem?_eq_getElem hl)
  rw [List.getD_eq_getElem?_getD, List.getElem?_eq_getElem hl]
  simp [this]
theorem IsOrd.ordb {c : Co} {r : List Int} (h : IsOrd c r) : ordb c r = true := by
  unfold Ec.ordb
  rw [misL_nil h.po]
  have : srt r = rng c.length := srt_one ((srt_perm r).trans h.perm) (srt_up r) (rng_up _)
  rw [decide_eq_true this]
  rfl
/-! ### places in an order -/
theorem posn_lt {v : Int} {r : List Int} (h : v ∈ r) : posn v r < r.length := (List.getElem?_eq_some_iff.mp (posn_at h).1).1
theorem posn_take {v : Int} {r : List Int} (h : v ∈ r) : v ∉ r.take (posn v r) := fun z => by
  obtain ⟨k, hk⟩ := List.mem_iff_getElem?.mp z
  have hl := (List.getElem?_eq_some_iff.mp hk).1
  rw [List.length_take] at hl
  rw [List.getElem?_take_of_lt (by omega)] at hk
  exact (posn_at h).2 k (by omega) v hk rfl
theorem posn_in {v w : Int} {r : List Int} (hv : v ∈ r) (hw : w ∈ r) : w ∈ r.take (posn v r) ↔ posn w r < posn v r := by
  constructor
  · intro z
    obtain ⟨k, hk⟩ := List.mem_iff_getElem?.mp z
    have hl := (List.getElem?_eq_some_iff.mp hk).1
    rw [List.length_take] at hl
    rw [List.getElem?_take_of_lt (by omega)] at hk
    have : ¬ k < posn w r := fun q => (posn_at hw).2 k q w hk rfl
    omega
  · intro z
    refine List.mem_iff_getElem?.mpr ⟨posn w r, ?_⟩
    rw [List.getElem?_take_of_lt z]
    exact (posn_at hw).1
theorem posn_inj {v w : Int} {r : List Int} (hv : v ∈ r) (hw : w ∈ r) (h : posn v r = posn w r) : v = w := by
  have h1 := (posn_at hv).1
  have h2 := (posn_at hw).1
  rw [h, h2] at h1
  exact (Option.some.inj h1).symm
theorem mem_bh {c : Co} {p o : Int} : o ∈ bh c p ↔ (0 ≤ o ∧ o < c.length) ∧ o ≠ p ∧ o ∉ cl c [] [p] := by
  unfold bh
  rw [List.mem_filter, mem_rng]
  simp
/-- who is tied behind comes later -/
theorem IsOrd.tied {c : Co} {r : List Int} (h : IsOrd c r) {a b : Int} (ha : 0 ≤ a ∧ a < c.length) (hb : b ∈ bh c a) : posn a r < posn b r := by
  obtain ⟨hb0, hne, hn⟩ := mem_bh.mp hb
  have ma := h.mem ha.1 ha.2
  have mb := h.mem hb0.1 hb0.2
  apply Classical.byContradiction
  intro hc
  have hlt : posn b r < posn a r := by
    have : posn b r ≠ posn a r := fun e => hne (posn_inj mb ma e)
    omega
  exact hn ((h.po.take (posn a r)).sub (posn_take ma) b ((posn_in ma mb).mpr hlt))
theorem IsOrd.at_most {c : Co} {r : List Int} (h : IsOrd c r) {a : Int} (ha : 0 ≤ a ∧ a < c.length) : posn a r ≤ (cl c [] [a]).length := by
  have ma := h.mem ha.1 ha.2
  have := nodup_le (h.po.take (posn a r)).nd (cl_nodup (c := c) (t := []) (b := [a]) List.nodup_nil) ((h.po.take (posn a r)).sub (posn_take ma))
  rw [List.length_take] at this
  have := posn_lt ma
  omega
theorem er_mem {c : Co} {p o : Int} : o ∈ er c p ↔ (0 ≤ o ∧ o < c.length) ∧ o ≠ p ∧ p ∈ bh c o := by
  unfold er
  rw [List.mem_filter, List.mem_filter, mem_rng]
  simp [and_assoc]
theorem IsOrd.at_least {c : Co} {r : List Int} (h : IsOrd c r) {a : Int} (ha : 0 ≤ a ∧ a < c.length) : (er c a).length ≤ posn a r := by
  have ma := h.mem ha.1 ha.2
  have nd : (er c a).Nodup := ((rng_nodup _).filter _).filter _
  have := nodup_le nd (h.po.take (posn a r)).nd fun o ho => by
    obtain ⟨h0, _, h2⟩ := er_mem.mp ho
    exact (posn_in ma (h.mem h0.1 h0.2)).mpr (h.tied h0 h2)
  rw [List.length_take] at this
  omega
theorem ord_there {c : Co} (hw : nev c = []) : ∃ r, IsOrd c r := by
  have : ∀ k, k ≤ c.length → ∃ r, POrd c r ∧ r.length = k := fun k => by
    induction k with
    | zero => exact fun _ => ⟨[], POrd.nil c, rfl⟩
    | succ k ih =>
      intro hk
      obtain ⟨r, hr, hl⟩ := ih (by omega)
      obtain ⟨x, h0, h1, h2, h3⟩ := hr.more hw (by omega)
      exact ⟨r ++ [x], hr.add h0 h1 h2 h3, by rw [List.length_append, hl]; rfl⟩
  obtain ⟨r, hr, hl⟩ := this c.length (Nat.le_refl _)
  exact ⟨r, hr, hl⟩
theorem tied_anti {c : Co} (hw : nev c = []) {a b : Int} (ha : 0 ≤ a ∧ a < c.length) (h : b ∈ bh c a) : a ∉ bh c b := fun z => by
  obtain ⟨r, hr⟩ := ord_there hw
  have h1 := hr.tied ha h
  have h2 := hr.tied (mem_bh.mp h).1 z
  omega
theorem tied_trans {c : Co} (hw : nev c = []) {a b d : Int} (ha : 0 ≤ a ∧ a < c.length) (h1 : b ∈ bh c a) (h2 : d ∈ bh c b) : d ∈ bh c a := by
  obtain ⟨hb, hab, hna⟩ := mem_bh.mp h1
  obtain ⟨hd, hbd, hnb⟩ := mem_bh.mp h2
  refine mem_bh.mpr ⟨hd, fun e => tied_anti hw ha h1 (e ▸ h2), fun z => ?_⟩
  have hS : Shut c [a] (fun x => x ∈ cl c [] [a] ∧ x ∈ cl c [] [b]) := fun p h0 h1 hp ⟨t, ht, hc⟩ => by
    have e1 := cl_shut c [] [a] p h0 h1 hp ⟨t, fun x m => (ht x m).1, hc⟩
    refine ⟨e1, cl_shut c [] [b] p h0 h1 (fun q => ?_) ⟨t, fun x m => (ht x m).2, hc⟩⟩
    rw [List.mem_singleton] at q
    exact hna (q ▸ e1)
  exact hnb (cl_in hS (fun x h => by cases h) d z).2
/-! ### an order that puts s off -/
structure Led (c : Co) (s : Int) (r : List Int) : Prop where
  po : POrd c r
  off : s ∈ r → ∀ x ∈ cl c [] [s], x ∈ r.take (posn s r)
theorem posn_app {v : Int} {r q : List Int} (h : v ∈ r) : posn v (r ++ q) = posn v r := by
  induction r with
  | nil => cases h
  | cons x t ih =>
    show (if x = v then 0 else posn v (t ++ q) + 1) = if x = v then 0 else posn v t + 1
    split
    · rfl
    · rename_i hx
      rcases List.mem_cons.mp h with h | h
      · exact absurd h.symm hx
      · rw [ih h]
theorem posn_end {v : Int} {r : List Int} (h : v ∉ r) : posn v (r ++ [v]) = r.length := by
  induction r with
  | nil => simp [posn]
  | cons x t ih =>
    show (if x = v then 0 else posn v (t ++ [v]) + 1) = t.length + 1
    rw [if_neg (fun e : x = v => h (by rw [← e]; exact List.mem_cons_self)), ih fun m => h (List.mem_cons_of_mem _ m)]
theorem Led.nil (c : Co) (s : Int) : Led c s [] := ⟨POrd.nil c, fun h => (by cases h)⟩
theorem Led.other {c : Co} {s : Int} {r : List Int} {x : Int} (h : Led c s r) (hp : POrd c (r ++ [x])) (hx : s ∈ r ∨ x ≠ s) : Led c s (r ++ [x]) := ⟨hp, fun m y hy => by
  rcases List.mem_append.mp m with m | m
  · rw [posn_app m, List.take_append_of_le_length (Nat.le_of_lt (posn_lt m))]
    exact h.off m y hy
  · rw [List.mem_singleton] at m
    rcases hx with hx | hx
    · rw [posn_app hx, List.take_append_of_le_length (Nat.le_of_lt (posn_lt hx))]
      exact h.off hx y hy
    · exact absurd m.symm hx⟩
theorem Led.self {c : Co} {s : Int} {r : List Int} (h : Led c s r) (hp : POrd c (r ++ [s])) (hs : s ∉ r) (hno : ∀ x : Int, 0 ≤ x → x < c.length → x ∉ r → comes c r x = true → x = s) : Led c s (r ++ [s]) := ⟨hp, fun _ y hy => by
  rw [posn_end hs, List.take_append_of_le_length (Nat.le_refl _), List.take_length]
  refine cl_in (t := []) (fun p h0 h1 hb ⟨t, ht, hc⟩ => ?_) (fun x h => by cases h) y hy
  apply Classical.byContradiction
  intro hn
  exact hb (List.mem_singleton.mpr (hno p h0 h1 hn (comes_mono ht hc)))⟩
theorem Led.set {c : Co} {s : Int} {r : List Int} (h : Led c s r) (hs : s ∈ r) (x : Int) : x ∈ r.take (posn s r) ↔ x ∈ cl c [] [s] := ⟨(h.po.take _).sub (posn_take hs) x, h.off hs x⟩
theorem Led.place {c : Co} {s : Int} {r : List Int} (h : Led c s r) (hs : s ∈ r) : posn s r = (cl c [] [s]).length := by
  have p : (r.take (posn s r)).Perm (cl c [] [s]) := perm_of_mem (h.po.take _).nd (cl_nodup List.nodup_nil) (h.set hs)
  rw [← p.length_eq, List.length_take]
  have := posn_lt hs
  omega
theorem Led.rest {c : Co} {s : Int} {r : List Int} (h : Led c s r) (hl : r.length = c.length) (h0 : 0 ≤ s) (h1 : s < c.length) : srt (r.drop (posn s r + 1)) = bh c s := by
  have ho : IsOrd c r := ⟨h.po, hl⟩
  have hs := ho.mem h0 h1
  have nd2 : (r.drop (posn s r + 1)).Nodup := h.po.nd.sublist (List.drop_sublist _ _)
  have split : ∀ x, x ∈ r ↔ x ∈ r.take (posn s r) ∨ x = s ∨ x ∈ r.drop (posn s r + 1) := fun x => by
    have e : r = r.take (posn s r) ++ (s :: r.drop (posn s r + 1)) := by
      have h2 := (posn_at hs).1
      obtain ⟨hl2, e2⟩ := List.getElem?_eq_some_iff.mp h2
      conv => lhs; rw [← List.take_append_drop (posn s r) r]
      rw [List.drop_eq_getElem_cons hl2, e2]
    constructor
    · intro m
      rw [e] at m
      rcases List.mem_append.mp m with m | m
      · exact .inl m
      · rcases List.mem_cons.mp m with m | m
        · exact .inr (.inl m)
        · exact .inr (.inr m)
    · rintro (m | rfl | m)
      · exact List.mem_of_mem_take m
      · exact hs
      · exact List.mem_of_mem_drop m
  have dis : ∀ x, x ∈ r.drop (posn s r + 1) → x ∉ r.take (posn s r) ∧ x ≠ s := fun x m => by
    have nd := h.po.nd
    rw [← List.take_append_drop (posn s r + 1) r] at nd
    have d := (List.nodup_append.mp nd).2.2
    have e3 : r.take (posn s r + 1) = r.take (posn s r) ++ [s] := by rw [List.take_add_one, (posn_at hs).1]; rfl
    rw [e3] at d
    exact ⟨fun z => d x (List.mem_append_left _ z) x m rfl, fun z => d s (List.mem_append_right _ (List.mem_singleton.mpr rfl)) x m z.symm⟩
  have up : (bh c s).Pairwise (· ≤ ·) := (rng_up _).sublist List.filter_sublist
  refine srt_one ((srt_perm _).trans ?_) (srt_up _) up
  refine perm_of_mem nd2 ((rng_nodup _).filter _) fun x => ?_
  rw [mem_bh, ← h.set hs]
  constructor
  · intro m
    exact ⟨h.po.rg x (List.mem_of_mem_drop m), (dis x m).2, (dis x m).1⟩
  · rintro ⟨hr, hn, hx⟩
    rcases (split x).mp (ho.mem hr.1 hr.2) with m | m | m
    · exact absurd m hx
    · exact absurd m hn
    · exact m
section
open PySem PySem.Spec PyProof.Rows L2
/-- the same friends, needs no greater -/
def Eas (c c' : Co) : Prop := ∀ (i : Nat) (e : List Int × Int), c[i]? = some e → ∃ k, c'[i]? = some (e.1, k) ∧ (k = e.2 ∨ (0 ≤ k ∧ k ≤ e.2))
theorem Eas.refl (c : Co) : Eas c c := fun i e h => ⟨e.2, h, .inl rfl⟩
theorem Eas.step {c0 c : Co} (h : Eas c0 c) {s : Nat} {e : List Int × Int} (he : c[s]? = some e) (hs : (s : Int) ∉ gr c) : Eas c0 (c.set s (e.1, cnt c (gr c) s)) := fun i e0 h0 => by
  obtain ⟨k, h1, h2⟩ := h i e0 h0
  have hl := (List.getElem?_eq_some_iff.mp he).1
  by_cases q : s = i
  · subst q
    rw [he] at h1
    cases h1
    refine ⟨cnt c (gr c) s, List.getElem?_set_self hl, .inr ⟨by unfold cnt; omega, ?_⟩⟩
    have hn : comes c (gr c) s ≠ true := fun z => hs (cl_shut c [] [] s (by omega) (by omega) (by simp) ⟨gr c, fun _ h => h, z⟩)
    unfold comes at hn
    have hd : nd c (s : Int) = k := by
      unfold nd
      rw [Int.toNat_natCast, List.getD_eq_getElem?_getD, he]
      rfl
    rw [hd] at hn
    have hn' : ¬ k ≤ cnt c (gr c) (s : Int) := fun z => hn (decide_eq_true z)
    rcases h2 with h2 | h2 <;> omega
  · exact ⟨k, by rw [List.getElem?_set_ne q]; exact h1, h2⟩
theorem Eas.cow {c c' : Co} (h : Eas c c') (hl : c'.length = c.length) (w : CoW c) : CoW c' := by
  have back : ∀ (i : Nat) (e : List Int × Int), c'[i]? = some e → ∃ e0, c[i]? = some e0 ∧ e.1 = e0.1 ∧ 0 ≤ e.2 ∧ e.2 ≤ 1000 := fun i e hi => by
    have hil := (List.getElem?_eq_some_iff.mp hi).1
    have h0 : c[i]? = some c[i] := List.getElem?_eq_getElem (by omega)
    obtain ⟨k, h1, h2⟩ := h i _ h0
    rw [hi] at h1
    cases h1
    have := w.nn _ (List.mem_of_getElem? h0)
    have := w.nb _ (List.mem_of_getElem? h0)
    exact ⟨_, h0, rfl, by rcases h2 with h2 | h2 <;> (simp only; omega), by rcases h2 with h2 | h2 <;> (simp only; omega)⟩
  have mem : ∀ e ∈ c', ∃ e0 ∈ c, e.1 = e0.1 ∧ 0 ≤ e.2 ∧ e.2 ≤ 1000 := fun e he => by
    obtain ⟨i, hi⟩ := List.mem_iff_getElem?.mp he
    obtain ⟨e0, h1, h2⟩ := back i e hi
    exact ⟨e0, List.mem_of_getElem? h1, h2⟩
  refine ⟨fun e he => ?_, fun e he => ?_, fun e he => ?_, fun e he x hx => ?_, fun i e hi => ?_⟩
  · obtain ⟨e0, h1, h2, _⟩ := mem e he
    rw [h2]
    exact w.up e0 h1
  · obtain ⟨_, _, _, h3, _⟩ := mem e he
    exact h3
  · obtain ⟨_, _, _, _, h4⟩ := mem e he
    exact h4
  · obtain ⟨e0, h1, h2, _⟩ := mem e he
    rw [h2] at hx
    rw [hl]
    exact w.lt e0 h1 x hx
  · obtain ⟨e0, h1, h2, _⟩ := back i e hi
    rw [h2]
    exact w.no i e0 h1
abbrev T_eased : TrD := fun xs μ R => ∃ c, xs = [.d (coD c)] ∧ c.length ≤ 40 ∧ (∀ e ∈ c, e.1.length ≤ 1000) ∧ ∀ c', c'.length = c.length → (∀ e ∈ c', e.1.length ≤ 1000) → nev c' = [] → Eas c c' → R (.d (coD c')) μ
abbrev T_of : TrD := fun xs μ R => ∃ (b : Addr) (bs ds : List PyData) (m : Nat), xs = [.a b, .d (.list ds)] ∧ μ = ([(b, bs)] : Cells) ∧ BoxOk m bs ∧ ds ≠ [] ∧ ds.length ≤ 1000000 ∧ m ≤ 1000000000000 ∧ ∀ d ∈ ds, ∀ bs', BoxOk (m + 1) bs' → R (.d d) [(b, bs')]
abbrev T_strewn : TrD := fun xs μ R => ∃ (b : Addr) (bs ds : List PyData) (m : Nat), xs = [.a b, .d (.list ds)] ∧ μ = ([(b, bs)] : Cells) ∧ BoxOk m bs ∧ ds.length ≤ 10000 ∧ (∀ d ∈ ds, fits 3 d = true) ∧ m + 10000 ≤ 1000000000000 ∧ ∀ q (es : List PyData) bs', es.Perm ds → BoxOk (m + 10000) bs' → R (.a q) [(q, es), (b, bs')]
abbrev T_order : TrD := fun xs μ R => ∃ (b : Addr) (bs : List PyData) (c : Co) (m : Nat), xs = [.a b, .d (coD c)] ∧ μ = ([(b, bs)] : Cells) ∧ BoxOk m bs ∧ c.length ≤ 40 ∧ (∀ e ∈ c, e.1.length ≤ 1000) ∧ nev c = [] ∧ m + 100 ≤ 1000000000000 ∧ ∀ r bs', IsOrd c r → BoxOk (m + 100) bs' → R (.x (intsD r)) [(b, bs')]
abbrev T_led : TrD := fun xs μ R => ∃ (b : Addr) (bs : List PyData) (c : Co) (m : Nat) (s : Int), xs = [.a b, .d (coD c), .d (.list (intsD [s])), .d (.int s)] ∧ μ = ([(b, bs)] : Cells) ∧ BoxOk m bs ∧ c.length ≤ 40 ∧ (∀ e ∈ c, e.1.length ≤ 1000) ∧ nev c = [] ∧ 0 ≤ s ∧ s < c.length ∧ m + 100 ≤ 1000000000000 ∧
  ∀ r bs', IsOrd c r → Led c s r → BoxOk (m + 100) bs' → R (.x (intsD r)) [(b, bs')]
end
end Ec

set_option Elab.async false
set_option linter.all false
set_option maxRecDepth 100000
set_option maxHeartbeats 4000000
namespace Ec
/-! ### pairs by their first, by their last -/
theorem flat_one {β : Type} (f : Int → List β) {s : Int} : ∀ {l : List Int}, l.Nodup → s ∈ l → (l.flatMap fun p => if p = s then f p else []) = f s
  | [], _, h => by cases h
  | x :: l, nd, h => by
    obtain ⟨n1, n2⟩ := List.nodup_cons.mp nd
    rw [List.flatMap_cons]
    rcases List.mem_cons.mp h with rfl | h
    · rw [if_pos rfl]
      have : (l.flatMap fun p => if p = s then f p else []) = [] := List.flatMap_eq_nil_iff.mpr fun y hy => if_neg (fun e : y = s => n1 (by rw [← e]; exact hy))
      rw [this, List.append_nil]
    · rw [if_neg (fun e : x = s => n1 (by rw [e]; exact h)), List.nil_append]
      exact flat_one f n2 h
theorem mb_fst {c : Co} {s : Int} (h0 : 0 ≤ s) (h1 : s < c.length) : ((mb c).filter fun q => decide (q.1 = s)).map (fun q => PySem.PyData.int q.2) = intsD (bh c s) := by
  unfold mb
  rw [List.filter_flatMap]
  have e : (fun p => ((bh c p).map fun o => (p, o)).filter fun q : Int × Int => decide (q.1 = s)) = fun p => if p = s then (bh c p).map fun o => (p, o) else [] := by
    funext p
    rw [List.filter_map]
    by_cases hp : p = s
    · rw [if_pos hp]
      congr 1
      exact List.filter_eq_self.mpr fun x _ => by simp [hp]
    · rw [if_neg hp]
      have : (bh c p).filter ((fun q : Int × Int => decide (q.1 = s)) ∘ fun o => (p, o)) = [] := List.filter_eq_nil_iff.mpr fun x _ => by simp [hp]
      rw [this]
      rfl
  rw [e, flat_one _ (rng_nodup _) (mem_rng.mpr ⟨h0, h1⟩), List.map_map]
  rfl
theorem bh_nodup (c : Co) (p : Int) : (bh c p).Nodup := (rng_nodup _).filter _
theorem one_of {s : Int} : ∀ {l : List Int}, l.Nodup → l.filter (fun o => decide (o = s)) = if s ∈ l then [s] else []
  | [], _ => by simp
  | x :: l, nd => by
    obtain ⟨n1, n2⟩ := List.nodup_cons.mp nd
    rw [List.filter_cons, one_of n2]
    by_cases hx : x = s
    · subst hx
      simp [n1]
    · have : ¬ s = x := fun e => hx e.symm
      simp [hx, this]
theorem mb_snd {c : Co} {s : Int} : ((mb c).filter fun q => decide (q.2 = s)).map (fun q => PySem.PyData.int q.1) = intsD (er c s) := by
  unfold mb er
  rw [List.filter_flatMap, List.map_flatMap, List.filter_filter]
  have e : ∀ L : List Int, (L.flatMap fun p => (((bh c p).map fun o => (p, o)).filter fun q : Int × Int => decide (q.2 = s)).map fun q => PySem.PyData.int q.1) = intsD (L.filter fun p => decide (s ∈ bh c p) && !decide (p = s)) := fun L => by
    induction L with
    | nil => rfl
    | cons p r ih =>
      rw [List.flatMap_cons, ih, List.filter_cons, List.filter_map]
      have e1 : (bh c p).filter ((fun q : Int × Int => decide (q.2 = s)) ∘ fun o => (p, o)) = (bh c p).filter fun o => decide (o = s) := rfl
      rw [e1, one_of (bh_nodup c p)]
      by_cases h : s ∈ bh c p
      · have hn : p ≠ s := fun z => (mem_bh.mp h).2.1 z.symm
        simp [h, hn, intsD]
      · simp [h]
  exact e _
/-! ### how many are tied, how many free -/
def num (t : Nat → Nat → Bool) (a b : Nat) : Nat := ((List.range b).filter fun o => t a o).length
theorem mem_mb {c : Co} {p o : Int} : (p, o) ∈ mb c ↔ (0 ≤ p ∧ p < c.length) ∧ o ∈ bh c p := by
  unfold mb
  simp only [List.mem_flatMap, List.mem_map, Prod.mk.injEq]
  constructor
  · rintro ⟨x, hx, y, hy, rfl, rfl⟩
    exact ⟨mem_rng.mp hx, hy⟩
  · rintro ⟨h, ho⟩
    exact ⟨p, mem_rng.mpr h, o, ho, rfl, rfl⟩
theorem mem_prs {n : Nat} {a b : Int} : (a, b) ∈ prs n ↔ 0 ≤ a ∧ a < b ∧ b < n := by
  unfold prs
  simp only [List.mem_flatMap, List.mem_map, List.mem_filter, Prod.mk.injEq]
  constructor
  · rintro ⟨x, hx, y, ⟨hy, hl⟩, rfl, rfl⟩
    have := mem_rng.mp hx
    have := mem_rng.mp hy
    have := of_decide_eq_true hl
    omega
  · rintro ⟨h1, h2, h3⟩
    exact ⟨a, mem_rng.mpr ⟨h1, by omega⟩, b, ⟨mem_rng.mpr ⟨by omega, h3⟩, decide_eq_true h2⟩, rfl, rfl⟩
theorem flat_nodup {β : Type} (f : Int → List β) : ∀ {l : List Int}, l.Nodup → (∀ x ∈ l, (f x).Nodup) → (∀ x ∈ l, ∀ y ∈ l, x ≠ y → ∀ z, z ∈ f x → z ∉ f y) → (l.flatMap f).Nodup
  | [], _, _, _ => by simp
  | x :: l, nd, h1, h2 => by
    obtain ⟨n1, n2⟩ := List.nodup_cons.mp nd
    rw [List.flatMap_cons]
    refine List.nodup_append.mpr ⟨h1 x List.mem_cons_self, flat_nodup f n2 (fun y m => h1 y (List.mem_cons_of_mem _ m)) (fun y m z k => h2 y (List.mem_cons_of_mem _ m) z (List.mem_cons_of_mem _ k)), fun a ha b hb e => ?_⟩
    subst e
    obtain ⟨y, hy, hz⟩ := List.mem_flatMap.mp hb
    exact h2 x List.mem_cons_self y (List.mem_cons_of_mem _ hy) (fun e => n1 (e ▸ hy)) a ha hz
theorem map_nodup {α β : Type} {f : α → β} (hf : ∀ x y, f x = f y → x = y) {l : List α} (h : l.Nodup) : (l.map f).Nodup := by
  rw [List.nodup_iff_pairwise_ne, List.pairwise_map]
  exact (List.nodup_iff_pairwise_ne.mp h).imp fun hn e => hn (hf _ _ e)
theorem mb_nodup (c : Co) : (mb c).Nodup := flat_nodup _ (rng_nodup _) (fun x _ => map_nodup (fun a b e => (Prod.mk.inj e).2) (bh_nodup c x)) fun x _ y _ hn z hz => by
  obtain ⟨a, _, rfl⟩ := List.mem_map.mp hz
  intro h
  obtain ⟨b, _, e⟩ := List.mem_map.mp h
  exact hn (Prod.mk.inj e).1.symm
theorem prs_nodup (n : Nat) : (prs n).Nodup := flat_nodup _ (rng_nodup _) (fun x _ => map_nodup (fun a b e => (Prod.mk.inj e).2) ((rng_nodup _).filter _)) fun x _ y _ hn z hz => by
  obtain ⟨a, _, rfl⟩ := List.mem_map.mp hz
  intro h
  obtain ⟨b, _, e⟩ := List.mem_map.mp h
  exact hn (Prod.mk.inj e).1.symm
theorem prs_len : ∀ n : Nat, 2 * (prs n).length = n * (n - 1) := by
  have step : ∀ n : Nat, (prs (n + 1)).length = (prs n).length + n := fun n => by
    have p : (prs (n + 1)).Perm (prs n ++ (rng n).map fun a => (a, (n : Int))) := by
      refine (List.perm_ext_iff_of_nodup (prs_nodup _) (List.nodup_append.mpr ⟨prs_nodup n, map_nodup (fun a b e => (Prod.mk.inj e).1) (rng_nodup n), fun x hx y hy e => ?_⟩)).mpr fun x => ?_
      · subst e
        obtain ⟨x1, x2⟩ := x
        obtain ⟨a, _, e⟩ := List.mem_map.mp hy
        have := (Prod.mk.inj e).2
        have := mem_prs.mp hx
        omega
      · obtain ⟨x1, x2⟩ := x
        rw [List.mem_append, mem_prs, mem_prs, List.mem_map]
        constructor
        · rintro ⟨h1, h2, h3⟩
          by_cases hx : x2 = n
          · exact .inr ⟨x1, mem_rng.mpr ⟨h1, by omega⟩, by rw [hx]⟩
          · exact .inl ⟨h1, h2, by omega⟩
        · rintro (⟨h1, h2, h3⟩ | ⟨a, ha, e⟩)
          · exact ⟨h1, h2, by omega⟩
          · obtain ⟨e1, e2⟩ := Prod.mk.inj e
            have := mem_rng.mp ha
            omega
    rw [p.length_eq, List.length_append, List.length_map, rng_len]
  intro n
  induction n with
  | zero => rfl
  | succ n ih =>
    rw [step, Nat.mul_add, ih, Nat.add_sub_cancel]
    cases n with
    | zero => rfl
    | succ k =>
      rw [Nat.add_sub_cancel]
      have : (k + 1 + 1) * (k + 1) = (k + 1) * k + 2 * (k + 1) := by
        rw [Nat.add_mul, Nat.mul_comm (k + 1) k, Nat.add_mul]
        omega
      omega
theorem free_len {c : Co} (hw : nev c = []) : (fp c).length + (mb c).length = (prs c.length).length := by
  let up : List (Int × Int) := (prs c.length).filter fun q => decide (q ∈ mb c)
  let dn : List (Int × Int) := (prs c.length).filter fun q => decide ((q.2, q.1) ∈ mb c)
  have hmb : (mb c).Perm (up ++ dn.map fun q => (q.2, q.1)) := by
    refine (List.perm_ext_iff_of_nodup (mb_nodup c) (List.nodup_append.mpr ⟨(prs_nodup _).filter _, map_nodup (fun a b e => Prod.ext (Prod.mk.inj e).2 (Prod.mk.inj e).1) ((prs_nodup _).filter _), fun x hx y hy e => ?_⟩)).mpr fun x => ?_
    · subst e
      obtain ⟨q, hq, e⟩ := List.mem_map.mp hy
      obtain ⟨x1, x2⟩ := x
      obtain ⟨q1, q2⟩ := q
      obtain ⟨rfl, rfl⟩ := Prod.mk.inj e
      have h1 := mem_prs.mp (List.mem_filter.mp hx).1
      have h2 := mem_prs.mp (List.mem_filter.mp hq).1
      omega
    · obtain ⟨x1, x2⟩ := x
      rw [List.mem_append, List.mem_map]
      constructor
      · intro h
        obtain ⟨hp, ho⟩ := mem_mb.mp h
        obtain ⟨hr, hn, _⟩ := mem_bh.mp ho
        by_cases hlt : x1 < x2
        · exact .inl (List.mem_filter.mpr ⟨mem_prs.mpr ⟨hp.1, hlt, hr.2⟩, decide_eq_true h⟩)
        · exact .inr ⟨(x2, x1), List.mem_filter.mpr ⟨mem_prs.mpr ⟨hr.1, by omega, hp.2⟩, decide_eq_true h⟩, rfl⟩
      · rintro (h | ⟨q, hq, e⟩)
        · exact of_decide_eq_true (List.mem_filter.mp h).2
        · obtain ⟨q1, q2⟩ := q
          obtain ⟨rfl, rfl⟩ := Prod.mk.inj e
          exact of_decide_eq_true (List.mem_filter.mp hq).2
  have anti : ∀ q ∈ prs c.length, q ∈ mb c → (q.2, q.1) ∉ mb c := fun q _ h1 h2 => by
    obtain ⟨q1, q2⟩ := q
    obtain ⟨hp, ho⟩ := mem_mb.mp h1
    obtain ⟨_, ho2⟩ := mem_mb.mp h2
    exact tied_anti hw hp ho ho2
  have cnt3 : ∀ (f g : Int × Int → Bool) (L : List (Int × Int)), (∀ q ∈ L, f q = true → g q = false) → (L.filter fun q => !f q && !g q).length + ((L.filter f).length + (L.filter g).length) = L.length := fun f g L => by
    induction L with
    | nil => intro _; rfl
    | cons q r ih =>
      intro h
      have ih' := ih fun q m => h q (List.mem_cons_of_mem _ m)
      have h0 := h q List.mem_cons_self
      rw [List.filter_cons, List.filter_cons, List.filter_cons]
      cases hf : f q with
      | true =>
        rw [h0 hf]
        simp
        omega
      | false =>
        cases hg : g q <;> simp <;> omega
  have := cnt3 (fun q => decide (q ∈ mb c)) (fun q => decide ((q.2, q.1) ∈ mb c)) (prs c.length) fun q m h => decide_eq_false (anti q m (of_decide_eq_true h))
  rw [hmb.length_eq, List.length_append, List.length_map]
  exact this
section
open PySem PySem.Spec PyProof.Rows L2
abbrev T_soulr : TrD := fun xs μ R => ∃ (b : Addr) (bs : List PyData) (c : Co) (m : Nat) (s : Int), xs = [.a b, .d (coD c), .d (.int s), .d (.list ((mb c).map duoD))] ∧ μ = ([(b, bs)] : Cells) ∧ BoxOk m bs ∧ c.length ≤ 40 ∧ (∀ e ∈ c, e.1.length ≤ 1000) ∧ nev c = [] ∧ 0 ≤ s ∧ s < c.length ∧ m + 100 ≤ 1000000000000 ∧
  ∀ bs', BoxOk (m + 100) bs' → R (.d (.bool true)) [(b, bs')]
theorem shaped_tups (l : List Int) : SeqAt.shaped (.tuple (intsD l)) = true := shaped_tup l
end
end Ec

set_option Elab.async false
set_option linter.all false
namespace Ec
open PySem PySem.Spec PyProof.Rows L2
theorem mem_fp {c : Co} {a b : Int} : (a, b) ∈ fp c ↔ 0 ≤ a ∧ a < b ∧ b < c.length ∧ (a, b) ∉ mb c ∧ (b, a) ∉ mb c := by
  unfold fp
  rw [List.mem_filter, mem_prs]
  simp [and_assoc]
mutual
theorem fits_up : ∀ (n : Nat) (d : PyData), fits n d = true → fits (n + 1) d = true
  | _, .none, _ => by unfold fits; rfl
  | _, .bool _, _ => by unfold fits; rfl
  | _, .int _, _ => by unfold fits; rfl
  | _, .str x, h => by
    unfold fits at h ⊢
    exact h
  | 0, .list _, h => by unfold fits at h; cases h
  | 0, .tuple _, h => by unfold fits at h; cases h
  | n + 1, .list ds, h => by
    unfold fits at h ⊢
    rw [Bool.and_eq_true_iff] at h ⊢
    exact ⟨h.1, fits_ups n ds h.2⟩
  | n + 1, .tuple ds, h => by
    unfold fits at h ⊢
    rw [Bool.and_eq_true_iff] at h ⊢
    exact ⟨h.1, fits_ups n ds h.2⟩
  | n, .dict _, h => by cases n <;> (unfold fits at h; cases h)
theorem fits_ups : ∀ (n : Nat) (ds : List PyData), ds.all (fits n) = true → ds.all (fits (n + 1)) = true
  | _, [], _ => rfl
  | n, d :: ds, h => by
    rw [List.all_cons, Bool.and_eq_true_iff] at h ⊢
    exact ⟨fits_up n d h.1, fits_ups n ds h.2⟩
end
theorem fits_mono {n m : Nat} {d : PyData} (h : fits n d = true) (l : n ≤ m := by decide) : fits m d = true := by
  induction l with
  | refl => exact h
  | step _ ih => exact fits_up _ _ ih
end Ec

set_option Elab.async false
set_option linter.all false
set_option maxRecDepth 100000
set_option maxHeartbeats 4000000
namespace Ec
open PySem PySem.Spec PyProof.Rows L2
section
variable {X : Cx} {δ : Dl} {μ : Cells} {e a b tg : Expr} {pos p : Pos} {Q : Vd → Cells → Prop} {D : Dn} {QI : List PyData → Cells → Prop} {mg : Str → Option Value}
/-! ### slots forgotten -/
theorem Rp.forg1 {K : PySem.W.Frag} {F H : Hp} {σ : L2.St} {μ : Cells} (r : Rp K F H σ δ μ) (i : Nat) : Rp K F H σ (δ.set i none) μ := by
  refine ⟨r.m, by rw [List.length_set, r.len], fun j y e => ?_⟩
  by_cases hj : i = j
  · subst hj
    by_cases hl : i < δ.length
    · rw [List.getElem?_set_self hl] at e
      cases e
    · rw [List.getElem?_eq_none (by rw [List.length_set]; omega)] at e
      cases e
  · rw [List.getElem?_set_ne hj] at e
    exact r.env j y e
theorem Rp.forg {K : PySem.W.Frag} {F H : Hp} {σ : L2.St} {μ : Cells} (r : Rp K F H σ δ μ) : ∀ vs : List Nat, Rp K F H σ (wipeD δ vs) μ
  | [] => r
  | v :: vs => (Rp.forg r vs).forg1 v
theorem wb_forg {sts : List Stmt} (is : List Nat) (h : WB X sts (wipeD δ is) μ D) : WB X sts δ μ D := fun F H σ R De b => h F H σ (R.forg is) De b
/-- for, where the slots that the loop stores are forgotten at each turn's end -/
theorem ws_forFG {iv : PyData → Vd} {iter : Expr} {body : List Stmt} (is fs : List Nat) (hp : PassesOwn (model X.prog X.w) X.A X.env X.xe) (hc : X.calm = true)
    (h : WI X tg iter δ μ fun ds μ1 => ∃ I : Nat → Cells → Prop, I 0 μ1 ∧ (∀ i d μ', ds[i]? = some d → I i μ' → WGo X is tg (iv d) (wipeD δ fs) μ' fun δ2 μ2 => WB X body δ2 μ2 { nx := fun δ3 μ3 => wipeD δ3 fs = wipeD δ fs ∧ I (i + 1) μ3, rt := D.rt, bk := fun δ3 μ3 => wipeD δ3 fs = wipeD δ fs ∧ D.nx (wipeD δ fs) μ3, ct := fun δ3 μ3 => wipeD δ3 fs = wipeD δ fs ∧ I (i + 1) μ3 }) ∧ ∀ μ', I ds.length μ' → D.nx (wipeD δ fs) μ')
    (hw : itV iter = iv)
    (hs : ∀ x, foldedSetIterable iter X.env x = pure x := by intro _; rfl) : WS X (.For tg iter body [] pos) δ μ D := fun F H σ R De b =>
  toS (ps_for hp hc (pcI X tg iter) (pcG X tg) (pcB X body) hs) (h F H σ R _ fun J ds F1 H1 μ1 w1 R1 wk q => by
    subst hw
    obtain ⟨I, h0, hturn, hend⟩ := q
    refine ⟨fun i m σ' H' => m = ds.length - i ∧ i ≤ ds.length ∧ ∃ F' μ', Fw (ks μ1) (ks μ') F1 H1 F' H' ∧ Rp X.K F' H' σ' (wipeD δ fs) μ' ∧ I i μ', ⟨_, rfl, Nat.zero_le _, F1, μ1, Fw.refl, R1.forg fs, h0⟩, ?_⟩
    rintro i m σ' H' ⟨rfl, hi, F', μ', w', R', hI⟩
    by_cases hlt : i < ds.length
    · refine .inr ⟨wk.go i F' H' hlt w'.f R'.m.ex, _, fun _ _ z => z, fun x H2 y => ?_⟩
      obtain ⟨F2, f1, f2, f3, f4, f5⟩ := wk.yld i F' H' x H2 _ (List.getElem?_eq_getElem hlt) w'.f R'.m.ex y
      obtain ⟨m2, w2⟩ := R'.m.nil_up f1 f2 f3 f4
      refine hturn i _ μ' (List.getElem?_eq_getElem hlt) hI F2 H2 σ' (R'.to f1 m2) x f5 _ fun F3 H3 σ3 δ3 μ3 w3 R3 _ q3 => ?_
      have wa := (w'.trans w2).trans w3
      have back : ∀ F4 H4 σ4 δ4 μ4, Fw (ks μ3) (ks μ4) F3 H3 F4 H4 → Rp X.K F4 H4 σ4 δ4 μ4 → (wipeD δ4 fs = wipeD δ fs ∧ I (i + 1) μ4) → ∃ m', m' < ds.length - i ∧ (m' = ds.length - (i + 1) ∧ i + 1 ≤ ds.length ∧ ∃ F' μ', Fw (ks μ1) (ks μ') F1 H1 F' H4 ∧ Rp X.K F' H4 σ4 (wipeD δ fs) μ' ∧ I (i + 1) μ') :=
        fun F4 H4 σ4 δ4 μ4 w4 R4 q4 => ⟨_, by omega, rfl, hlt, F4, μ4, wa.trans w4, by rw [← q4.1]; exact R4.forg fs, q4.2⟩
      have bb := (b.next w1).next wa
      refine q3 F3 H3 σ3 R3 _ ⟨back, bb.rt, fun F4 H4 σ4 δ4 μ4 w4 R4 q4 => bb.nx F4 H4 σ4 (wipeD δ fs) μ4 w4 (by rw [← q4.1]; exact R4.forg fs) q4.2, back⟩
    · have e : i = ds.length := by omega
      subst e
      exact .inl ⟨wk.stop F' H' w'.f R'.m.ex, b.nx F' H' σ' _ μ' (w1.trans w') R' (hend μ' hI)⟩)
theorem ws_forF {iter : Expr} {body : List Stmt} (is fs : List Nat) (hp : PassesOwn (model X.prog X.w) X.A X.env X.xe) (hc : X.calm = true)
    (h : WI X tg iter δ μ fun ds μ1 => ∃ I : Nat → Cells → Prop, I 0 μ1 ∧ (∀ i d μ', ds[i]? = some d → I i μ' → WGo X is tg (.d d) (wipeD δ fs) μ' fun δ2 μ2 => WB X body δ2 μ2 { nx := fun δ3 μ3 => wipeD δ3 fs = wipeD δ fs ∧ I (i + 1) μ3, rt := D.rt, bk := fun δ3 μ3 => wipeD δ3 fs = wipeD δ fs ∧ D.nx (wipeD δ fs) μ3, ct := fun δ3 μ3 => wipeD δ3 fs = wipeD δ fs ∧ I (i + 1) μ3 }) ∧ ∀ μ', I ds.length μ' → D.nx (wipeD δ fs) μ')
    (hs : ∀ x, foldedSetIterable iter X.env x = pure x := by intro _; rfl) (hw : itV iter = Vd.d := by rfl) : WS X (.For tg iter body [] pos) δ μ D := ws_forFG is fs hp hc h hw hs
theorem ws_forFW {iter : Expr} {body : List Stmt} (is fs : List Nat) (hp : PassesOwn (model X.prog X.w) X.A X.env X.xe) (hc : X.calm = true)
    (h : WI X tg iter δ μ fun ds μ1 => ∃ I : Nat → Cells → Prop, I 0 μ1 ∧ (∀ i d μ', ds[i]? = some d → I i μ' → WGo X is tg (.w d) (wipeD δ fs) μ' fun δ2 μ2 => WB X body δ2 μ2 { nx := fun δ3 μ3 => wipeD δ3 fs = wipeD δ fs ∧ I (i + 1) μ3, rt := D.rt, bk := fun δ3 μ3 => wipeD δ3 fs = wipeD δ fs ∧ D.nx (wipeD δ fs) μ3, ct := fun δ3 μ3 => wipeD δ3 fs = wipeD δ fs ∧ I (i + 1) μ3 }) ∧ ∀ μ', I ds.length μ' → D.nx (wipeD δ fs) μ')
    (hs : ∀ x, foldedSetIterable iter X.env x = pure x := by intro _; rfl) (hw : itV iter = Vd.w := by rfl) : WS X (.For tg iter body [] pos) δ μ D := ws_forFG is fs hp hc h hw hs
/-! ### ranges of naturals -/
theorem wi_rng (hg : Gl X "range") (hm : X.mg "range" = none) (h : WE X a δ μ fun x μ1 => ∃ n : Nat, x = .d (.int (n : Int)) ∧ n ≤ 100000 ∧ QI (intsD (rng n)) μ1) (hs : starEach [a] X.env = [(false, eval a X.env)] := by rfl) :
    WI X tg (.Call (.Name "range" p) [a] [] pos) δ μ QI :=
  wi_range1 hg hm (wa_one (h.mono fun x μ1 q => by
    obtain ⟨n, rfl, hn, q⟩ := q
    refine ⟨_, rfl, by omega, by omega, ?_⟩
    rw [Int.toNat_natCast, rangeD_eq]
    exact q) (by rw [hs]; rfl)) hs
theorem eqv_dint (i j : Int) : PyData.eqv (.int i) (.int j) = decide (i = j) := by simp only [PyData.eqv]; rfl
theorem bls_map {α : Type} (L : List α) (f : α → Bool) : (L.map fun a => PyData.bool (f a)) = blsD (L.map f) := by simp [blsD]
theorem we_allM (B : Bl mg) (hg : Gl X "all") (hc : X.calm = true) (h : WE X e δ μ fun x μ1 => ∃ (α : Type) (L : List α) (f : α → Bool), x = .d (.list (L.map fun a => .bool (f a))) ∧ Q (.d (.bool (L.all f))) μ1) (hm : X.mg = mg := by rfl) (s1 : starEach [e] X.env = (false, eval e X.env) :: starEach [] X.env := by rfl) (s2 : (backTo pos (starEach [] X.env)).any (·.1) = false := by rfl) :
    WE X (.Call (.Name "all" p) [e] [] pos) δ μ Q := we_all B hg hc (h.mono fun x μ1 q => by
  obtain ⟨α, L, f, rfl, q⟩ := q
  refine ⟨L.map f, by rw [bls_map]; exact .l _, (fun _ z => by cases z), ?_⟩
  rw [List.all_map]
  exact q) hm s1 s2
theorem we_anyM (B : Bl mg) (hg : Gl X "any") (hc : X.calm = true) (h : WE X e δ μ fun x μ1 => ∃ (α : Type) (L : List α) (f : α → Bool), x = .d (.list (L.map fun a => .bool (f a))) ∧ Q (.d (.bool (L.any f))) μ1) (hm : X.mg = mg := by rfl) (s1 : starEach [e] X.env = (false, eval e X.env) :: starEach [] X.env := by rfl) (s2 : (backTo pos (starEach [] X.env)).any (·.1) = false := by rfl) :
    WE X (.Call (.Name "any" p) [e] [] pos) δ μ Q := we_any B hg hc (h.mono fun x μ1 q => by
  obtain ⟨α, L, f, rfl, q⟩ := q
  refine ⟨L.map f, by rw [bls_map]; exact .l _, (fun _ z => by cases z), ?_⟩
  rw [List.any_map]
  exact q) hm s1 s2
theorem enum_eq (r : List Int) : enumD (intsD r) = (List.range r.length).map fun i : Nat => .tuple [.int (i : Int), .int (r.getD i 0)] := by
  refine List.ext_getElem? fun j => ?_
  unfold enumD
  rw [List.getElem?_mapIdx, List.getElem?_map, List.getElem?_map]
  by_cases hj : j < r.length
  · rw [List.getElem?_range hj]
    simp [List.getD_eq_getElem?_getD, List.getElem?_eq_getElem hj]
  · rw [List.getElem?_eq_none (by omega), List.getElem?_eq_none (by rw [List.length_range]; omega)]
    rfl
theorem all_of {α : Type} {L : List α} {f : α → Bool} (h : ∀ x ∈ L, f x = true) : L.all f = true := List.all_eq_true.mpr h
end
end Ec

set_option Elab.async false
set_option linter.all false
set_option maxRecDepth 100000
set_option maxHeartbeats 4000000
namespace Ec
open PySem PySem.Spec PyProof.Rows L2
theorem atI_ints {r : List Int} {i : Nat} (h : i < r.length) : atI (intsD r) (i : Int) = some (.int (r.getD i 0)) := by
  refine atI_nat (j := i) ?_
  rw [List.getElem?_map, List.getElem?_eq_getElem h, List.getD_eq_getElem?_getD, List.getElem?_eq_getElem h]
  rfl
theorem ints_app (a b : List Int) : intsD (a ++ b) = intsD a ++ intsD b := List.map_append
/-! ### exchanges -/
def swp (r : List Int) (i : Nat) : List Int := r.take i ++ [r.getD (i + 1) 0, r.getD i 0] ++ r.drop (i + 2)
theorem swp_perm {r : List Int} {i : Nat} (h : i + 1 < r.length) : (swp r i).Perm r := by
  have e1 : r.drop i = r.getD i 0 :: r.drop (i + 1) := by
    rw [List.drop_eq_getElem_cons (by omega), List.getD_eq_getElem?_getD, List.getElem?_eq_getElem (by omega)]
    rfl
  have e2 : r.drop (i + 1) = r.getD (i + 1) 0 :: r.drop (i + 2) := by
    rw [List.drop_eq_getElem_cons h, List.getD_eq_getElem?_getD, List.getElem?_eq_getElem h]
    rfl
  have e3 : r.take i ++ (r.getD i 0 :: r.getD (i + 1) 0 :: r.drop (i + 2)) = r := by
    rw [← e2, ← e1, List.take_append_drop]
  refine List.Perm.trans ?_ (List.Perm.of_eq e3)
  unfold swp
  rw [List.append_assoc]
  exact List.Perm.append_left _ (List.Perm.swap _ _ _)
theorem swp_len {r : List Int} {i : Nat} (h : i + 1 < r.length) : (swp r i).length = r.length := (swp_perm h).length_eq
theorem misV_none (c : Co) (r : List Int) : isNone (misV c r) = (misL c r).isEmpty := by
  unfold misV
  cases misL c r <;> rfl
abbrev natsD (l : List Nat) : List PyData := l.map fun i : Nat => .int (i : Int)
theorem rangeD_nats (n : Nat) : rangeD 0 n = natsD (List.range n) := by
  unfold rangeD natsD
  refine List.map_congr_left fun i _ => ?_
  rw [Int.zero_add]
def frp (c : Co) (r : List Int) : List Nat := (List.range (r.length - 1)).filter fun i => (misL c (swp r i)).isEmpty
abbrev T_swap : TrD := fun xs μ R => ∃ dr r, ∃ i : Nat, xs = [.d dr, .d (.int (i : Int))] ∧ SqD dr (intsD r) ∧ i + 1 < r.length ∧ r.length ≤ 1000 ∧ R (.d (.tuple (intsD (swp r i)))) μ
abbrev T_looko : TrD := fun xs μ R => ∃ dc c dr r, xs = [.d dc, .d dr] ∧ CoD dc c ∧ SqD dr (intsD r) ∧ r.length ≤ 1000 ∧ (∀ x ∈ r, 0 ≤ x ∧ x < c.length) ∧ misL c r = [] ∧ R (.d .none) μ
abbrev T_lookos : TrD := fun xs μ R => ∃ dc c d1 r1 d2 r2, xs = [.d dc, .d d1, .d d2] ∧ CoD dc c ∧ c.length < 64 ∧ nev c = [] ∧ SqD d1 (intsD r1) ∧ IsOrd c r1 ∧ SqD d2 (intsD r2) ∧ IsOrd c r2 ∧ R (.d .none) μ
abbrev T_frp : TrD := fun xs μ R => ∃ dc c dr r, xs = [.d dc, .d dr] ∧ CoD dc c ∧ SqD dr (intsD r) ∧ r.length ≤ 1000 ∧ (∀ x ∈ r, 0 ≤ x ∧ x < c.length) ∧ ∀ q, R (.a q) ((q, natsD (frp c r)) :: μ)
abbrev T_exs : TrD := fun xs μ R => ∃ dc c dr r, xs = [.d dc, .d dr] ∧ CoD dc c ∧ c.length < 64 ∧ nev c = [] ∧ SqD dr (intsD r) ∧ IsOrd c r ∧ ∀ q, R (.a q) ((q, natsD (frp c r)) :: μ)
abbrev T_exd : TrD := fun xs μ R => ∃ dc c dr r, ∃ i : Nat, xs = [.d dc, .d dr, .d (.int (i : Int))] ∧ CoD dc c ∧ c.length < 64 ∧ nev c = [] ∧ SqD dr (intsD r) ∧ IsOrd c r ∧ i ∈ frp c r ∧ R (.d (.tuple (intsD (swp r i)))) μ
theorem IsOrd.rows {c : Co} {r : List Int} (h : IsOrd c r) : ∀ x ∈ r, 0 ≤ x ∧ x < c.length := h.po.rg
theorem IsOrd.lens {c : Co} {r : List Int} (h : IsOrd c r) : r.length = c.length := by
  have := h.perm.length_eq
  rw [rng_len] at this
  exact this
def downD (lo : Int) (n : Nat) : List PyData := (List.range n).map fun t : Nat => .int (lo - (t : Int))
theorem wk_down {K : PySem.W.Frag} {F0 : Hp} (lo : Int) (n : Nat) : Wk K (Itc lo (-1) n) F0 Vd.d (downD lo n) where
  go := fun i F H h _ _ => by
    simp only [downD, List.length_map, List.length_range] at h
    exact h
  yld := fun i F H x H' d h f1 f2 y => by
    obtain ⟨rfl, rfl⟩ := y
    have hl := (List.getElem?_eq_some_iff.mp h).1
    simp only [downD, List.length_map, List.length_range] at hl
    unfold downD at h
    rw [List.getElem?_map, List.getElem?_range hl] at h
    cases h
    refine ⟨F, Same.refl F, f2, Same.refl _, fun b e _ => e, ?_⟩
    have e : lo + (i : Nat) * (-1 : Int) = lo - (i : Int) := by omega
    rw [e]
    exact De.int _
  stop := fun F H _ _ => by
    simp only [downD, List.length_map, List.length_range]
    exact Nat.le_refl _
section
variable {X : Cx} {δ : Dl} {μ : Cells} {a b c tg : Expr} {pos p : Pos} {QI : List PyData → Cells → Prop}
theorem wi_down (hg : Gl X "range") (hm : X.mg "range" = none) (h : WA X [a, b, c] δ μ fun xs μ1 => ∃ i j : Int, xs = [.d (.int i), .d (.int j), .d (.int (-1))] ∧ -100000 ≤ i ∧ i ≤ 100000 ∧ -100000 ≤ j ∧ j ≤ 100000 ∧ QI (downD i (i - j).toNat) μ1)
    (hs : starEach [a, b, c] X.env = (false, eval a X.env) :: starEach [b, c] X.env := by rfl) (hpl : (backTo pos (starEach [b, c] X.env)).any (·.1) = false := by rfl) :
    WI X tg (.Call (.Name "range" p) [a, b, c] [] pos) δ μ QI := fun F H σ R RV cc =>
  toI (pi_range3 hg hm (pcA X [a, b, c]) hs hpl) (h F H σ R _ fun vs xs F1 H1 μ1 w1 R1 o1 q => by
    obtain ⟨i, j, rfl, h1, h2, h3, h4, q⟩ := q
    cases o1 with
    | cons r rr =>
      cases rr with
      | cons r2 rr =>
        cases rr with
        | cons r3 rr =>
          cases rr
          exact ⟨i, j, -1, (i - j).toNat, by rw [dp_int r, dp_int r2, dp_int r3], RgC.neg (by omega) (by omega) (by omega) (by omega), cc _ _ F1 H1 μ1 w1 R1 (wk_down i _) q⟩)
end
theorem rng_item {n i : Nat} {d : PyData} (h : (intsD (rng n))[i]? = some d) : i < n ∧ d = .int (i : Int) := by
  have hl := (List.getElem?_eq_some_iff.mp h).1
  rw [List.length_map, rng_len] at hl
  unfold intsD rng at h
  rw [List.getElem?_map, List.getElem?_map, List.getElem?_range hl] at h
  cases h
  exact ⟨hl, rfl⟩
theorem map_item {α : Type} {f : α → PyData} {l : List α} {i : Nat} {d : PyData} (h : (l.map f)[i]? = some d) : ∃ x, l[i]? = some x ∧ d = f x := by
  rw [List.getElem?_map] at h
  cases q : l[i]? with
  | none =>
    rw [q] at h
    cases h
  | some x =>
    rw [q] at h
    cases h
    exact ⟨x, rfl, rfl⟩
theorem enum_item {r : List Int} {i : Nat} {d : PyData} (h : (enumD (intsD r))[i]? = some d) : i < r.length ∧ d = .tuple [.int (i : Int), .int (r.getD i 0)] := by
  rw [enum_eq] at h
  obtain ⟨j, hj, rfl⟩ := map_item h
  have hl := (List.getElem?_eq_some_iff.mp hj).1
  rw [List.length_range] at hl
  rw [List.getElem?_range hl] at hj
  cases hj
  exact ⟨hl, rfl⟩
theorem down_item {lo : Int} {n i : Nat} {d : PyData} (h : (downD lo n)[i]? = some d) : i < n ∧ d = .int (lo - (i : Int)) := by
  unfold downD at h
  obtain ⟨j, hj, rfl⟩ := map_item h
  have hl := (List.getElem?_eq_some_iff.mp hj).1
  rw [List.length_range] at hl
  rw [List.getElem?_range hl] at hj
  cases hj
  exact ⟨hl, rfl⟩
theorem rng_items (n : Nat) : (intsD (rng n)).length = n := by rw [List.length_map, rng_len]
theorem enum_items (r : List Int) : (enumD (intsD r)).length = r.length := by rw [enumD_len, List.length_map]
theorem down_items (lo : Int) (n : Nat) : (downD lo n).length = n := by simp [downD]
theorem eqv_dbool (i j : Bool) : PyData.eqv (.bool i) (.bool j) = decide (i = j) := by cases i <;> cases j <;> simp [PyData.eqv]
def crs (n : Nat) (r1 r2 : List Int) : List (Int × Int) := (prs n).filter fun x => !decide (decide (((posn x.1 r1 : Nat) : Int) < ((posn x.2 r1 : Nat) : Int)) = decide (((posn x.1 r2 : Nat) : Int) < ((posn x.2 r2 : Nat) : Int)))
theorem crs_le (n : Nat) (r1 r2 : List Int) : (crs n r1 r2).length ≤ n * n := by
  unfold crs
  refine Nat.le_trans (List.length_filter_le _ _) ?_
  have := prs_len n
  have h2 : n * (n - 1) ≤ n * n := Nat.mul_le_mul_left _ (by omega)
  omega
abbrev T_cross : TrD := fun xs μ R => ∃ dc c d1 r1 d2 r2, xs = [.d dc, .d d1, .d d2] ∧ CoD dc c ∧ c.length ≤ 60 ∧ nev c = [] ∧ SqD d1 (intsD r1) ∧ IsOrd c r1 ∧ SqD d2 (intsD r2) ∧ IsOrd c r2 ∧ ∀ q, R (.a q) ((q, (crs c.length r1 r2).map duoD) :: μ)
abbrev T_dist : TrD := fun xs μ R => ∃ dc c d1 r1 d2 r2, xs = [.d dc, .d d1, .d d2] ∧ CoD dc c ∧ c.length ≤ 60 ∧ nev c = [] ∧ SqD d1 (intsD r1) ∧ IsOrd c r1 ∧ SqD d2 (intsD r2) ∧ IsOrd c r2 ∧ R (.d (.int ((crs c.length r1 r2).length : Nat))) μ
theorem IsOrd.mem' {c : Co} {r : List Int} (h : IsOrd c r) {x : Int} (g : 0 ≤ x ∧ x < c.length) : x ∈ r := h.mem g.1 g.2
end Ec

set_option Elab.async false
set_option linter.all false
namespace Ec
open PySem PySem.Spec PyProof.Rows L2
/-! ### places -/
theorem posn_eq {v : Int} {r : List Int} {k : Nat} (h : r.Nodup) (e : r[k]? = some v) : posn v r = k := by
  have hm : v ∈ r := List.mem_of_getElem? e
  have h1 := (posn_at hm).1
  exact (List.getElem?_inj (posn_lt hm) h).mp (h1.trans e.symm)
theorem swp_get {r : List Int} {i : Nat} (h : i + 1 < r.length) (j : Nat) : (swp r i)[j]? = if j = i then r[i + 1]? else if j = i + 1 then r[i]? else r[j]? := by
  unfold swp
  have l1 : (r.take i).length = i := by rw [List.length_take]; omega
  by_cases h1 : j < i
  · rw [List.append_assoc, List.getElem?_append_left (by omega), if_neg (by omega), if_neg (by omega), List.getElem?_take_of_lt h1]
  · by_cases h2 : j = i
    · subst h2
      rw [if_pos rfl, List.append_assoc, List.getElem?_append_right (by omega), l1, Nat.sub_self, List.getElem?_eq_getElem h]
      simp [List.getD_eq_getElem?_getD, List.getElem?_eq_getElem h]
    · by_cases h3 : j = i + 1
      · subst h3
        rw [if_neg h2, if_pos rfl, List.append_assoc, List.getElem?_append_right (by omega), l1, Nat.add_sub_cancel_left, List.getElem?_eq_getElem (show i < r.length by omega)]
        simp [List.getD_eq_getElem?_getD, List.getElem?_eq_getElem (show i < r.length by omega)]
      · rw [if_neg h2, if_neg h3, List.getElem?_append_right (by simp; omega), List.getElem?_drop]
        congr 1
        simp
        omega
/-- a row of all -/
structure Row (n : Nat) (r : List Int) : Prop where
  nd : r.Nodup
  rg : ∀ x, x ∈ r ↔ 0 ≤ x ∧ x < n
theorem IsOrd.row {c : Co} {r : List Int} (h : IsOrd c r) : Row c.length r := ⟨h.po.nd, fun x => ⟨h.po.rg x, fun g => h.mem g.1 g.2⟩⟩
theorem Row.len {n : Nat} {r : List Int} (h : Row n r) : r.length = n := by
  have := (perm_of_mem h.nd (rng_nodup n) fun x => (h.rg x).trans mem_rng.symm).length_eq
  rw [rng_len] at this
  exact this
theorem Row.swp {n : Nat} {r : List Int} (h : Row n r) {i : Nat} (hi : i + 1 < r.length) : Row n (swp r i) :=
  ⟨(swp_perm hi).nodup_iff.mpr h.nd, fun x => (swp_perm hi).mem_iff.trans (h.rg x)⟩
theorem Row.at {n : Nat} {r : List Int} (h : Row n r) {i : Nat} (hi : i < r.length) : r[i]? = some (r.getD i 0) := by
  rw [List.getD_eq_getElem?_getD, List.getElem?_eq_getElem hi]
  rfl
theorem Row.get_mem {n : Nat} {r : List Int} (h : Row n r) {i : Nat} (hi : i < r.length) : r.getD i 0 ∈ r := List.mem_of_getElem? (h.at hi)
theorem Row.posn {n : Nat} {r : List Int} (h : Row n r) {i : Nat} (hi : i < r.length) : posn (r.getD i 0) r = i := posn_eq h.nd (h.at hi)
theorem Row.ne {n : Nat} {r : List Int} (h : Row n r) {i j : Nat} (hi : i < r.length) (hj : j < r.length) (hn : i ≠ j) : r.getD i 0 ≠ r.getD j 0 := fun e => hn (by rw [← h.posn hi, ← h.posn hj, e])
theorem Row.get_posn {n : Nat} {r : List Int} (h : Row n r) {v : Int} (hv : v ∈ r) : r.getD (Ec.posn v r) 0 = v := by
  rw [List.getD_eq_getElem?_getD, (posn_at hv).1]
  rfl
/-- places after an exchange -/
theorem posn_swp {n : Nat} {r : List Int} (h : Row n r) {i : Nat} (hi : i + 1 < r.length) {v : Int} (hv : v ∈ r) :
    posn v (swp r i) = if v = r.getD i 0 then i + 1 else if v = r.getD (i + 1) 0 then i else posn v r := by
  have nd := (h.swp hi).nd
  refine posn_eq nd ?_
  rw [swp_get hi]
  by_cases h1 : v = r.getD i 0
  · rw [if_pos h1, if_neg (by omega), if_pos rfl, h.at (by omega), h1]
  · by_cases h2 : v = r.getD (i + 1) 0
    · rw [if_neg h1, if_pos h2, if_pos rfl, h.at hi, h2]
    · have hp := (posn_at hv).1
      have hl := posn_lt hv
      have e := h.get_posn hv
      have n1 : posn v r ≠ i := fun z => h1 (by rw [← e, z])
      have n2 : posn v r ≠ i + 1 := fun z => h2 (by rw [← e, z])
      rw [if_neg h1, if_neg h2, if_neg n1, if_neg n2]
      exact hp
theorem swp_lt {n : Nat} {r : List Int} (h : Row n r) {i : Nat} (hi : i + 1 < r.length) {a b : Int} (ha : a ∈ r) (hb : b ∈ r) (hn : ¬ (a = r.getD i 0 ∧ b = r.getD (i + 1) 0)) (hn2 : ¬ (b = r.getD i 0 ∧ a = r.getD (i + 1) 0)) :
    posn a (swp r i) < posn b (swp r i) ↔ posn a r < posn b r := by
  rw [posn_swp h hi ha, posn_swp h hi hb]
  have p1 := h.posn (i := i) (by omega)
  have p2 := h.posn (i := i + 1) hi
  have inj : ∀ {u v : Int}, u ∈ r → v ∈ r → posn u r = posn v r → u = v := fun hu hv e => posn_inj hu hv e
  have m1 := h.get_mem (i := i) (by omega)
  have m2 := h.get_mem (i := i + 1) hi
  by_cases a1 : a = r.getD i 0
  · by_cases b1 : b = r.getD i 0
    · rw [a1, b1]; simp
    · have b2 : b ≠ r.getD (i + 1) 0 := fun z => hn ⟨a1, z⟩
      have nb : posn b r ≠ i := fun z => b1 (inj hb m1 (z.trans p1.symm))
      have nb2 : posn b r ≠ i + 1 := fun z => b2 (inj hb m2 (z.trans p2.symm))
      rw [if_pos a1, if_neg b1, if_neg b2, a1, p1]
      omega
  · by_cases a2 : a = r.getD (i + 1) 0
    · by_cases b1 : b = r.getD i 0
      · exact absurd ⟨b1, a2⟩ hn2
      · by_cases b2 : b = r.getD (i + 1) 0
        · rw [a2, b2]; simp
        · have nb : posn b r ≠ i := fun z => b1 (inj hb m1 (z.trans p1.symm))
          have nb2 : posn b r ≠ i + 1 := fun z => b2 (inj hb m2 (z.trans p2.symm))
          rw [if_neg a1, if_pos a2, if_neg b1, if_neg b2, a2, p2]
          omega
    · have na : posn a r ≠ i := fun z => a1 (inj ha m1 (z.trans p1.symm))
      have na2 : posn a r ≠ i + 1 := fun z => a2 (inj ha m2 (z.trans p2.symm))
      rw [if_neg a1, if_neg a2]
      by_cases b1 : b = r.getD i 0
      · rw [if_pos b1, b1, p1]
        omega
      · by_cases b2 : b = r.getD (i + 1) 0
        · rw [if_neg b1, if_pos b2, b2, p2]
          omega
        · rw [if_neg b1, if_neg b2]
/-- pairs that stand crossed -/
def xd (r s : List Int) (x : Int × Int) : Bool := !decide (decide (((posn x.1 r : Nat) : Int) < ((posn x.2 r : Nat) : Int)) = decide (((posn x.1 s : Nat) : Int) < ((posn x.2 s : Nat) : Int)))
theorem crs_eq (n : Nat) (r s : List Int) : crs n r s = (prs n).filter (xd r s) := rfl
theorem xd_iff {r s : List Int} {x : Int × Int} : xd r s x = true ↔ ¬ (posn x.1 r < posn x.2 r ↔ posn x.1 s < posn x.2 s) := by
  unfold xd
  rw [Bool.not_eq_true', decide_eq_false_iff_not, decide_eq_decide]
  simp only [Int.ofNat_lt]
theorem mem_crs {n : Nat} {r s : List Int} {a b : Int} : (a, b) ∈ crs n r s ↔ (0 ≤ a ∧ a < b ∧ b < n) ∧ ¬ (posn a r < posn b r ↔ posn a s < posn b s) := by
  rw [crs_eq, List.mem_filter, mem_prs, xd_iff]
/-- two tests that differ at one item only -/
theorem filter_flip {α : Type} [DecidableEq α] {f g : α → Bool} {q : α} : ∀ {l : List α}, l.Nodup → q ∈ l → f q = true → g q = false → (∀ x ∈ l, x ≠ q → f x = g x) → (l.filter f).length = (l.filter g).length + 1
  | [], _, h, _, _, _ => by cases h
  | x :: l, nd, h, hf, hg, he => by
    obtain ⟨n1, n2⟩ := List.nodup_cons.mp nd
    by_cases e : x = q
    · subst e
      have : l.filter f = l.filter g := List.filter_congr fun y hy => he y (List.mem_cons_of_mem _ hy) fun z => n1 (z ▸ hy)
      rw [List.filter_cons, if_pos hf, List.filter_cons, if_neg (by rw [hg]; decide), this, List.length_cons]
    · have hq : q ∈ l := by
        rcases List.mem_cons.mp h with z | z
        · exact absurd z.symm e
        · exact z
      have ih := filter_flip n2 hq hf hg fun y hy => he y (List.mem_cons_of_mem _ hy)
      have ex := he x List.mem_cons_self e
      rw [List.filter_cons, List.filter_cons, ← ex]
      split
      · rw [List.length_cons, List.length_cons, ih]
      · exact ih
def duo (a b : Int) : Int × Int := if a < b then (a, b) else (b, a)
theorem swap_flip {n : Nat} {r s : List Int} (h : Row n r) (hs : Row n s) {i : Nat} (hi : i + 1 < r.length) :
    (∀ x ∈ prs n, x ≠ duo (r.getD i 0) (r.getD (i + 1) 0) → xd r s x = xd (swp r i) s x) ∧ xd (swp r i) s (duo (r.getD i 0) (r.getD (i + 1) 0)) = !xd r s (duo (r.getD i 0) (r.getD (i + 1) 0)) ∧
    duo (r.getD i 0) (r.getD (i + 1) 0) ∈ prs n ∧ (xd r s (duo (r.getD i 0) (r.getD (i + 1) 0)) = true ↔ posn (r.getD (i + 1) 0) s < posn (r.getD i 0) s) := by
  have m1 := h.get_mem (i := i) (by omega)
  have m2 := h.get_mem (i := i + 1) hi
  have p1 := h.posn (i := i) (by omega)
  have p2 := h.posn (i := i + 1) hi
  have hne := h.ne (i := i) (j := i + 1) (by omega) hi (by omega)
  have q1 := posn_swp h hi m1
  have q2 := posn_swp h hi m2
  rw [if_pos rfl] at q1
  rw [if_neg (Ne.symm hne), if_pos rfl] at q2
  have key := fun {u v : Int} (mu : u ∈ r) (mv : v ∈ r) => swp_lt h hi mu mv
  generalize r.getD i 0 = a at *
  generalize r.getD (i + 1) 0 = b at *
  have ra := (h.rg a).mp m1
  have rb := (h.rg b).mp m2
  have sa := (hs.rg a).mpr ra
  have sb := (hs.rg b).mpr rb
  have sn : posn a s ≠ posn b s := fun z => hne (posn_inj sa sb z)
  refine ⟨fun x hx hn => ?_, ?_, ?_, ?_⟩
  · obtain ⟨u, v⟩ := x
    obtain ⟨k0, k1, k2⟩ := mem_prs.mp hx
    have mu := (h.rg u).mpr ⟨k0, by omega⟩
    have mv := (h.rg v).mpr ⟨by omega, k2⟩
    have key : posn u (swp r i) < posn v (swp r i) ↔ posn u r < posn v r := by
      by_cases e1 : u = a ∧ v = b
      · refine absurd ?_ hn
        unfold duo
        rw [if_pos (by omega), e1.1, e1.2]
      · by_cases e2 : v = a ∧ u = b
        · refine absurd ?_ hn
          unfold duo
          rw [if_neg (by omega), e2.1, e2.2]
        · exact key mu mv e1 e2
    unfold xd
    simp only [Int.ofNat_lt]
    rw [decide_eq_decide.mpr key]
  · unfold duo
    have d1 : decide (i + 1 < i) = false := decide_eq_false (by omega)
    have d2 : decide (i < i + 1) = true := decide_eq_true (by omega)
    split
    · unfold xd
      simp only [Int.ofNat_lt, p1, p2, q1, q2, d1, d2]
      cases decide (posn a s < posn b s) <;> rfl
    · unfold xd
      simp only [Int.ofNat_lt, p1, p2, q1, q2, d1, d2]
      cases decide (posn b s < posn a s) <;> rfl
  · unfold duo
    split
    · exact mem_prs.mpr ⟨ra.1, by assumption, rb.2⟩
    · exact mem_prs.mpr ⟨rb.1, by omega, ra.2⟩
  · unfold duo
    split <;> (rw [xd_iff]; simp only [p1, p2]; omega)
theorem cross_less {n : Nat} {r s : List Int} (h : Row n r) (hs : Row n s) {i : Nat} (hi : i + 1 < r.length) (hx : posn (r.getD (i + 1) 0) s < posn (r.getD i 0) s) : (crs n r s).length = (crs n (swp r i) s).length + 1 := by
  obtain ⟨h1, h2, h3, h4⟩ := swap_flip h hs hi
  rw [crs_eq, crs_eq]
  exact filter_flip (f := xd r s) (g := xd (swp r i) s) (prs_nodup n) h3 (h4.mpr hx) (by rw [h2, h4.mpr hx]; rfl) h1
theorem cross_more {n : Nat} {r s : List Int} (h : Row n r) (hs : Row n s) {i : Nat} (hi : i + 1 < r.length) (hx : posn (r.getD i 0) s < posn (r.getD (i + 1) 0) s) : (crs n (swp r i) s).length = (crs n r s).length + 1 := by
  obtain ⟨h1, h2, h3, h4⟩ := swap_flip h hs hi
  have hf : xd r s (duo (r.getD i 0) (r.getD (i + 1) 0)) = false := Bool.eq_false_iff.mpr fun z => by have := h4.mp z; omega
  rw [crs_eq, crs_eq]
  exact filter_flip (f := xd (swp r i) s) (g := xd r s) (prs_nodup n) h3 (by rw [h2, hf]; rfl) hf fun x hx hn => (h1 x hx hn).symm
theorem cross_self (n : Nat) (r : List Int) : crs n r r = [] := by
  rw [crs_eq]
  refine List.filter_eq_nil_iff.mpr fun x _ => ?_
  unfold xd
  simp
theorem cross_sym (n : Nat) (r s : List Int) : crs n r s = crs n s r := by
  rw [crs_eq, crs_eq]
  refine List.filter_congr fun x _ => ?_
  unfold xd
  simp only [eq_comm]
/-! ### exchanges of orders -/
theorem frp_ok {c : Co} {r : List Int} (h : IsOrd c r) {i : Nat} : i ∈ frp c r ↔ i + 1 < r.length ∧ IsOrd c (swp r i) := by
  unfold frp
  rw [List.mem_filter, List.mem_range]
  constructor
  · rintro ⟨h1, h2⟩
    have hi : i + 1 < r.length := by omega
    refine ⟨hi, ⟨(h.row.swp hi).nd, fun x hx => ((h.row.swp hi).rg x).mp hx, fun j x hj => ?_⟩, by rw [swp_len hi]; exact h.lens⟩
    have e : misL c (swp r i) = [] := List.isEmpty_iff.mp h2
    unfold misL at e
    have hl := (List.getElem?_eq_some_iff.mp hj).1
    have := List.filter_eq_nil_iff.mp e j (List.mem_range.mpr hl)
    rw [List.getD_eq_getElem?_getD, hj] at this
    simpa using this
  · rintro ⟨h1, h2⟩
    exact ⟨by omega, by rw [misL_nil h2.po]; rfl⟩
theorem take_swp {r : List Int} {i : Nat} (hi : i + 1 < r.length) {j : Nat} (hj : j ≤ i) : (swp r i).take j = r.take j := by
  unfold swp
  rw [List.append_assoc, List.take_append_of_le_length (by rw [List.length_take]; omega), List.take_take]
  congr 1
  omega
theorem take_swp2 {r : List Int} {i : Nat} (hi : i + 1 < r.length) {j : Nat} (hj : i + 2 ≤ j) (x : Int) : x ∈ (swp r i).take j ↔ x ∈ r.take j := by
  have e : (swp r i).take j = Ec.swp (r.take j) i := by
    refine List.ext_getElem? fun k => ?_
    rw [List.getElem?_take]
    by_cases hk : k < j
    · rw [if_pos hk, swp_get hi]
      by_cases hjl : j ≤ r.length
      · rw [swp_get (by rw [List.length_take]; omega)]
        simp only [List.getElem?_take, if_pos hk, if_pos (show i + 1 < j by omega), if_pos (show i < j by omega)]
      · rw [List.take_of_length_le (by omega), swp_get hi]
    · rw [if_neg hk]
      refine (List.getElem?_eq_none ?_).symm
      by_cases hjl : j ≤ r.length
      · rw [swp_len (by rw [List.length_take]; omega), List.length_take]
        omega
      · rw [List.take_of_length_le (by omega), swp_len hi]
        omega
  rw [e]
  by_cases hjl : j ≤ r.length
  · exact (swp_perm (by rw [List.length_take]; omega)).mem_iff
  · rw [List.take_of_length_le (by omega)]
    exact (swp_perm hi).mem_iff
/-- an exchange is possible if the second one can come ahead -/
theorem swp_ord {c : Co} {r : List Int} (h : IsOrd c r) {i : Nat} (hi : i + 1 < r.length) (hc : comes c (r.take i) (r.getD (i + 1) 0) = true) : IsOrd c (swp r i) where
  len := by rw [swp_len hi]; exact h.lens
  po := ⟨(h.row.swp hi).nd, fun x hx => ((h.row.swp hi).rg x).mp hx, fun j x hj => by
    rw [swp_get hi] at hj
    by_cases h1 : j = i
    · subst h1
      rw [if_pos rfl] at hj
      rw [h.row.at hi] at hj
      cases hj
      rw [take_swp hi (Nat.le_refl _)]
      exact hc
    · rw [if_neg h1] at hj
      by_cases h2 : j = i + 1
      · subst h2
        rw [if_pos rfl] at hj
        refine comes_mono (fun y hy => ?_) (h.po.ok i x hj)
        have e : (swp r i).take (i + 1) = r.take i ++ [r.getD (i + 1) 0] := by
          have := take_swp hi (Nat.le_refl i)
          rw [List.take_add_one, this, swp_get hi, if_pos rfl, h.row.at hi]
          rfl
        rw [e]
        exact List.mem_append_left _ hy
      · rw [if_neg h2] at hj
        by_cases h3 : j < i
        · rw [take_swp hi (by omega)]
          exact h.po.ok j x hj
        · exact comes_mono (fun y hy => (take_swp2 hi (by omega) y).mpr hy) (h.po.ok j x hj)⟩
/-- a walk by exchanges -/
inductive Pth (c : Co) : List Int → List Nat → List Int → Prop
  | nil (r : List Int) : Pth c r [] r
  | snoc {r s : List Int} {ps : List Nat} {i : Nat} (h : Pth c r ps s) (hi : i ∈ frp c s) : Pth c r (ps ++ [i]) (swp s i)
theorem Pth.ord {c : Co} {r s : List Int} {ps : List Nat} (h : Pth c r ps s) (ho : IsOrd c r) : IsOrd c s := by
  induction h with
  | nil => exact ho
  | snoc _ hi ih => exact ((frp_ok ih).mp hi).2
theorem Pth.app {c : Co} {r s t : List Int} {ps qs : List Nat} (h : Pth c r ps s) (g : Pth c s qs t) : Pth c r (ps ++ qs) t := by
  induction g with
  | nil => rw [List.append_nil]; exact h
  | snoc _ hi ih =>
    rw [← List.append_assoc]
    exact ih.snoc hi
/-! ### the plan -/
def swaps (r : List Int) (l : List Nat) : List Int := l.foldl swp r
theorem swaps_snoc (r : List Int) (l : List Nat) (i : Nat) : swaps r (l ++ [i]) = swp (swaps r l) i := by
  unfold swaps
  rw [List.foldl_append]
  rfl
def downs (k j : Nat) : List Nat := (List.range j).map fun t => k - 1 - t
theorem downs_succ (k j : Nat) : downs k (j + 1) = downs k j ++ [k - 1 - j] := by
  unfold downs
  rw [List.range_succ, List.map_append]
  rfl
def plnS (r1 r2 : List Int) : Nat → List Int × List Nat
  | 0 => (r1, [])
  | i + 1 => (swaps (plnS r1 r2 i).1 (downs (posn (r2.getD i 0) (plnS r1 r2 i).1) (posn (r2.getD i 0) (plnS r1 r2 i).1 - i)), (plnS r1 r2 i).2 ++ downs (posn (r2.getD i 0) (plnS r1 r2 i).1) (posn (r2.getD i 0) (plnS r1 r2 i).1 - i))
def pln (r1 r2 : List Int) : List Nat := (plnS r1 r2 r2.length).2
/-- on the way -/
structure Wayp (c : Co) (r1 r2 : List Int) (i : Nat) (h : List Int) (ps : List Nat) : Prop where
  ord : IsOrd c h
  same : h.take i = r2.take i
  pth : Pth c r1 ps h
  num : ps.length + (crs c.length h r2).length = (crs c.length r1 r2).length
theorem take_get {r s : List Int} {i : Nat} (h : r.take i = s.take i) {j : Nat} (hj : j < i) : r[j]? = s[j]? := by
  rw [← List.getElem?_take_of_lt hj, h, List.getElem?_take_of_lt hj]
theorem way_in {c : Co} {r1 r2 h : List Int} {ps : List Nat} {i : Nat} (o2 : IsOrd c r2) (w : Wayp c r1 r2 i h ps) (hi : i < c.length) :
    i ≤ posn (r2.getD i 0) h ∧ ∀ j, j ≤ posn (r2.getD i 0) h - i → Wayp c r1 r2 i (swaps h (downs (posn (r2.getD i 0) h) j)) (ps ++ downs (posn (r2.getD i 0) h) j) ∧ posn (r2.getD i 0) (swaps h (downs (posn (r2.getD i 0) h) j)) = posn (r2.getD i 0) h - j := by
  have l2 := o2.lens
  have hp2 : r2[i]? = some (r2.getD i 0) := o2.row.at (by omega)
  have hpp : posn (r2.getD i 0) r2 = i := o2.row.posn (by omega)
  have hm : r2.getD i 0 ∈ h := (w.ord.row.rg _).mpr ((o2.row.rg _).mp (o2.row.get_mem (by omega)))
  generalize r2.getD i 0 = p at *
  have hge : ∀ (s : List Int), IsOrd c s → s.take i = r2.take i → i ≤ posn p s := fun s os es => by
    refine Decidable.byContradiction fun z => ?_
    have z' : posn p s < i := by omega
    have hps : p ∈ s := (os.row.rg p).mpr ((w.ord.row.rg p).mp hm)
    have e1 := (posn_at hps).1
    rw [take_get es z'] at e1
    have := posn_eq o2.row.nd e1
    omega
  refine ⟨hge h w.ord w.same, fun j => ?_⟩
  induction j with
  | zero =>
    intro _
    have e : downs (posn p h) 0 = [] := rfl
    rw [e, List.append_nil]
    exact ⟨w, rfl⟩
  | succ j ih =>
    intro hj
    obtain ⟨v, hv⟩ := ih (by omega)
    have hge0 := hge h w.ord w.same
    rw [downs_succ, swaps_snoc, ← List.append_assoc]
    generalize swaps h (downs (posn p h) j) = s at v hv ⊢
    generalize ps ++ downs (posn p h) j = qs at v ⊢
    have ls := v.ord.lens
    have hps : p ∈ s := (v.ord.row.rg p).mpr ((w.ord.row.rg p).mp hm)
    have hlt := posn_lt hps
    have hk : posn p h - 1 - j + 1 = posn p s := by omega
    have hi1 : posn p h - 1 - j + 1 < s.length := by omega
    generalize hK : posn p h - 1 - j = k at hk hi1
    have ep : s.getD (k + 1) 0 = p := by rw [hk]; exact v.ord.row.get_posn hps
    have hik : i ≤ k := by omega
    have hcom : comes c (s.take k) (s.getD (k + 1) 0) = true := by
      rw [ep]
      refine comes_mono (fun y hy => ?_) (o2.po.ok i p hp2)
      rw [← v.same] at hy
      rw [← Nat.min_eq_left hik, ← List.take_take] at hy
      exact List.mem_of_mem_take hy
    have osw := swp_ord v.ord hi1 hcom
    have hx : posn (s.getD (k + 1) 0) r2 < posn (s.getD k 0) r2 := by
      rw [ep, hpp]
      have mx := v.ord.row.get_mem (i := k) (by omega)
      have mx2 : s.getD k 0 ∈ r2 := (o2.row.rg _).mpr ((v.ord.row.rg _).mp mx)
      have e2 := (posn_at mx2).1
      refine Decidable.byContradiction fun z => ?_
      have z' : posn (s.getD k 0) r2 ≤ i := by omega
      rcases Nat.lt_or_eq_of_le z' with z1 | z1
      · rw [← take_get v.same z1] at e2
        have := posn_eq v.ord.row.nd e2
        rw [v.ord.row.posn (by omega)] at this
        omega
      · rw [z1, hp2] at e2
        have e3 : p = s.getD k 0 := Option.some.inj e2
        exact v.ord.row.ne (i := k + 1) (j := k) hi1 (by omega) (by omega) (ep.trans e3)
    refine ⟨⟨osw, by rw [take_swp hi1 hik]; exact v.same, v.pth.snoc ((frp_ok v.ord).mpr ⟨hi1, osw⟩), ?_⟩, ?_⟩
    · have := cross_less v.ord.row o2.row hi1 hx
      have := v.num
      rw [List.length_append, List.length_singleton]
      omega
    · rw [posn_swp v.ord.row hi1 hps, if_neg ?_, if_pos ep.symm]
      · omega
      · rw [← ep]
        exact v.ord.row.ne hi1 (by omega) (by omega)
theorem way_all {c : Co} {r1 r2 : List Int} (o1 : IsOrd c r1) (o2 : IsOrd c r2) : ∀ i, i ≤ c.length → Wayp c r1 r2 i (plnS r1 r2 i).1 (plnS r1 r2 i).2
  | 0, _ => ⟨o1, rfl, .nil r1, by show 0 + _ = _; rw [Nat.zero_add]; rfl⟩
  | i + 1, h => by
    have w := way_all o1 o2 i (by omega)
    obtain ⟨g1, g2⟩ := way_in o2 w (by omega)
    obtain ⟨v, hv⟩ := g2 _ (Nat.le_refl _)
    have l2 := o2.lens
    refine ⟨v.ord, ?_, v.pth, v.num⟩
    show (swaps _ _).take (i + 1) = _
    rw [List.take_add_one, List.take_add_one, v.same]
    congr 2
    have hp2 : r2[i]? = some (r2.getD i 0) := o2.row.at (by omega)
    have hm : r2.getD i 0 ∈ swaps (plnS r1 r2 i).1 (downs (posn (r2.getD i 0) (plnS r1 r2 i).1) (posn (r2.getD i 0) (plnS r1 r2 i).1 - i)) := (v.ord.row.rg _).mpr ((o2.row.rg _).mp (o2.row.get_mem (by omega)))
    have e := (posn_at hm).1
    rw [hv] at e
    rw [show posn (r2.getD i 0) (plnS r1 r2 i).1 - (posn (r2.getD i 0) (plnS r1 r2 i).1 - i) = i by omega] at e
    exact e.trans hp2.symm
theorem pln_ok {c : Co} {r1 r2 : List Int} (o1 : IsOrd c r1) (o2 : IsOrd c r2) : Pth c r1 (pln r1 r2) r2 ∧ (pln r1 r2).length = (crs c.length r1 r2).length := by
  have w := way_all o1 o2 c.length (Nat.le_refl _)
  have l2 := o2.lens
  have e : (plnS r1 r2 c.length).1 = r2 := by
    have := w.same
    rw [List.take_of_length_le (by rw [w.ord.lens]; exact Nat.le_refl _), List.take_of_length_le (by omega)] at this
    exact this
  unfold pln
  rw [l2]
  refine ⟨by have := w.pth; rw [e] at this; exact this, ?_⟩
  have := w.num
  rw [e, cross_self, List.length_nil] at this
  omega
abbrev T_plan : TrD := fun xs μ R => ∃ dc c d1 r1 d2 r2, xs = [.d dc, .d d1, .d d2] ∧ CoD dc c ∧ c.length ≤ 60 ∧ nev c = [] ∧ SqD d1 (intsD r1) ∧ IsOrd c r1 ∧ SqD d2 (intsD r2) ∧ IsOrd c r2 ∧ ∀ q, R (.a q) ((q, natsD (pln r1 r2)) :: μ)
/-! ### plans shown -/
theorem natsD_ints (l : List Nat) : natsD l = intsD (l.map fun i : Nat => (i : Int)) := by simp [natsD, intsD]
def frI (c : Co) (r : List Int) : List Int := (frp c r).map fun i : Nat => (i : Int)
def walkI (c : Co) : List Int → List Int → Option (List Int)
  | r, [] => some r
  | r, p :: ps => if p ∈ frI c r then walkI c (swp r p.toNat) ps else none
def shwp (c : Co) (r1 r2 ps : List Int) : Bool := match walkI c r1 ps with
  | some h => decide (h = r2)
  | none => false
theorem mem_frI {c : Co} {r : List Int} {p : Int} : p ∈ frI c r ↔ 0 ≤ p ∧ p.toNat ∈ frp c r := by
  unfold frI
  rw [List.mem_map]
  constructor
  · rintro ⟨i, hi, rfl⟩
    exact ⟨by omega, by simpa using hi⟩
  · rintro ⟨h0, h1⟩
    exact ⟨p.toNat, h1, by omega⟩
theorem walkI_app (c : Co) : ∀ (ps qs r : List Int), walkI c r (ps ++ qs) = (walkI c r ps).bind fun h => walkI c h qs
  | [], _, _ => rfl
  | p :: ps, qs, r => by
    show (if p ∈ frI c r then walkI c (swp r p.toNat) (ps ++ qs) else none) = (if p ∈ frI c r then walkI c (swp r p.toNat) ps else none).bind _
    split
    · exact walkI_app c ps qs _
    · rfl
theorem Pth.walkI {c : Co} {r s : List Int} {ps : List Nat} (h : Pth c r ps s) : walkI c r (ps.map fun i : Nat => (i : Int)) = some s := by
  induction h with
  | nil => rfl
  | @snoc t ps i _ hi ih =>
    rw [List.map_append, walkI_app, ih]
    show (if ((i : Int)) ∈ frI c t then some (swp t ((i : Int)).toNat) else none) = _
    rw [if_pos (mem_frI.mpr ⟨by omega, by simpa using hi⟩)]
    rfl
theorem Pth.shows {c : Co} {r s : List Int} {ps : List Nat} (h : Pth c r ps s) : shwp c r s (ps.map fun i : Nat => (i : Int)) = true := by
  unfold shwp
  rw [h.walkI]
  simp
abbrev T_shows : TrD := fun xs μ R => ∃ dc c d1 r1 d2 r2 ps, xs = [.d dc, .d d1, .d d2, .d (.list (intsD ps))] ∧ CoD dc c ∧ c.length ≤ 60 ∧ nev c = [] ∧ SqD d1 (intsD r1) ∧ IsOrd c r1 ∧ SqD d2 (intsD r2) ∧ IsOrd c r2 ∧ ps.length ≤ 100000 ∧ R (.d (.bool (shwp c r1 r2 ps))) μ
end Ec

set_option Elab.async false
set_option linter.all false
set_option maxRecDepth 100000
set_option maxHeartbeats 4000000
namespace Ec
open PySem PySem.Spec PyProof.Rows L2
/-! ### tuples of ints in order -/
def lexL : List Int → List Int → Bool
  | [], _ => true
  | _ :: _, [] => false
  | x :: xs, y :: ys => if x = y then lexL xs ys else decide (x < y)
theorem lexL_cons (x y : Int) (xs ys : List Int) : lexL (x :: xs) (y :: ys) = if x = y then lexL xs ys else decide (x < y) := rfl
theorem lexAt_sh (e r : Nat → Bool) (z : Bool) : ∀ k i, Ob.lexAt e r z (i + 1) k = Ob.lexAt (fun j => e (j + 1)) (fun j => r (j + 1)) z i k
  | 0, _ => rfl
  | k + 1, i => by
    rw [Ob.lexAt_succ, Ob.lexAt_succ, lexAt_sh e r z k (i + 1)]
theorem lexAt_cons (f : Int → Int → Bool) (z : Bool) (x y : Int) (xs ys : List Int) (k : Nat) :
    Ob.lexAt (fun j => decide ((x :: xs).getD j 0 = (y :: ys).getD j 0)) (fun j => f ((x :: xs).getD j 0) ((y :: ys).getD j 0)) z 0 (k + 1) =
      if x = y then Ob.lexAt (fun j => decide (xs.getD j 0 = ys.getD j 0)) (fun j => f (xs.getD j 0) (ys.getD j 0)) z 0 k else f x y := by
  rw [Ob.lexAt_succ, lexAt_sh]
  simp only [List.getD_cons_zero, List.getD_cons_succ, decide_eq_true_eq]
theorem lexL_at : ∀ ns ms : List Int, Ob.lexAt (fun j => decide (ns.getD j 0 = ms.getD j 0)) (fun j => decide (ns.getD j 0 ≤ ms.getD j 0)) (decide (ns.length ≤ ms.length)) 0 (min ns.length ms.length) = lexL ns ms
  | [], ms => by simp [lexL, Ob.lexAt]
  | x :: xs, [] => by simp [lexL, Ob.lexAt]
  | x :: xs, y :: ys => by
    rw [show min (x :: xs).length (y :: ys).length = min xs.length ys.length + 1 by simp [Nat.add_min_add_right], lexAt_cons (fun a b => decide (a ≤ b))]
    have e : decide ((x :: xs).length ≤ (y :: ys).length) = decide (xs.length ≤ ys.length) := by simp
    rw [e, lexL_at xs ys, lexL_cons]
    by_cases h : x = y
    · rw [if_pos h, if_pos h]
    · rw [if_neg h, if_neg h]
      exact decide_eq_decide.mpr ⟨fun g => by omega, fun g => by omega⟩
theorem lexG_at : ∀ ns ms : List Int, Ob.lexAt (fun j => decide (ns.getD j 0 = ms.getD j 0)) (fun j => decide (ms.getD j 0 ≤ ns.getD j 0)) (decide (ms.length ≤ ns.length)) 0 (min ns.length ms.length) = lexL ms ns
  | [], [] => rfl
  | [], y :: ys => by simp [lexL, Ob.lexAt]
  | x :: xs, [] => by simp [lexL, Ob.lexAt]
  | x :: xs, y :: ys => by
    rw [show min (x :: xs).length (y :: ys).length = min xs.length ys.length + 1 by simp [Nat.add_min_add_right], lexAt_cons (fun a b => decide (b ≤ a))]
    have e : decide ((y :: ys).length ≤ (x :: xs).length) = decide (ys.length ≤ xs.length) := by simp
    rw [e, lexG_at xs ys, lexL_cons]
    by_cases h : x = y
    · rw [if_pos h, if_pos h.symm]
    · rw [if_neg h, if_neg (Ne.symm h)]
      exact decide_eq_decide.mpr ⟨fun g => by omega, fun g => by omega⟩
theorem lexGt_at : ∀ ns ms : List Int, Ob.lexAt (fun j => decide (ns.getD j 0 = ms.getD j 0)) (fun j => decide (ms.getD j 0 < ns.getD j 0)) (decide (ms.length < ns.length)) 0 (min ns.length ms.length) = HT.lexLt ms ns
  | [], [] => rfl
  | [], y :: ys => by simp [HT.lexLt, Ob.lexAt]
  | x :: xs, [] => by simp [HT.lexLt, Ob.lexAt]
  | x :: xs, y :: ys => by
    rw [show min (x :: xs).length (y :: ys).length = min xs.length ys.length + 1 by simp [Nat.add_min_add_right], lexAt_cons (fun a b => decide (b < a))]
    have e : decide ((y :: ys).length < (x :: xs).length) = decide (ys.length < xs.length) := by simp
    rw [e, lexGt_at xs ys, HT.lexLt_cons]
    by_cases h : x = y
    · rw [if_pos h, if_pos h.symm]
    · rw [if_neg h, if_neg (Ne.symm h)]
def rTupI (K : PySem.W.Frag) (g : List Int → List Int → Bool) : R2 := fun x y H Q => ∃ (p q : Addr) (ns ms : List Int), x = .ref p ∧ y = .ref q ∧ SqT K H p (ns.map V.int) ∧ SqT K H q (ms.map V.int) ∧ Q (.bl (g ns ms)) H
theorem ints_atP {its : List Value} {ns : List Int} (h : Vals (ns.map V.int) its) : its.toArray.size = ns.length ∧ ∀ j (hj : j < its.toArray.size), ∃ t, its.toArray[j] = .int (ns.getD j 0) t := by
  have ia : IntsAre its ns := Vals.ints h
  refine ⟨by rw [List.size_toArray]; exact ia.length, fun j hj => PyProof.Rows.IntsAre.int_at ia _ _ ?_⟩
  have hj' : j < its.length := by simpa using hj
  simp [List.getElem?_eq_getElem hj']
theorem eqAt_ints {A : Around} {s : Shared} (a b : Int) (t u : Tok) : SeqAt.EqAt A s (.int a t) (.int b u) (decide (a = b)) := by
  have z : (a == b) = decide (a = b) := by
    by_cases q : a = b
    · rw [decide_eq_true q]; exact beq_iff_eq.mpr q
    · rw [decide_eq_false q]; exact beq_eq_false_iff_ne.mpr q
  rw [← z]
  exact SeqAt.EqAt.int_int _ _ _ _
theorem op_geT {X : Cx} (hu : X.A.units < cLine) : OpR X (compareOp .GtE) (rTupI X.K fun ns ms => lexL ms ns) := fun pins st σ H x y v u Q iv rx ry h => by
  obtain ⟨p, q, ns, ms, rfl, rfl, hp, hq, k⟩ := h
  cases rx
  cases ry
  obtain ⟨i1, v1, t1, _⟩ := iv.tuple hp
  obtain ⟨i2, v2, t2, _⟩ := iv.tuple hq
  obtain ⟨z1, g1⟩ := ints_atP v1
  obtain ⟨z2, g2⟩ := ints_atP v2
  have rc := Ob.RcOp.tuples_ge (A := X.A) (s := st) (e := fun j => decide (ns.getD j 0 = ms.getD j 0)) (r := fun j => decide (ms.getD j 0 ≤ ns.getD j 0)) t1 t2 hu (fun j h1 h2 => by
    obtain ⟨_, e1⟩ := g1 j h1
    obtain ⟨_, e2⟩ := g2 j h2
    rw [e1, e2]
    exact eqAt_ints _ _ _ _) (fun j h1 h2 _ => by
    obtain ⟨_, e1⟩ := g1 j h1
    obtain ⟨_, e2⟩ := g2 j h2
    rw [e1, e2]
    exact Ob.RcOp.ge_int _ _ _ _)
  rw [z1, z2, show decide (ns.length ≥ ms.length) = decide (ms.length ≤ ns.length) from rfl, lexG_at] at rc
  exact (rc X.prog X.w X.xe (EP X pins σ Q) ⟨.bl _, H, iv, rfl, k⟩ : wpAny (model X.prog X.w) X.A (compareOp .GtE (.ref p) (.ref q)) (EP X pins σ Q) X.xe st)
theorem op_gtT {X : Cx} (hu : X.A.units < cLine) : OpR X (compareOp .Gt) (rTupI X.K fun ns ms => HT.lexLt ms ns) := fun pins st σ H x y v u Q iv rx ry h => by
  obtain ⟨p, q, ns, ms, rfl, rfl, hp, hq, k⟩ := h
  cases rx
  cases ry
  obtain ⟨i1, v1, t1, _⟩ := iv.tuple hp
  obtain ⟨i2, v2, t2, _⟩ := iv.tuple hq
  obtain ⟨z1, g1⟩ := ints_atP v1
  obtain ⟨z2, g2⟩ := ints_atP v2
  have rc := Ob.RcOp.tuples_gt (A := X.A) (s := st) (e := fun j => decide (ns.getD j 0 = ms.getD j 0)) (r := fun j => decide (ms.getD j 0 < ns.getD j 0)) t1 t2 hu (fun j h1 h2 => by
    obtain ⟨_, e1⟩ := g1 j h1
    obtain ⟨_, e2⟩ := g2 j h2
    rw [e1, e2]
    exact eqAt_ints _ _ _ _) (fun j h1 h2 _ => by
    obtain ⟨_, e1⟩ := g1 j h1
    obtain ⟨_, e2⟩ := g2 j h2
    rw [e1, e2]
    exact Ob.RcOp.gt_int _ _ _ _)
  rw [z1, z2, show decide (ns.length > ms.length) = decide (ms.length < ns.length) from rfl, lexGt_at] at rc
  exact (rc X.prog X.w X.xe (EP X pins σ Q) ⟨.bl _, H, iv, rfl, k⟩ : wpAny (model X.prog X.w) X.A (compareOp .Gt (.ref p) (.ref q)) (EP X pins σ Q) X.xe st)
theorem op_leTL {X : Cx} (hu : X.A.units < cLine) : OpR X (compareOp .LtE) (rTupI X.K lexL) := fun pins st σ H x y v u Q iv rx ry h => by
  obtain ⟨p, q, ns, ms, e1, e2, hp, hq, k⟩ := h
  exact op_leT hu pins st σ H x y v u Q iv rx ry ⟨p, q, ns, ms, e1, e2, hp, hq, by rw [lexL_at]; exact k⟩
theorem op_ltTL {X : Cx} (hu : X.A.units < cLine) : OpR X (compareOp .Lt) (rTupI X.K HT.lexLt) := op_ltT hu
section
variable {K : PySem.W.Frag} {μ : Cells} {Q : Vd → Cells → Prop}
theorem ow_tupI {g : List Int → List Int → Bool} {ns ms : List Int} (h : Q (.d (.bool (g ns ms))) μ) : OpW K (rTupI K g) (.d (.tuple (intsD ns))) (.d (.tuple (intsD ms))) μ Q := fun F H v u m o1 o2 QV c => by
  obtain ⟨a, vs, rfl, h1, d1⟩ := dp_tup o1
  obtain ⟨b, us, rfl, h2, d2⟩ := dp_tup o2
  rw [dps_ints d1] at h1
  rw [dps_ints d2] at h2
  exact ⟨a, b, ns, ms, rfl, rfl, same_t m.ex h1, same_t m.ex h2, c (.d (.bool _)) _ F H μ Fw.refl m (.bl _) h⟩
end
/-! ### min, max of three -/
section
variable {prog : Program} {w : World} {A : Around} {E : Value → Shared → Prop} {s : Shared}
theorem call_min3H {a b c : Value} {Q : Value → Shared → Prop}
    (h : wpAny (model prog w) A.in1 (pyIter (.ref s.heap.objs.size)) (fun it s2 => ∃ I fp wr G n P St H bt, it = .ref I ∧ WalksS prog w A.in1 I fp wr G n P St ∧ St 0 s2 ∧ (∀ b ∈ fp, b < s2.heap.objs.size) ∧ 0 < n ∧
      (∀ b o, H.get? b = some o → b ∉ wr) ∧ (∀ b o, H.get? b = some o → s2.heap.get? b = some o) ∧ CmpIn prog w A.in1 .Lt H P bt ∧ ∀ v s', P (argBest bt (n - 1)) v → Moved wr G s2 s' → Q v s') E
      { s with heap := s.heap.push { cls := .type "tuple", data := .seq #[a, b, c] } }) :
    wpAny (model prog w) A (call (.builtin "min") [a, b, c]) Q E s := by
  have nm : (toString "min" ++ toString ".loop" : String) = "min.loop" := by decide
  refine call_function_tree F.kind_min F.plain_min F.entry_min (F.args_min3 a b c) (wpAny_bind (wpAny_of_eq (show Builtin.Builtins.bindParams "min" ["key", "default"] 0 ⟨[], []⟩ = pure [none, none] from rfl) ?_))
  refine wpAny_bind (wpAny_newObj_type (wpAny_bind (wpAny_mono h (fun it s2 g => ?_) fun _ _ e => e)))
  obtain ⟨I, fp, wr, G, n, P, St, H, bt, rfl, W, st, lo, pos, kw, kp, cm, fin⟩ := g
  have out : s2.heap.objs.size ∉ fp := fun m => Nat.lt_irrefl _ (lo _ m)
  refine wpAny_bind (wpAny_newObj_type ?_)
  rw [nm]
  exact wpAny_pure ⟨plainId_quiet F.plain_min_loop _, codeAny_min_loop_firstH W H kw bt cm s2.heap.objs.size out (fresh_in kp) _ pos (fun b o e => Heap.get?_push_of_some _ (kp b o e)) (W.frame 0 s2 _ s2.toks st (Nat.le_refl _) fun b _ o e => Heap.get?_push_of_some _ e) (Heap.get?_push_size _ rfl) fun v s' hP hm => fin v s' hP (Moved.drop_new (tk := s2.toks) hm (Nat.le_refl _))⟩
theorem call_max3H {a b c : Value} {Q : Value → Shared → Prop}
    (h : wpAny (model prog w) A.in1 (pyIter (.ref s.heap.objs.size)) (fun it s2 => ∃ I fp wr G n P St H bt, it = .ref I ∧ WalksS prog w A.in1 I fp wr G n P St ∧ St 0 s2 ∧ (∀ b ∈ fp, b < s2.heap.objs.size) ∧ 0 < n ∧
      (∀ b o, H.get? b = some o → b ∉ wr) ∧ (∀ b o, H.get? b = some o → s2.heap.get? b = some o) ∧ CmpIn prog w A.in1 .Gt H P bt ∧ ∀ v s', P (argBest bt (n - 1)) v → Moved wr G s2 s' → Q v s') E
      { s with heap := s.heap.push { cls := .type "tuple", data := .seq #[a, b, c] } }) :
    wpAny (model prog w) A (call (.builtin "max") [a, b, c]) Q E s := by
  have nm : (toString "max" ++ toString ".loop" : String) = "max.loop" := by decide
  refine call_function_tree F.kind_max F.plain_max F.entry_max (F.args_max3 a b c) (wpAny_bind (wpAny_of_eq (show Builtin.Builtins.bindParams "max" ["key", "default"] 0 ⟨[], []⟩ = pure [none, none] from rfl) ?_))
  refine wpAny_bind (wpAny_newObj_type (wpAny_bind (wpAny_mono h (fun it s2 g => ?_) fun _ _ e => e)))
  obtain ⟨I, fp, wr, G, n, P, St, H, bt, rfl, W, st, lo, pos, kw, kp, cm, fin⟩ := g
  have out : s2.heap.objs.size ∉ fp := fun m => Nat.lt_irrefl _ (lo _ m)
  refine wpAny_bind (wpAny_newObj_type ?_)
  rw [nm]
  exact wpAny_pure ⟨plainId_quiet F.plain_max_loop _, codeAny_max_loop_firstH W H kw bt cm s2.heap.objs.size out (fresh_in kp) _ pos (fun b o e => Heap.get?_push_of_some _ (kp b o e)) (W.frame 0 s2 _ s2.toks st (Nat.le_refl _) fun b _ o e => Heap.get?_push_of_some _ e) (Heap.get?_push_size _ rfl) fun v s' hP hm => fin v s' hP (Moved.drop_new (tk := s2.toks) hm (Nat.le_refl _))⟩
end
theorem lexLt_lt : ∀ a b : List Int, HT.lexLt a b = decide (a < b)
  | [], [] => by simp [HT.lexLt]
  | [], y :: ys => by simp [HT.lexLt]
  | x :: xs, [] => by simp [HT.lexLt]
  | x :: xs, y :: ys => by
    rw [HT.lexLt_cons, lexLt_lt xs ys]
    have e := List.cons_lt_cons_iff (a := x) (b := y) (l₁ := xs) (l₂ := ys)
    by_cases h : x = y
    · subst h
      rw [if_pos rfl]
      exact decide_eq_decide.mpr (by rw [e]; simp)
    · rw [if_neg h]
      exact decide_eq_decide.mpr (by rw [e]; simp [h])
theorem lexL_not : ∀ a b : List Int, lexL a b = !HT.lexLt b a
  | [], [] => rfl
  | [], y :: ys => rfl
  | x :: xs, [] => rfl
  | x :: xs, y :: ys => by
    rw [HT.lexLt_cons, lexL_cons, lexL_not xs ys]
    by_cases h : x = y
    · rw [if_pos h, if_pos h.symm]
    · rw [if_neg h, if_neg (Ne.symm h), ← decide_not]
      exact decide_eq_decide.mpr ⟨fun g => by omega, fun g => by omega⟩
theorem lexL_le (a b : List Int) : lexL a b = decide (a ≤ b) := by
  rw [lexL_not, lexLt_lt, ← decide_not]
  exact decide_eq_decide.mpr List.not_lt
theorem dataLt_tups (a b : List Int) : PySem.W.dataLt (.tuple (intsD a)) (.tuple (intsD b)) = decide (a < b) := (PySem.W.dataLt_tuple _ _).trans (PySem.W.dataLt_ints a b)
theorem alike_tups (a b : List Int) : PySem.W.alike (.tuple (intsD a)) (.tuple (intsD b)) = true := PySem.W.alike_ints a b
def pick3 {α : Type} (c1 c2 c3 : Bool) (x y z : α) : α := if (if c1 then c2 else c3) then z else if c1 then y else x
def rPick3 (K : PySem.W.Frag) (g : List Int → List Int → Bool) : List V → Hp → VK → Prop := fun vs H Q => ∃ (p q r : Addr) (a b c : List Int), vs = [.ref p, .ref q, .ref r] ∧ SqT K H p (a.map V.int) ∧ SqT K H q (b.map V.int) ∧ SqT K H r (c.map V.int) ∧
  Q (.ref (pick3 (g b a) (g c b) (g c a) p q r)) H
theorem reads_tup {X : Cx} {pins : List (Addr × Obj)} {σ : L2.St} {H : Hp} {st : Shared} (iv : Inv X pins σ H st) {p : Addr} {a : List Int} (h : SqT X.K H p (a.map V.int)) : ∃ as, Reads st.heap (.ref p) (.tuple (intsD a)) as :=
  Dp.reads iv (.tuple (intsD a)) (.ref p) (.ref p) (.tup h (ints_dps a).dps) rfl
theorem cr_min3T {X : Cx} (hc : X.calm = true) (hu : X.A.units + 3 < cLine) : CallR X (.builtin "min") (rPick3 X.K fun a b => decide (a < b)) := fun pins st σ H xs us Q iv rs h => by
  obtain ⟨p, q, r, a, b, c, rfl, hp, hq, hr, k⟩ := h
  obtain ⟨rfl⟩ : us = [.ref p, .ref q, .ref r] := by
    cases rs with
    | cons r1 rs =>
      cases rs with
      | cons r2 rs =>
        cases rs with
        | cons r3 rs =>
          cases rs
          cases r1
          cases r2
          cases r3
          rfl
  obtain ⟨a1, d1⟩ := reads_tup iv hp
  obtain ⟨a2, d2⟩ := reads_tup iv hq
  obtain ⟨a3, d3⟩ := reads_tup iv hr
  have old : ∀ b o, st.heap.get? b = some o → (st.heap.push { cls := .type "tuple", data := .seq #[.ref p, .ref q, .ref r] }).get? b = some o := fun b o e => Heap.get?_push_of_some _ e
  have all : ReadsAll (st.heap.push { cls := .type "tuple", data := .seq #[.ref p, .ref q, .ref r] }) [.ref p, .ref q, .ref r] [.tuple (intsD a), .tuple (intsD b), .tuple (intsD c)] (a1 ++ (a2 ++ (a3 ++ []))) :=
    .cons (Reads.keeps old d1) (.cons (Reads.keeps old d2) (.cons (Reads.keeps old d3) .nil))
  have ak : PySem.W.AlikeAll [.tuple (intsD a), .tuple (intsD b), .tuple (intsD c)] := ⟨fun x hx y hy => by
    simp only [List.mem_cons, List.mem_nil_iff, or_false] at hx hy
    rcases hx with rfl | rfl | rfl <;> rcases hy with rfl | rfl | rfl <;> exact alike_tups _ _, fun x hx => by
    simp only [List.mem_cons, List.mem_nil_iff, or_false] at hx
    rcases hx with rfl | rfl | rfl <;> exact fun z => by cases z⟩
  have dep : PyData.depthAll [.tuple (intsD a), .tuple (intsD b), .tuple (intsD c)] ≤ 1 := depths_le fun d hd => by
    simp only [List.mem_cons, List.mem_nil_iff, or_false] at hd
    rcases hd with rfl | rfl | rfl <;> (simp only [PyData.depth, depth_ints]; decide)
  refine call_min3H (PySem.W.iter_tupleW (A := X.A.in1) (s := { st with heap := st.heap.push { cls := .type "tuple", data := .seq #[.ref p, .ref q, .ref r] } }) (show X.A.in1.handled = none from iv.ok.hd hc) ⟨_, Heap.get?_push_size _ rfl, rfl, 0, rfl⟩ fun s2 e W s0 lo kw kp =>
    ⟨_, _, _, _, _, _, _, _, _, rfl, W, s0, lo, (by show 0 < 3; decide), kw, kp, PySem.W.cmpIn_lt (A := X.A.in1) (s := { st with heap := st.heap.push { cls := .type "tuple", data := .seq #[.ref p, .ref q, .ref r] } }) all ak (by show X.A.units + 1 + _ < _; omega), fun v s' hP m => ?_⟩)
  obtain ⟨h', tk, rfl, hk'⟩ := PySem.W.moved_old e rfl m
  refine ⟨_, H, iv.kept (t' := tk) fun b o z => hk' b o (old b o z), ?_, k⟩
  have hP' : (#[.ref p, .ref q, .ref r] : Array Value)[argBest (fun i j => PySem.W.dataLt (([.tuple (intsD a), .tuple (intsD b), .tuple (intsD c)] : List PyData).getD i .none) (([.tuple (intsD a), .tuple (intsD b), .tuple (intsD c)] : List PyData).getD j .none)) 2]? = some v := hP
  have e1 := dataLt_tups b a
  have e2 := dataLt_tups c b
  have e3 := dataLt_tups c a
  show L2.RelV (V.ref (pick3 (decide (b < a)) (decide (c < b)) (decide (c < a)) p q r)) v
  generalize decide (b < a) = k1 at e1 ⊢
  generalize decide (c < b) = k2 at e2 ⊢
  generalize decide (c < a) = k3 at e3 ⊢
  cases k1 <;> cases k2 <;> cases k3 <;> simp [argBest, e1, e2, e3] at hP' <;> (subst hP'; rfl)
theorem cr_max3T {X : Cx} (hc : X.calm = true) (hu : X.A.units + 3 < cLine) : CallR X (.builtin "max") (rPick3 X.K fun a b => decide (b < a)) := fun pins st σ H xs us Q iv rs h => by
  obtain ⟨p, q, r, a, b, c, rfl, hp, hq, hr, k⟩ := h
  obtain ⟨rfl⟩ : us = [.ref p, .ref q, .ref r] := by
    cases rs with
    | cons r1 rs =>
      cases rs with
      | cons r2 rs =>
        cases rs with
        | cons r3 rs =>
          cases rs
          cases r1
          cases r2
          cases r3
          rfl
  obtain ⟨a1, d1⟩ := reads_tup iv hp
  obtain ⟨a2, d2⟩ := reads_tup iv hq
  obtain ⟨a3, d3⟩ := reads_tup iv hr
  have old : ∀ b o, st.heap.get? b = some o → (st.heap.push { cls := .type "tuple", data := .seq #[.ref p, .ref q, .ref r] }).get? b = some o := fun b o e => Heap.get?_push_of_some _ e
  have all : ReadsAll (st.heap.push { cls := .type "tuple", data := .seq #[.ref p, .ref q, .ref r] }) [.ref p, .ref q, .ref r] [.tuple (intsD a), .tuple (intsD b), .tuple (intsD c)] (a1 ++ (a2 ++ (a3 ++ []))) :=
    .cons (Reads.keeps old d1) (.cons (Reads.keeps old d2) (.cons (Reads.keeps old d3) .nil))
  have ak : PySem.W.AlikeAll [.tuple (intsD a), .tuple (intsD b), .tuple (intsD c)] := ⟨fun x hx y hy => by
    simp only [List.mem_cons, List.mem_nil_iff, or_false] at hx hy
    rcases hx with rfl | rfl | rfl <;> rcases hy with rfl | rfl | rfl <;> exact alike_tups _ _, fun x hx => by
    simp only [List.mem_cons, List.mem_nil_iff, or_false] at hx
    rcases hx with rfl | rfl | rfl <;> exact fun z => by cases z⟩
  have dep : PyData.depthAll [.tuple (intsD a), .tuple (intsD b), .tuple (intsD c)] ≤ 1 := depths_le fun d hd => by
    simp only [List.mem_cons, List.mem_nil_iff, or_false] at hd
    rcases hd with rfl | rfl | rfl <;> (simp only [PyData.depth, depth_ints]; decide)
  refine call_max3H (PySem.W.iter_tupleW (A := X.A.in1) (s := { st with heap := st.heap.push { cls := .type "tuple", data := .seq #[.ref p, .ref q, .ref r] } }) (show X.A.in1.handled = none from iv.ok.hd hc) ⟨_, Heap.get?_push_size _ rfl, rfl, 0, rfl⟩ fun s2 e W s0 lo kw kp =>
    ⟨_, _, _, _, _, _, _, _, _, rfl, W, s0, lo, (by show 0 < 3; decide), kw, kp, PySem.W.cmpIn_gt (A := X.A.in1) (s := { st with heap := st.heap.push { cls := .type "tuple", data := .seq #[.ref p, .ref q, .ref r] } }) all ak (by show X.A.units + 1 + _ < _; omega), fun v s' hP m => ?_⟩)
  obtain ⟨h', tk, rfl, hk'⟩ := PySem.W.moved_old e rfl m
  refine ⟨_, H, iv.kept (t' := tk) fun b o z => hk' b o (old b o z), ?_, k⟩
  have hP' : (#[.ref p, .ref q, .ref r] : Array Value)[argBest (fun i j => PySem.W.dataLt (([.tuple (intsD a), .tuple (intsD b), .tuple (intsD c)] : List PyData).getD j .none) (([.tuple (intsD a), .tuple (intsD b), .tuple (intsD c)] : List PyData).getD i .none)) 2]? = some v := hP
  have e1 := dataLt_tups a b
  have e2 := dataLt_tups b c
  have e3 := dataLt_tups a c
  show L2.RelV (V.ref (pick3 (decide (a < b)) (decide (b < c)) (decide (a < c)) p q r)) v
  generalize decide (a < b) = k1 at e1 ⊢
  generalize decide (b < c) = k2 at e2 ⊢
  generalize decide (a < c) = k3 at e3 ⊢
  cases k1 <;> cases k2 <;> cases k3 <;> simp [argBest, e1, e2, e3] at hP' <;> (subst hP'; rfl)
section
variable {X : Cx} {δ : Dl} {μ : Cells} {e a b c : Expr} {pos p : Pos} {Q : Vd → Cells → Prop} {mg : Str → Option Value}
theorem ca_pick3 {K : PySem.W.Frag} {g : List Int → List Int → Bool} {n1 n2 n3 : List Int} (h : Q (.d (.tuple (intsD (pick3 (g n2 n1) (g n3 n2) (g n3 n1) n1 n2 n3)))) μ) : CaW K (rPick3 K g) [.d (.tuple (intsD n1)), .d (.tuple (intsD n2)), .d (.tuple (intsD n3))] μ Q := fun F H vs m o QV k => by
  cases o with
  | cons o1 o =>
    cases o with
    | cons o2 o =>
      cases o with
      | cons o3 o =>
        cases o
        obtain ⟨a1, v1, b1, rfl, h1, g1, d1⟩ := dp_tupX o1
        obtain ⟨a2, v2, b2, rfl, h2, g2, d2⟩ := dp_tupX o2
        obtain ⟨a3, v3, b3, rfl, h3, g3, d3⟩ := dp_tupX o3
        have e1 := dps_ints d1
        have e2 := dps_ints d2
        have e3 := dps_ints d3
        subst e1 e2 e3
        refine ⟨a1, a2, a3, n1, n2, n3, rfl, .inl (.inr ⟨b1, m.ex _ _ h1⟩), .inl (.inr ⟨b2, m.ex _ _ h2⟩), .inl (.inr ⟨b3, m.ex _ _ h3⟩), k _ _ F H μ Fw.refl m ?_ h⟩
        generalize g n2 n1 = k1
        generalize g n3 n2 = k2
        generalize g n3 n1 = k3
        cases k1 <;> cases k2 <;> cases k3 <;> first | exact o1 | exact o2 | exact o3
theorem we_min3T (B : Bl mg) (hg : Gl X "min") (hc : X.calm = true) (hu : X.A.units + 3 < cLine) (h : WA X [a, b, c] δ μ fun xs μ1 => ∃ n1 n2 n3, xs = [.d (.tuple (intsD n1)), .d (.tuple (intsD n2)), .d (.tuple (intsD n3))] ∧ Q (.d (.tuple (intsD (pick3 (decide (n2 < n1)) (decide (n3 < n2)) (decide (n3 < n1)) n1 n2 n3)))) μ1)
    (hm : X.mg = mg := by rfl) (s1 : starEach [a, b, c] X.env = (false, eval a X.env) :: starEach [b, c] X.env := by rfl) (s2 : (backTo pos (starEach [b, c] X.env)).any (·.1) = false := by rfl) :
    WE X (.Call (.Name "min" p) [a, b, c] [] pos) δ μ Q :=
  we_cb (cr_min3T hc hu) hg (hm ▸ B.min) PyProof.Rows.boot_min (fun F H σ R QV k => h F H σ R QV fun vs xs F' H' μ' w r o q => k vs xs F' H' μ' w r o (by
    obtain ⟨n1, n2, n3, rfl, q⟩ := q
    exact ca_pick3 q)) (he := s1) (hpl := s2)
theorem we_max3T (B : Bl mg) (hg : Gl X "max") (hc : X.calm = true) (hu : X.A.units + 3 < cLine) (h : WA X [a, b, c] δ μ fun xs μ1 => ∃ n1 n2 n3, xs = [.d (.tuple (intsD n1)), .d (.tuple (intsD n2)), .d (.tuple (intsD n3))] ∧ Q (.d (.tuple (intsD (pick3 (decide (n1 < n2)) (decide (n2 < n3)) (decide (n1 < n3)) n1 n2 n3)))) μ1)
    (hm : X.mg = mg := by rfl) (s1 : starEach [a, b, c] X.env = (false, eval a X.env) :: starEach [b, c] X.env := by rfl) (s2 : (backTo pos (starEach [b, c] X.env)).any (·.1) = false := by rfl) :
    WE X (.Call (.Name "max" p) [a, b, c] [] pos) δ μ Q :=
  we_cb (cr_max3T hc hu) hg (hm ▸ B.max) PyProof.Rows.boot_max (fun F H σ R QV k => h F H σ R QV fun vs xs F' H' μ' w r o q => k vs xs F' H' μ' w r o (by
    obtain ⟨n1, n2, n3, rfl, q⟩ := q
    exact ca_pick3 (g := fun a b => decide (b < a)) q)) (he := s1) (hpl := s2)
end
section
variable {X : Cx} {δ : Dl} {μ : Cells} {a b c : Expr} {pos : Pos} {D : Dn}
theorem ws_par3 (i j l : Nat) {x y z : Str} {px py pz pt : Pos} {kt k2 : Nat} {pt2 : Pos} (hc : X.calm = true) (hN : X.N.Nodup) (hi : X.N[i]? = some x) (hj : X.N[j]? = some y) (hl : X.N[l]? = some z) (hij : i ≠ j) (hil : i ≠ l) (hjl : j ≠ l)
    (hx : X.env.scope.names.lookup x = some .local) (hy : X.env.scope.names.lookup y = some .local) (hz : X.env.scope.names.lookup z = some .local)
    (h : WA X [a, b, c] δ μ fun xs μ1 => ∃ u v w, xs = [u, v, w] ∧ D.nx (((δ.set i (some u)).set j (some v)).set l (some w)) μ1)
    (hw : swappedStores [.Tuple [.Name x px, .Name y py, .Name z pz] kt pt] (.Tuple [a, b, c] k2 pt2) X.env = pure (some [x, y, z]))
    (hs : swapsWithSole [.Tuple [.Name x px, .Name y py, .Name z pz] kt pt] (.Tuple [a, b, c] k2 pt2) pos.line X.env = pure false := by rfl) :
    WS X (.Assign [.Tuple [.Name x px, .Name y py, .Name z pz] kt pt] (.Tuple [a, b, c] k2 pt2) pos) δ μ D := fun F H σ R De bb =>
  toS (ps_par3 hc hN hi hj hl hij hil hjl hx hy hz (pcA X [a, b, c]) hw hs) (h F H σ R _ fun vs xs F1 H1 μ1 w1 R1 o1 q => by
    obtain ⟨u, v, w, rfl, q⟩ := q
    cases o1 with
    | cons o1 o2 =>
      cases o2 with
      | cons o2 o3 =>
        cases o3 with
        | cons o3 o4 =>
          cases o4
          exact ⟨_, _, _, rfl, bb.nx F1 H1 _ _ μ1 w1 (((R1.put i o1).put j o2).put l o3) q⟩)
end
end Ec

set_option Elab.async false
set_option linter.all false
namespace Ec
open PySem PySem.Spec PyProof.Rows L2
/-! ### the first and the last order -/
theorem ints_le : ∀ {a b : List Int}, a.length = b.length → (∀ (k : Nat) (x y : Int), a.take k = b.take k → a[k]? = some x → b[k]? = some y → x ≤ y) → a ≤ b
  | [], [], _, _ => List.le_refl _
  | x :: xs, y :: ys, hl, h => by
    have h0 : x ≤ y := h 0 x y rfl rfl rfl
    rw [List.cons_le_cons_iff]
    by_cases e : x = y
    · refine .inr ⟨e, ints_le (by simpa using hl) fun k u v h1 h2 h3 => h (k + 1) u v ?_ (by simpa using h2) (by simpa using h3)⟩
      rw [List.take_succ_cons, List.take_succ_cons, h1, e]
    · exact .inl (by omega)
  | [], y :: ys, hl, _ => by simp at hl
  | x :: xs, [], hl, _ => by simp at hl
theorem rng_ltp (n : Nat) : (rng n).Pairwise (· < ·) := by
  unfold rng
  rw [List.pairwise_map]
  exact List.pairwise_lt_range.imp fun h => by omega
theorem nexts_up (c : Co) (t : List Int) : (nexts c t).Pairwise (· < ·) := ((rng_ltp _).filter _).filter _
def foS (c : Co) : Nat → List Int
  | 0 => []
  | i + 1 => foS c i ++ [(nexts c (foS c i)).getD 0 0]
def laS (c : Co) : Nat → List Int
  | 0 => []
  | i + 1 => laS c i ++ [(nexts c (laS c i)).getLastD 0]
def fo (c : Co) : List Int := foS c c.length
def la (c : Co) : List Int := laS c c.length
theorem nexts_ne {c : Co} {r : List Int} (h : POrd c r) (hw : nev c = []) (hl : r.length < c.length) : nexts c r ≠ [] := fun z => by
  obtain ⟨x, h0, h1, h2, h3⟩ := h.more hw hl
  have : x ∈ nexts c r := mem_nexts.mpr ⟨⟨h0, h1⟩, h2, h3⟩
  rw [z] at this
  cases this
theorem getD0_mem {l : List Int} (h : l ≠ []) : l.getD 0 0 ∈ l := by
  cases l with
  | nil => exact absurd rfl h
  | cons x r => exact List.mem_cons_self
theorem last_mem {l : List Int} (h : l ≠ []) : l.getLastD 0 ∈ l := by
  rw [List.getLastD_eq_getLast?, List.getLast?_eq_some_getLast h]
  exact List.getLast_mem h
theorem foS_ok {c : Co} (hw : nev c = []) : ∀ i, i ≤ c.length → POrd c (foS c i) ∧ (foS c i).length = i
  | 0, _ => ⟨POrd.nil c, rfl⟩
  | i + 1, h => by
    obtain ⟨h1, h2⟩ := foS_ok hw i (by omega)
    obtain ⟨⟨g0, g1⟩, g2, g3⟩ := mem_nexts.mp (getD0_mem (nexts_ne h1 hw (by omega)))
    exact ⟨h1.add g0 g1 g2 g3, by show (foS c i ++ [_]).length = _; rw [List.length_append, h2]; rfl⟩
theorem laS_ok {c : Co} (hw : nev c = []) : ∀ i, i ≤ c.length → POrd c (laS c i) ∧ (laS c i).length = i
  | 0, _ => ⟨POrd.nil c, rfl⟩
  | i + 1, h => by
    obtain ⟨h1, h2⟩ := laS_ok hw i (by omega)
    obtain ⟨⟨g0, g1⟩, g2, g3⟩ := mem_nexts.mp (last_mem (nexts_ne h1 hw (by omega)))
    exact ⟨h1.add g0 g1 g2 g3, by show (laS c i ++ [_]).length = _; rw [List.length_append, h2]; rfl⟩
theorem foS_take {c : Co} (hw : nev c = []) {i : Nat} : ∀ {k}, i ≤ k → k ≤ c.length → (foS c k).take i = foS c i
  | 0, h, _ => by
    have : i = 0 := by omega
    subst this
    rfl
  | k + 1, h, hk => by
    have hl := (foS_ok hw k (by omega)).2
    by_cases e : i = k + 1
    · subst e
      exact List.take_of_length_le (by rw [(foS_ok hw (k + 1) hk).2]; exact Nat.le_refl _)
    · show (foS c k ++ [_]).take i = _
      rw [List.take_append_of_le_length (by omega), foS_take hw (by omega) (by omega)]
theorem laS_take {c : Co} (hw : nev c = []) {i : Nat} : ∀ {k}, i ≤ k → k ≤ c.length → (laS c k).take i = laS c i
  | 0, h, _ => by
    have : i = 0 := by omega
    subst this
    rfl
  | k + 1, h, hk => by
    have hl := (laS_ok hw k (by omega)).2
    by_cases e : i = k + 1
    · subst e
      exact List.take_of_length_le (by rw [(laS_ok hw (k + 1) hk).2]; exact Nat.le_refl _)
    · show (laS c k ++ [_]).take i = _
      rw [List.take_append_of_le_length (by omega), laS_take hw (by omega) (by omega)]
theorem fo_ord {c : Co} (hw : nev c = []) : IsOrd c (fo c) := ⟨(foS_ok hw _ (Nat.le_refl _)).1, (foS_ok hw _ (Nat.le_refl _)).2⟩
theorem la_ord {c : Co} (hw : nev c = []) : IsOrd c (la c) := ⟨(laS_ok hw _ (Nat.le_refl _)).1, (laS_ok hw _ (Nat.le_refl _)).2⟩
theorem foS_at {c : Co} (hw : nev c = []) {k : Nat} (hk : k < c.length) : (fo c)[k]? = some ((nexts c (foS c k)).getD 0 0) := by
  have e := foS_take hw (i := k + 1) (k := c.length) hk (Nat.le_refl _)
  have h2 := (foS_ok hw k (by omega)).2
  have : ((fo c).take (k + 1))[k]? = some ((nexts c (foS c k)).getD 0 0) := by
    unfold fo
    rw [e]
    show (foS c k ++ [_])[k]? = _
    rw [List.getElem?_append_right (by omega), h2, Nat.sub_self]
    rfl
  rwa [List.getElem?_take_of_lt (by omega)] at this
theorem laS_at {c : Co} (hw : nev c = []) {k : Nat} (hk : k < c.length) : (la c)[k]? = some ((nexts c (laS c k)).getLastD 0) := by
  have e := laS_take hw (i := k + 1) (k := c.length) hk (Nat.le_refl _)
  have h2 := (laS_ok hw k (by omega)).2
  have : ((la c).take (k + 1))[k]? = some ((nexts c (laS c k)).getLastD 0) := by
    unfold la
    rw [e]
    show (laS c k ++ [_])[k]? = _
    rw [List.getElem?_append_right (by omega), h2, Nat.sub_self]
    rfl
  rwa [List.getElem?_take_of_lt (by omega)] at this
theorem ord_next {c : Co} {r : List Int} (h : IsOrd c r) {k : Nat} {y : Int} (e : r[k]? = some y) : y ∈ nexts c (r.take k) := by
  refine mem_nexts.mpr ⟨h.po.rg y (List.mem_of_getElem? e), fun m => ?_, h.po.ok k y e⟩
  obtain ⟨j, hj, e2⟩ := List.mem_take_iff_getElem.mp m
  have hk := (List.getElem?_eq_some_iff.mp e).1
  have e3 : r[j]? = some y := by rw [List.getElem?_eq_getElem (by omega), e2]
  have := (List.getElem?_inj (by omega) h.po.nd).mp (e3.trans e.symm)
  omega
theorem min_head : ∀ {l : List Int}, l.Pairwise (· < ·) → ∀ x ∈ l, l.getD 0 0 ≤ x
  | [], _, _, h => by cases h
  | a :: l, hp, x, h => by
    show a ≤ x
    rcases List.mem_cons.mp h with rfl | h
    · exact Int.le_refl _
    · exact Int.le_of_lt ((List.pairwise_cons.mp hp).1 x h)
theorem max_last {l : List Int} (hp : l.Pairwise (· < ·)) : ∀ x ∈ l, x ≤ l.getLastD 0 := fun x h => by
  have ne : l ≠ [] := fun z => by rw [z] at h; cases h
  rw [List.getLastD_eq_getLast?, List.getLast?_eq_some_getLast ne]
  show x ≤ l.getLast ne
  have e := List.dropLast_concat_getLast ne
  rw [← e] at hp h
  rcases List.mem_append.mp h with m | m
  · exact Int.le_of_lt ((List.pairwise_append.mp hp).2.2 x m _ (List.mem_singleton.mpr rfl))
  · rw [List.mem_singleton.mp m]
    exact Int.le_refl _
theorem fo_le {c : Co} (hw : nev c = []) {r : List Int} (h : IsOrd c r) : fo c ≤ r := by
  have hf := fo_ord hw
  refine ints_le (by rw [hf.lens, h.lens]) fun k x y h1 h2 h3 => ?_
  have hk : k < c.length := by
    have := (List.getElem?_eq_some_iff.mp h3).1
    rw [h.lens] at this
    exact this
  have hn := ord_next h h3
  rw [← h1] at hn
  have e : (fo c).take k = foS c k := foS_take hw (by omega) (Nat.le_refl _)
  rw [e] at hn
  rw [foS_at hw hk] at h2
  cases h2
  exact min_head (nexts_up _ _) y hn
theorem le_la {c : Co} (hw : nev c = []) {r : List Int} (h : IsOrd c r) : r ≤ la c := by
  have hf := la_ord hw
  refine ints_le (by rw [hf.lens, h.lens]) fun k y x h1 h3 h2 => ?_
  have hk : k < c.length := by
    have := (List.getElem?_eq_some_iff.mp h3).1
    rw [h.lens] at this
    exact this
  have hn := ord_next h h3
  rw [h1] at hn
  have e : (la c).take k = laS c k := laS_take hw (by omega) (Nat.le_refl _)
  rw [e] at hn
  rw [laS_at hw hk] at h2
  cases h2
  exact max_last (nexts_up _ _) y hn
theorem atI_lastI {l : List Int} (h : l ≠ []) : atI (intsD l) (-1) = some (.int (l.getLastD 0)) := by
  have e := List.dropLast_concat_getLast h
  have e2 : l.getLastD 0 = l.getLast h := by rw [List.getLastD_eq_getLast?, List.getLast?_eq_some_getLast h]; rfl
  rw [e2]
  conv => lhs; rw [← e]
  rw [ints_app]
  exact atI_last _ _
abbrev T_fo : TrD := fun xs μ R => ∃ dc c, xs = [.d dc] ∧ CoD dc c ∧ c.length < 64 ∧ nev c = [] ∧ R (.d (.tuple (intsD (fo c)))) μ
abbrev T_la : TrD := fun xs μ R => ∃ dc c, xs = [.d dc] ∧ CoD dc c ∧ c.length < 64 ∧ nev c = [] ∧ R (.d (.tuple (intsD (la c)))) μ
abbrev T_whole : TrD := fun xs μ R => ∃ (b : Addr) (ds : List PyData) (n m : Nat), xs = [.a b, .d (.int (n : Int))] ∧ μ = ([(b, ds)] : Cells) ∧ BoxOk m ds ∧ n ≤ 40 ∧ m + 5000 ≤ 1000000000000 ∧ ∀ c ds', c.length ≤ n → (∀ e ∈ c, e.1.length ≤ 1000) → nev c = [] → CoW c → BoxOk (m + 5000) ds' → R (.d (coD c)) [(b, ds')]
end Ec

set_option Elab.async false
set_option linter.all false
namespace Ec
open PySem PySem.Spec PyProof.Rows L2
theorem cutZ_takeA {ds : List PyData} {k : Nat} : cutZ ds none (some (k : Int)) = ds.take k := by
  unfold cutZ
  rw [HT.sIx_none]
  have : HT.sIx ds.length ds.length (some (k : Int)) = min k ds.length := HT.sIx_nat _ _ k
  rw [this]
  simp only [List.drop_zero, Nat.sub_zero]
  by_cases h : k ≤ ds.length
  · rw [Nat.min_eq_left h]
  · rw [Nat.min_eq_right (by omega), List.take_of_length_le (Nat.le_refl _), List.take_of_length_le (by omega)]
/-- an exchange changes each distance by one -/
theorem cross_step {c : Co} {r s : List Int} (h : IsOrd c r) (hs : IsOrd c s) {i : Nat} (hi : i ∈ frp c r) :
    ((crs c.length (swp r i) s).length = (crs c.length r s).length + 1 ∨ (crs c.length r s).length = (crs c.length (swp r i) s).length + 1) := by
  obtain ⟨h1, h2⟩ := (frp_ok h).mp hi
  have m1 := h.row.get_mem (i := i) (by omega)
  have m2 := h.row.get_mem (i := i + 1) h1
  have hne := h.row.ne (i := i) (j := i + 1) (by omega) h1 (by omega)
  have s1 := (hs.row.rg _).mpr ((h.row.rg _).mp m1)
  have s2 := (hs.row.rg _).mpr ((h.row.rg _).mp m2)
  have : posn (r.getD i 0) s ≠ posn (r.getD (i + 1) 0) s := fun z => hne (posn_inj s1 s2 z)
  by_cases g : posn (r.getD i 0) s < posn (r.getD (i + 1) 0) s
  · exact .inl (cross_more h.row hs.row h1 g)
  · exact .inr (cross_less h.row hs.row h1 (by omega))
theorem walkI_cons {c : Co} {r s : List Int} {p : Nat} {ps : List Nat} (h : walkI c r (((p :: ps).map fun i : Nat => (i : Int))) = some s) : p ∈ frp c r ∧ walkI c (swp r p) (ps.map fun i : Nat => (i : Int)) = some s := by
  rw [List.map_cons] at h
  have h' : (if ((p : Int)) ∈ frI c r then walkI c (swp r ((p : Int)).toNat) (ps.map fun i : Nat => (i : Int)) else none) = some s := h
  by_cases g : ((p : Int)) ∈ frI c r
  · rw [if_pos g] at h'
    exact ⟨by simpa using (mem_frI.mp g).2, h'⟩
  · rw [if_neg g] at h'
    cases h'
theorem walkI_far {c : Co} {t : List Int} (ht : IsOrd c t) : ∀ {ps : List Nat} {r s : List Int}, IsOrd c r → walkI c r (ps.map fun i : Nat => (i : Int)) = some s → (crs c.length r t).length ≤ ps.length + (crs c.length s t).length
  | [], r, s, _, h => by
    cases (show some r = some s from h)
    rw [List.length_nil]
    omega
  | p :: ps, r, s, hr, h => by
    obtain ⟨h1, h2⟩ := walkI_cons h
    have ih := walkI_far ht ((frp_ok hr).mp h1).2 h2
    have := cross_step hr ht h1
    rw [List.length_cons]
    omega
/-- a shortest walk, one step -/
theorem walk_step {c : Co} {h s : List Int} {p : Nat} {ps : List Nat} (ho : IsOrd c h) (hs : IsOrd c s) (hw : walkI c h (((p :: ps).map fun i : Nat => (i : Int))) = some s) (hn : (crs c.length h s).length = ps.length + 1) :
    p ∈ frp c h ∧ IsOrd c (swp h p) ∧ walkI c (swp h p) (ps.map fun i : Nat => (i : Int)) = some s ∧ (crs c.length (swp h p) s).length = ps.length := by
  obtain ⟨h1, h2⟩ := walkI_cons hw
  have o2 := ((frp_ok ho).mp h1).2
  have far := walkI_far hs o2 h2
  rw [cross_self, List.length_nil] at far
  have := cross_step ho hs h1
  exact ⟨h1, o2, h2, by omega⟩
theorem filter_xor {α : Type} (f g h : α → Bool) : ∀ l : List α, (∀ x ∈ l, h x = (f x != g x)) → (l.filter h).length + 2 * ((l.filter f).filter g).length = (l.filter f).length + (l.filter g).length
  | [], _ => rfl
  | x :: l, e => by
    have ih := filter_xor f g h l fun y hy => e y (List.mem_cons_of_mem _ hy)
    have ex := e x List.mem_cons_self
    cases hf : f x <;> cases hg : g x <;> simp [-List.filter_filter, List.filter_cons, ex, hf, hg] <;> omega
theorem cross_sum {n : Nat} {q t e : List Int} : (crs n q e).length + 2 * ((crs n q t).filter fun x => decide (x ∈ crs n t e)).length = (crs n q t).length + (crs n t e).length := by
  have e1 : ((crs n q t).filter fun x => decide (x ∈ crs n t e)) = (crs n q t).filter (xd t e) := by
    refine List.filter_congr fun x hx => ?_
    rw [crs_eq] at hx
    have hx1 := (List.mem_filter.mp hx).1
    rw [crs_eq, Bool.eq_iff_iff, decide_eq_true_eq, List.mem_filter]
    exact ⟨fun z => z.2, fun z => ⟨hx1, z⟩⟩
  rw [e1, crs_eq, crs_eq, crs_eq]
  refine filter_xor _ _ _ _ fun x _ => ?_
  unfold xd
  cases decide (((posn x.1 q : Nat) : Int) < ((posn x.2 q : Nat) : Int)) <;> cases decide (((posn x.1 t : Nat) : Int) < ((posn x.2 t : Nat) : Int)) <;> cases decide (((posn x.1 e : Nat) : Int) < ((posn x.2 e : Nat) : Int)) <;> rfl
theorem pick3_of {α : Type} {P : α → Prop} {c1 c2 c3 : Bool} {x y z : α} (hx : P x) (hy : P y) (hz : P z) : P (pick3 c1 c2 c3 x y z) := by
  unfold pick3
  cases c1 <;> cases c2 <;> cases c3 <;> first | exact hx | exact hy | exact hz
end Ec

set_option Elab.async false
set_option linter.all false
namespace Ec
open PySem PySem.Spec PyProof.Rows L2
/-! ### two companies side by side -/
def sh (n : Nat) (l : List Int) : List Int := l.map fun x => x + (n : Int)
def jn (c d : Co) : Co := c ++ d.map fun e => (sh c.length e.1, e.2)
theorem jn_len (c d : Co) : (jn c d).length = c.length + d.length := by simp [jn]
theorem sh_len (n : Nat) (l : List Int) : (sh n l).length = l.length := List.length_map _
theorem mem_sh {n : Nat} {l : List Int} {x : Int} : x ∈ sh n l ↔ x - n ∈ l := by
  unfold sh
  rw [List.mem_map]
  exact ⟨fun ⟨y, h, e⟩ => by rw [show x - n = y by omega]; exact h, fun h => ⟨x - n, h, by omega⟩⟩
theorem fr_jn1 {c d : Co} {p : Int} (h0 : 0 ≤ p) (h1 : p < c.length) : fr (jn c d) p = fr c p ∧ nd (jn c d) p = nd c p := by
  have hl : p.toNat < c.length := by omega
  unfold fr nd jn
  rw [List.getD_eq_getElem?_getD, List.getD_eq_getElem?_getD, List.getElem?_append_left hl]
  exact ⟨rfl, rfl⟩
theorem fr_jn2 {c d : Co} {p : Int} (h0 : 0 ≤ p) (h1 : p < d.length) : fr (jn c d) (p + c.length) = sh c.length (fr d p) ∧ nd (jn c d) (p + c.length) = nd d p := by
  have e : (p + (c.length : Int)).toNat = c.length + p.toNat := by omega
  unfold fr nd jn
  rw [e, List.getD_eq_getElem?_getD, List.getElem?_append_right (by omega), Nat.add_sub_cancel_left, List.getElem?_map, List.getD_eq_getElem?_getD, List.getElem?_eq_getElem (show p.toNat < d.length by omega)]
  exact ⟨rfl, rfl⟩
theorem fr_rg {c : Co} (w : CoW c) {p : Int} (h0 : 0 ≤ p) (h1 : p < c.length) : ∀ x ∈ fr c p, 0 ≤ x ∧ x < c.length := fun x hx => by
  have hl : p.toNat < c.length := by omega
  have e : c.getD p.toNat ([], 0) = c[p.toNat] := by rw [List.getD_eq_getElem?_getD, List.getElem?_eq_getElem hl]; rfl
  unfold fr at hx
  rw [e] at hx
  exact w.lt _ (List.getElem_mem hl) x hx
/-- those there, seen from both sides -/
structure Mix (c d : Co) (t t1 t2 : List Int) : Prop where
  l : ∀ x : Int, 0 ≤ x → x < c.length → (x ∈ t ↔ x ∈ t1)
  r : ∀ x : Int, 0 ≤ x → x < d.length → (x + (c.length : Int) ∈ t ↔ x ∈ t2)
theorem comes_jn1 {c d : Co} (w : CoW c) {t t1 t2 : List Int} (m : Mix c d t t1 t2) {p : Int} (h0 : 0 ≤ p) (h1 : p < c.length) : comes (jn c d) t p = comes c t1 p := by
  obtain ⟨e1, e2⟩ := fr_jn1 (d := d) h0 h1
  unfold comes cnt
  rw [e1, e2]
  have : (fr c p).filter (fun x => decide (x ∈ t)) = (fr c p).filter (fun x => decide (x ∈ t1)) := List.filter_congr fun x hx => by
    obtain ⟨g0, g1⟩ := fr_rg w h0 h1 x hx
    exact decide_eq_decide.mpr (m.l x g0 g1)
  rw [this]
theorem comes_jn2 {c d : Co} (w : CoW d) {t t1 t2 : List Int} (m : Mix c d t t1 t2) {p : Int} (h0 : 0 ≤ p) (h1 : p < d.length) : comes (jn c d) t (p + c.length) = comes d t2 p := by
  obtain ⟨e1, e2⟩ := fr_jn2 (c := c) h0 h1
  unfold comes cnt
  rw [e1, e2]
  have : ((sh c.length (fr d p)).filter (fun x => decide (x ∈ t))).length = ((fr d p).filter (fun x => decide (x ∈ t2))).length := by
    unfold sh
    rw [List.filter_map, List.length_map]
    congr 1
    refine List.filter_congr fun x hx => ?_
    obtain ⟨g0, g1⟩ := fr_rg w h0 h1 x hx
    exact decide_eq_decide.mpr (m.r x g0 g1)
  rw [this]
theorem rng_add (n m : Nat) : rng (n + m) = rng n ++ sh n (rng m) := by
  unfold rng sh
  rw [List.range_add, List.map_append, List.map_map, List.map_map]
  congr 1
  refine List.map_congr_left fun i _ => ?_
  show ((n + i : Nat) : Int) = (i : Int) + (n : Int)
  omega
theorem nexts_jn {c d : Co} (wc : CoW c) (wd : CoW d) {t t1 t2 : List Int} (m : Mix c d t t1 t2) : nexts (jn c d) t = nexts c t1 ++ sh c.length (nexts d t2) := by
  unfold nexts
  rw [jn_len, rng_add, List.filter_append, List.filter_append]
  congr 1
  · rw [List.filter_filter, List.filter_filter]
    refine List.filter_congr fun x hx => ?_
    obtain ⟨g0, g1⟩ := mem_rng.mp hx
    rw [comes_jn1 wc m g0 g1, decide_eq_decide.mpr (m.l x g0 g1)]
  · unfold sh
    rw [List.filter_map, List.filter_map, List.filter_filter, List.filter_filter]
    congr 1
    refine List.filter_congr fun x hx => ?_
    obtain ⟨g0, g1⟩ := mem_rng.mp hx
    show (comes (jn c d) t (x + c.length) && !decide (x + (c.length : Int) ∈ t)) = _
    rw [comes_jn2 wd m g0 g1, decide_eq_decide.mpr (m.r x g0 g1)]
theorem Mix.nil (c d : Co) : Mix c d [] [] [] := ⟨fun x _ _ => by simp, fun x _ _ => by simp⟩
theorem Mix.more {c d : Co} {t t1 t2 u1 u2 : List Int} (m : Mix c d t t1 t2) (h1 : ∀ x ∈ u1, 0 ≤ x ∧ x < c.length) (h2 : ∀ x ∈ u2, 0 ≤ x ∧ x < d.length) : Mix c d (t ++ (u1 ++ sh c.length u2)) (t1 ++ u1) (t2 ++ u2) where
  l := fun x g0 g1 => by
    rw [List.mem_append, List.mem_append, List.mem_append, m.l x g0 g1, mem_sh]
    refine ⟨fun h => ?_, fun h => ?_⟩
    · rcases h with h | h | h
      · exact .inl h
      · exact .inr h
      · have := h2 _ h
        omega
    · rcases h with h | h
      · exact .inl h
      · exact .inr (.inl h)
  r := fun x g0 g1 => by
    rw [List.mem_append, List.mem_append, List.mem_append, m.r x g0 g1, mem_sh, Int.add_sub_cancel]
    refine ⟨fun h => ?_, fun h => ?_⟩
    · rcases h with h | h | h
      · exact .inl h
      · have := h1 _ h
        omega
      · exact .inr h
    · rcases h with h | h
      · exact .inl h
      · exact .inr (.inr h)
theorem nexts_rg (c : Co) (t : List Int) : ∀ x ∈ nexts c t, 0 ≤ x ∧ x < c.length := fun x h => (mem_nexts.mp h).1
theorem stp_nil (c : Co) (t : List Int) : stp c t [] = nexts c t := by
  unfold stp
  exact List.filter_eq_self.mpr fun x _ => by simp
/-! ### rounds side by side -/
def zl (n : Nat) : List (List Int) → List (List Int) → List (List Int)
  | [], B => B.map (sh n)
  | a :: A, [] => a :: A
  | a :: A, b :: B => (a ++ sh n b) :: zl n A B
theorem rnds_big {c : Co} {b : List Int} : ∀ (k j : Nat) (t : List Int), und c t < k → und c t < j → rnds k c t b = rnds j c t b
  | 0, _, _, h, _ => by omega
  | _, 0, _, _, h => by omega
  | k + 1, j + 1, t, hk, hj => by
    unfold rnds
    split
    · rfl
    · rename_i hne
      have lt := stp_lt hne
      rw [rnds_big k j (t ++ stp c t b) (by omega) (by omega)]
theorem rnds_jn {c d : Co} (wc : CoW c) (wd : CoW d) : ∀ (k : Nat) (t t1 t2 : List Int), Mix c d t t1 t2 → rnds k (jn c d) t [] = zl c.length (rnds k c t1 []) (rnds k d t2 [])
  | 0, _, _, _, _ => rfl
  | k + 1, t, t1, t2, m => by
    have e := nexts_jn wc wd m
    unfold rnds
    rw [stp_nil, stp_nil, stp_nil, e]
    have m2 := m.more (nexts_rg c t1) (nexts_rg d t2)
    have ih := rnds_jn wc wd k _ _ _ m2
    by_cases h1 : nexts c t1 = []
    · by_cases h2 : nexts d t2 = []
      · rw [if_pos (by rw [h1, h2]; rfl), if_pos h1, if_pos h2]
        rfl
      · rw [if_neg (by rw [h1]; simpa [sh] using h2), if_pos h1, if_neg h2, ih]
        rw [h1, List.append_nil]
        have z : rnds k c t1 [] = [] := by
          cases k with
          | zero => rfl
          | succ k =>
            unfold rnds
            rw [stp_nil, if_pos h1]
        rw [z]
        rfl
    · rw [if_neg (by simp [h1]), if_neg h1, ih]
      by_cases h2 : nexts d t2 = []
      · rw [if_pos h2, h2, List.append_nil]
        have z : rnds k d t2 [] = [] := by
          cases k with
          | zero => rfl
          | succ k =>
            unfold rnds
            rw [stp_nil, if_pos h2]
        rw [z]
        cases rnds k c (t1 ++ nexts c t1) [] <;> simp [zl, sh]
      · rw [if_neg h2]
        rfl
theorem AR_jn {c d : Co} (wc : CoW c) (wd : CoW d) : AR (jn c d) [] [] = zl c.length (AR c [] []) (AR d [] []) := by
  unfold AR
  rw [rnds_jn wc wd _ _ _ _ (Mix.nil c d), jn_len]
  have h1 := und_le c []
  have h2 := und_le d []
  rw [rnds_big (c := c) (c.length + d.length + 1) (c.length + 1) [] (by omega) (by omega), rnds_big (c := d) (c.length + d.length + 1) (d.length + 1) [] (by omega) (by omega)]
theorem mem_zl {n : Nat} {x : Int} : ∀ (A B : List (List Int)), x ∈ (zl n A B).flatten ↔ x ∈ A.flatten ∨ x - n ∈ B.flatten
  | [], B => by
    show x ∈ (B.map (sh n)).flatten ↔ _
    simp only [List.mem_flatten, List.mem_map, List.flatten_nil, List.not_mem_nil, false_or]
    constructor
    · rintro ⟨_, ⟨b, hb, rfl⟩, hx⟩
      exact ⟨b, hb, mem_sh.mp hx⟩
    · rintro ⟨b, hb, hx⟩
      exact ⟨_, ⟨b, hb, rfl⟩, mem_sh.mpr hx⟩
  | a :: A, [] => by simp [zl]
  | a :: A, b :: B => by
    show x ∈ ((a ++ sh n b) :: zl n A B).flatten ↔ _
    rw [List.flatten_cons, List.flatten_cons, List.flatten_cons, List.mem_append, List.mem_append, List.mem_append, List.mem_append, mem_zl A B, mem_sh]
    constructor
    · rintro ((h | h) | (h | h)) <;> simp [h]
    · rintro ((h | h) | (h | h)) <;> simp [h]
theorem mem_gr_jn {c d : Co} (wc : CoW c) (wd : CoW d) {x : Int} : x ∈ gr (jn c d) ↔ x ∈ gr c ∨ x - c.length ∈ gr d := by
  unfold gr
  rw [mem_cl, mem_cl, mem_cl, List.nil_append, List.nil_append, List.nil_append, AR_jn wc wd, mem_zl]
theorem up_shift {n : Nat} {a b : List Int} (ha : a.Pairwise (· ≤ ·)) (hb : b.Pairwise (· ≤ ·)) (h1 : ∀ x ∈ a, x < n) (h2 : ∀ x ∈ b, 0 ≤ x) : (a ++ sh n b).Pairwise (· ≤ ·) := by
  rw [List.pairwise_append]
  refine ⟨ha, ?_, fun x hx y hy => ?_⟩
  · unfold sh
    rw [List.pairwise_map]
    exact hb.imp fun h => by omega
  · have := h1 x hx
    have := h2 _ (mem_sh.mp hy)
    omega
theorem gr_up (c : Co) : (gr c).Pairwise (· ≤ ·) := srt_up _
theorem gr_jn {c d : Co} (wc : CoW c) (wd : CoW d) : gr (jn c d) = gr c ++ sh c.length (gr d) := by
  refine srt_one (perm_of_mem (gr_nodup _) ?_ fun x => ?_) (gr_up _) (up_shift (gr_up c) (gr_up d) (fun x h => (gr_rng c x h).2) fun x h => (gr_rng d x h).1)
  · refine List.nodup_append.mpr ⟨gr_nodup c, map_nodup (fun a b e => by omega) (gr_nodup d), fun x hx y hy e => ?_⟩
    subst e
    have := (gr_rng c x hx).2
    have := (gr_rng d _ (mem_sh.mp hy)).1
    omega
  · rw [mem_gr_jn wc wd, List.mem_append, mem_sh]
theorem nev_jn {c d : Co} (wc : CoW c) (wd : CoW d) : nev (jn c d) = nev c ++ sh c.length (nev d) := by
  unfold nev
  rw [jn_len, rng_add, List.filter_append]
  congr 1
  · refine List.filter_congr fun x hx => ?_
    obtain ⟨g0, g1⟩ := mem_rng.mp hx
    rw [decide_eq_decide.mpr ((mem_gr_jn wc wd).trans ⟨fun h => h.elim id fun z => by have := (gr_rng d _ z).1; omega, .inl⟩)]
  · unfold sh
    rw [List.filter_map]
    congr 1
    refine List.filter_congr fun x hx => ?_
    obtain ⟨g0, g1⟩ := mem_rng.mp hx
    show (!decide (x + (c.length : Int) ∈ gr (jn c d))) = _
    have e : x + (c.length : Int) ∈ gr (jn c d) ↔ x ∈ gr d := by
      rw [mem_gr_jn wc wd, Int.add_sub_cancel]
      exact ⟨fun h => h.elim (fun z => by have := (gr_rng c _ z).2; omega) id, .inr⟩
    rw [decide_eq_decide.mpr e]
end Ec

set_option Elab.async false
set_option linter.all false
namespace Ec
open PySem PySem.Spec PyProof.Rows L2
theorem misL_iff {c : Co} {r : List Int} : misL c r = [] ↔ ∀ pre x post, r = pre ++ x :: post → comes c pre x = true := by
  unfold misL
  rw [List.filter_eq_nil_iff]
  constructor
  · intro h pre x post e
    have := h pre.length (List.mem_range.mpr (by rw [e]; simp))
    rw [e] at this
    simpa using this
  · intro h i hi
    have hl := List.mem_range.mp hi
    have e : r = r.take i ++ r.getD i 0 :: r.drop (i + 1) := by
      have : r.drop i = r.getD i 0 :: r.drop (i + 1) := by
        rw [List.drop_eq_getElem_cons hl, List.getD_eq_getElem?_getD, List.getElem?_eq_getElem hl]
        rfl
      rw [← this, List.take_append_drop]
    have := h _ _ _ e
    simpa [List.getD_eq_getElem?_getD] using this
/-- q mixes a and b (b's numbers shifted by n) -/
structure Il (n : Nat) (q a b : List Int) : Prop where
  l : q.filter (fun x => decide (x < (n : Int))) = a
  r : q.filter (fun x => !decide (x < (n : Int))) = sh n b
def un (n : Nat) (l : List Int) : List Int := l.map fun x => x - (n : Int)
theorem un_sh (n : Nat) (l : List Int) : un n (sh n l) = l := by
  unfold un sh
  rw [List.map_map]
  conv => rhs; rw [← List.map_id l]
  exact List.map_congr_left fun x _ => by show x + (n : Int) - n = id x; simp
theorem mem_un {n : Nat} {l : List Int} {x : Int} : x ∈ un n l ↔ x + n ∈ l := by
  unfold un
  rw [List.mem_map]
  exact ⟨fun ⟨y, h, e⟩ => by rw [show x + (n : Int) = y by omega]; exact h, fun h => ⟨_, h, by omega⟩⟩
theorem Mix.of (c d : Co) (u : List Int) : Mix c d u (u.filter fun x => decide (x < (c.length : Int))) (un c.length (u.filter fun x => !decide (x < (c.length : Int)))) where
  l := fun x g0 g1 => by
    rw [List.mem_filter]
    simp [g1]
  r := fun x g0 g1 => by
    rw [mem_un, List.mem_filter]
    have : ¬ x + (c.length : Int) < c.length := by omega
    simp [this]
theorem filter_at {p : Int → Bool} {l pre post : List Int} {x : Int} (h : l.filter p = pre ++ x :: post) : ∃ u v, l = u ++ x :: v ∧ u.filter p = pre ∧ p x = true := by
  obtain ⟨l1, l2, rfl, h1, h2⟩ := List.filter_eq_append_iff.mp h
  obtain ⟨l3, l4, rfl, h3, h4, _⟩ := List.filter_eq_cons_iff.mp h2
  refine ⟨l1 ++ l3, l4, by simp, ?_, h4⟩
  rw [List.filter_append, h1, List.filter_eq_nil_iff.mpr h3, List.append_nil]
theorem mis_jn {c d : Co} (wc : CoW c) (wd : CoW d) {q a b : List Int} (h : Il c.length q a b) (ha : ∀ x ∈ a, 0 ≤ x) (hb : ∀ x ∈ b, 0 ≤ x ∧ x < d.length) : misL (jn c d) q = [] ↔ misL c a = [] ∧ misL d b = [] := by
  have hla : ∀ x ∈ a, x < c.length := fun x hx => by
    rw [← h.l] at hx
    exact of_decide_eq_true (List.mem_filter.mp hx).2
  rw [misL_iff, misL_iff, misL_iff]
  constructor
  · intro g
    refine ⟨fun pre x post e => ?_, fun pre x post e => ?_⟩
    · obtain ⟨u, v, e1, e2, e3⟩ := filter_at (h.l.trans e)
      have hx : x ∈ a := by rw [e]; simp
      have := g u x v e1
      rw [comes_jn1 wc (Mix.of c d u) (ha x hx) (hla x hx), e2] at this
      exact this
    · have hx : x ∈ b := by rw [e]; simp
      have e0 : q.filter (fun x => !decide (x < (c.length : Int))) = sh c.length pre ++ (x + c.length) :: sh c.length post := by rw [h.r, e]; simp [sh]
      obtain ⟨u, v, e1, e2, e3⟩ := filter_at e0
      have := g u _ v e1
      rw [comes_jn2 wd (Mix.of c d u) (hb x hx).1 (hb x hx).2, e2, un_sh] at this
      exact this
  · rintro ⟨g1, g2⟩ pre x post e
    by_cases hx : x < (c.length : Int)
    · have e1 : a = (pre.filter fun x => decide (x < (c.length : Int))) ++ x :: (post.filter fun x => decide (x < (c.length : Int))) := by
        rw [← h.l, e, List.filter_append, List.filter_cons, if_pos (decide_eq_true hx)]
      have hxa : x ∈ a := by rw [e1]; simp
      rw [comes_jn1 wc (Mix.of c d pre) (ha x hxa) hx]
      exact g1 _ _ _ e1
    · have e1 : sh c.length b = (pre.filter fun x => !decide (x < (c.length : Int))) ++ x :: (post.filter fun x => !decide (x < (c.length : Int))) := by
        rw [← h.r, e, List.filter_append, List.filter_cons, if_pos (by simp [hx])]
      have e2 : b = un c.length (pre.filter fun x => !decide (x < (c.length : Int))) ++ (x - c.length) :: un c.length (post.filter fun x => !decide (x < (c.length : Int))) := by
        rw [← un_sh c.length b, e1]
        simp [un]
      have hxb : x - c.length ∈ b := by rw [e2]; simp
      obtain ⟨k0, k1⟩ := hb _ hxb
      have := comes_jn2 wd (Mix.of c d pre) k0 k1
      rw [Int.sub_add_cancel] at this
      rw [this]
      exact g2 _ _ _ e2
theorem Row.srt {n : Nat} {r : List Int} (h : Row n r) : srt r = rng n :=
  srt_one ((srt_perm r).trans (perm_of_mem h.nd (rng_nodup n) fun x => (h.rg x).trans mem_rng.symm)) (srt_up r) (rng_up n)
theorem Row.il {n m : Nat} {q a b : List Int} (h : Il n q a b) (ha : Row n a) (hb : Row m b) : Row (n + m) q := by
  have hp : q.Perm (a ++ sh n b) := by
    rw [← h.l, ← h.r]
    exact (List.filter_append_perm _ q).symm
  refine ⟨hp.nodup_iff.mpr (List.nodup_append.mpr ⟨ha.nd, map_nodup (fun x y e => by omega) hb.nd, fun x hx y hy e => ?_⟩), fun x => ?_⟩
  · subst e
    have := ((ha.rg x).mp hx).2
    have := ((hb.rg _).mp (mem_sh.mp hy)).1
    omega
  · rw [hp.mem_iff, List.mem_append, mem_sh, ha.rg, hb.rg]
    omega
theorem ord_jn {c d : Co} (wc : CoW c) (wd : CoW d) {q a b : List Int} (h : Il c.length q a b) (ha : Row c.length a) (hb : Row d.length b) :
    ordb (jn c d) q = (ordb c a && ordb d b) ∧ isNone (misV (jn c d) q) = (isNone (misV c a) && isNone (misV d b)) := by
  have hm := mis_jn wc wd h (fun x hx => ((ha.rg x).mp hx).1) fun x hx => (hb.rg x).mp hx
  have hq := Row.il h ha hb
  have e : (misL (jn c d) q).isEmpty = ((misL c a).isEmpty && (misL d b).isEmpty) := by
    rw [Bool.eq_iff_iff, Bool.and_eq_true_iff, List.isEmpty_iff, List.isEmpty_iff, List.isEmpty_iff]
    exact hm
  rw [misV_none, misV_none, misV_none]
  refine ⟨?_, e⟩
  unfold ordb
  rw [jn_len, hq.srt, ha.srt, hb.srt, e]
  simp
/-! ### distances side by side -/
theorem posn_cons {v x : Int} {r : List Int} : posn v (x :: r) = if x = v then 0 else posn v r + 1 := rfl
theorem posn_filter {p : Int → Bool} {x y : Int} (hx : p x = true) (hy : p y = true) : ∀ l : List Int, posn x (l.filter p) < posn y (l.filter p) ↔ posn x l < posn y l
  | [] => by simp [posn]
  | z :: l => by
    have ih := posn_filter hx hy l
    rw [List.filter_cons]
    by_cases hz : p z = true
    · rw [if_pos hz, posn_cons, posn_cons, posn_cons, posn_cons]
      by_cases h1 : z = x
      · by_cases h2 : z = y
        · rw [if_pos h1, if_pos h2, if_pos h1, if_pos h2]
        · rw [if_pos h1, if_neg h2, if_pos h1, if_neg h2]
          omega
      · by_cases h2 : z = y
        · rw [if_neg h1, if_pos h2, if_neg h1, if_pos h2]
          omega
        · rw [if_neg h1, if_neg h2, if_neg h1, if_neg h2]
          omega
    · rw [if_neg hz, posn_cons, posn_cons]
      have n1 : z ≠ x := fun e => hz (e ▸ hx)
      have n2 : z ≠ y := fun e => hz (e ▸ hy)
      rw [if_neg n1, if_neg n2, ih]
      omega
theorem posn_sh {n : Nat} {x : Int} : ∀ l : List Int, posn (x + n) (sh n l) = posn x l
  | [] => rfl
  | z :: l => by
    show posn (x + n) ((z + n) :: sh n l) = _
    unfold posn
    rw [posn_sh l]
    by_cases h : z = x
    · rw [if_pos h, if_pos (by omega)]
    · rw [if_neg h, if_neg (by omega)]
theorem xd_il1 {n : Nat} {q1 a1 b1 q2 a2 b2 : List Int} (h1 : Il n q1 a1 b1) (h2 : Il n q2 a2 b2) {x y : Int} (hx : x < n) (hy : y < n) : xd q1 q2 (x, y) = xd a1 a2 (x, y) := by
  have g1 := posn_filter (p := fun x => decide (x < (n : Int))) (decide_eq_true hx) (decide_eq_true hy) q1
  have g2 := posn_filter (p := fun x => decide (x < (n : Int))) (decide_eq_true hx) (decide_eq_true hy) q2
  rw [h1.l] at g1
  rw [h2.l] at g2
  unfold xd
  simp only [Int.ofNat_lt]
  rw [decide_eq_decide.mpr g1, decide_eq_decide.mpr g2]
theorem xd_il2 {n : Nat} {q1 a1 b1 q2 a2 b2 : List Int} (h1 : Il n q1 a1 b1) (h2 : Il n q2 a2 b2) {x y : Int} (hx : 0 ≤ x) (hy : 0 ≤ y) : xd q1 q2 (x + n, y + n) = xd b1 b2 (x, y) := by
  have k : ∀ z : Int, 0 ≤ z → (!decide (z + (n : Int) < n)) = true := fun z hz => by
    have : ¬ z + (n : Int) < n := by omega
    simp [this]
  have g1 := posn_filter (p := fun x => !decide (x < (n : Int))) (k x hx) (k y hy) q1
  have g2 := posn_filter (p := fun x => !decide (x < (n : Int))) (k x hx) (k y hy) q2
  rw [h1.r, posn_sh, posn_sh] at g1
  rw [h2.r, posn_sh, posn_sh] at g2
  unfold xd
  simp only [Int.ofNat_lt]
  rw [decide_eq_decide.mpr g1, decide_eq_decide.mpr g2]
theorem crs_nodup (n : Nat) (r s : List Int) : (crs n r s).Nodup := (prs_nodup n).filter _
theorem mem_crs' {n : Nat} {r s : List Int} {x : Int × Int} : x ∈ crs n r s ↔ x ∈ prs n ∧ xd r s x = true := by
  rw [crs_eq, List.mem_filter]
theorem crs_jn {n m : Nat} {q1 a1 b1 q2 a2 b2 : List Int} (h1 : Il n q1 a1 b1) (h2 : Il n q2 a2 b2) :
    (crs (n + m) q1 q2).length = (crs n a1 a2).length + (crs m b1 b2).length + ((crs (n + m) q1 q2).filter fun x => decide (x.1 < (n : Int)) && decide ((n : Int) ≤ x.2)).length := by
  have s1 := cnt_two (fun x : Int × Int => decide (x.2 < (n : Int))) (crs (n + m) q1 q2)
  have s2 := cnt_two (fun x : Int × Int => decide (x.1 < (n : Int))) ((crs (n + m) q1 q2).filter fun x => !decide (x.2 < (n : Int)))
  have e1 : ((crs (n + m) q1 q2).filter fun x => decide (x.2 < (n : Int))).length = (crs n a1 a2).length := by
    refine List.Perm.length_eq ((List.perm_ext_iff_of_nodup ((crs_nodup _ _ _).filter _) (crs_nodup _ _ _)).mpr fun x => ?_)
    obtain ⟨u, v⟩ := x
    rw [List.mem_filter, mem_crs', mem_crs', mem_prs, mem_prs, decide_eq_true_eq]
    constructor
    · rintro ⟨⟨⟨k0, k1, k2⟩, k3⟩, k4⟩
      exact ⟨⟨k0, k1, k4⟩, by rw [← xd_il1 h1 h2 (by omega) k4]; exact k3⟩
    · rintro ⟨⟨k0, k1, k2⟩, k3⟩
      exact ⟨⟨⟨k0, k1, by omega⟩, by rw [xd_il1 h1 h2 (by omega) k2]; exact k3⟩, k2⟩
  have e2 : (((crs (n + m) q1 q2).filter fun x => !decide (x.2 < (n : Int))).filter fun x => !decide (x.1 < (n : Int))).length = (crs m b1 b2).length := by
    rw [← List.length_map (f := fun x : Int × Int => (x.1 + (n : Int), x.2 + (n : Int))) (as := crs m b1 b2)]
    refine List.Perm.length_eq ((List.perm_ext_iff_of_nodup (((crs_nodup _ _ _).filter _).filter _) (map_nodup (fun x y e => ?_) (crs_nodup _ _ _))).mpr fun x => ?_)
    · obtain ⟨x1, x2⟩ := x
      obtain ⟨y1, y2⟩ := y
      simp only [Prod.mk.injEq] at e ⊢
      omega
    · obtain ⟨u, v⟩ := x
      rw [List.mem_filter, List.mem_filter, mem_crs', mem_prs, List.mem_map]
      constructor
      · rintro ⟨⟨⟨⟨k0, k1, k2⟩, k3⟩, k4⟩, k5⟩
        have k5' : ¬ u < (n : Int) := by simpa using k5
        refine ⟨(u - n, v - n), mem_crs'.mpr ⟨mem_prs.mpr ⟨by omega, by omega, by omega⟩, ?_⟩, by simp⟩
        rw [← xd_il2 h1 h2 (by omega) (by omega), Int.sub_add_cancel, Int.sub_add_cancel]
        exact k3
      · rintro ⟨⟨x, y⟩, hm, e⟩
        obtain ⟨hm1, hm2⟩ := mem_crs'.mp hm
        obtain ⟨k0, k1, k2⟩ := mem_prs.mp hm1
        simp only [Prod.mk.injEq] at e
        obtain ⟨rfl, rfl⟩ := e
        refine ⟨⟨⟨⟨by omega, by omega, by omega⟩, by rw [xd_il2 h1 h2 k0 (by omega)]; exact hm2⟩, ?_⟩, ?_⟩
        · have : ¬ y + (n : Int) < n := by omega
          simp [this]
        · have : ¬ x + (n : Int) < n := by omega
          simp [this]
  have e3 : (((crs (n + m) q1 q2).filter fun x => !decide (x.2 < (n : Int))).filter fun x => decide (x.1 < (n : Int))) = (crs (n + m) q1 q2).filter fun x => decide (x.1 < (n : Int)) && decide ((n : Int) ≤ x.2) := by
    rw [List.filter_filter]
    refine List.filter_congr fun x _ => ?_
    have : (!decide (x.2 < (n : Int))) = decide ((n : Int) ≤ x.2) := by
      rw [← decide_not]
      exact decide_eq_decide.mpr Int.not_lt
    rw [this]
  rw [e3] at s2
  omega
end Ec

set_option Elab.async false
set_option linter.all false
set_option maxRecDepth 100000
set_option maxHeartbeats 4000000
namespace Ec
open PySem PySem.Spec PyProof.Rows L2
/-! ### k65 -/
abbrev T_plain : TrD := fun xs μ R => ∃ (dc : PyData) (c : Co), xs = [.d dc] ∧ CoD dc c ∧ R (.d (coD c)) μ
abbrev T_joined : TrD := fun xs μ R => ∃ (d1 : PyData) (c : Co) (d2 : PyData) (d : Co), xs = [.d d1, .d d2] ∧ CoD d1 c ∧ CoD d2 d ∧ R (.d (coD (jn c d))) μ
abbrev T_rnds : TrD := fun xs μ R => ∃ dc c, xs = [.d dc] ∧ CoD dc c ∧ ∀ q, R (.a q) ((q, tups (AR c [] [])) :: μ)
abbrev T_row : TrD := fun xs μ R => ∃ (b : Addr) (bs : List PyData) (c : Co) (m : Nat), xs = [.a b, .d (coD c)] ∧ μ = ([(b, bs)] : Cells) ∧ BoxOk m bs ∧ c.length ≤ 1000 ∧ m + 10000 ≤ 1000000000000 ∧ ∀ r bs', r.Perm (rng c.length) → BoxOk (m + 10000) bs' → R (.d (.tuple (intsD r))) [(b, bs')]
abbrev T_moved : TrD := fun xs μ R => ∃ (l : List Int) (n : Nat), xs = [.d (.tuple (intsD l)), .d (.int (n : Int))] ∧ l.length ≤ 1000 ∧ R (.d (.tuple (intsD (sh n l)))) μ
inductive Mx : List Int → List Int → List Int → Prop
  | nil : Mx [] [] []
  | l {q a b : List Int} (x : Int) (h : Mx q a b) : Mx (x :: q) (x :: a) b
  | r {q a b : List Int} (x : Int) (h : Mx q a b) : Mx (x :: q) a (x :: b)
abbrev T_mixed : TrD := fun xs μ R => ∃ (b : Addr) (bs : List PyData) (a t : List Int) (m : Nat), xs = [.a b, .d (.tuple (intsD a)), .d (.tuple (intsD t))] ∧ μ = ([(b, bs)] : Cells) ∧ BoxOk m bs ∧ a.length ≤ 1000 ∧ t.length ≤ 1000 ∧ m + 10000 ≤ 1000000000000 ∧ ∀ q bs', Mx q a t → BoxOk (m + 10000) bs' → R (.d (.tuple (intsD q))) [(b, bs')]
abbrev T_lcross : TrD := fun xs μ R => ∃ (q t : List Int), xs = [.d (.tuple (intsD q)), .d (.tuple (intsD t))] ∧ q.length ≤ 60 ∧ t.length ≤ 60 ∧ (∀ x : Int, 0 ≤ x → x < q.length → x ∈ q ∧ x ∈ t) ∧ ∀ p, R (.a p) ((p, (crs q.length q t).map duoD) :: μ)
theorem Mx.len {q a b : List Int} (h : Mx q a b) : q.length = a.length + b.length := by
  induction h with
  | nil => rfl
  | l x _ ih => simp only [List.length_cons, ih]; omega
  | r x _ ih => simp only [List.length_cons, ih]; omega
theorem Mx.il {n : Nat} {q a b : List Int} (h : Mx q a b) (ha : ∀ x ∈ a, x < (n : Int)) (hb : ∀ x ∈ b, (n : Int) ≤ x) : q.filter (fun x => decide (x < (n : Int))) = a ∧ q.filter (fun x => !decide (x < (n : Int))) = b := by
  induction h with
  | nil => exact ⟨rfl, rfl⟩
  | @l q a b x h ih =>
    obtain ⟨h1, h2⟩ := ih (fun y hy => ha y (List.mem_cons_of_mem _ hy)) hb
    have := ha x List.mem_cons_self
    rw [List.filter_cons, List.filter_cons, if_pos (decide_eq_true this), h1, if_neg (by simp [this]), h2]
    exact ⟨rfl, rfl⟩
  | @r q a b x h ih =>
    obtain ⟨h1, h2⟩ := ih ha (fun y hy => hb y (List.mem_cons_of_mem _ hy))
    have : ¬ x < (n : Int) := by have := hb x List.mem_cons_self; omega
    rw [List.filter_cons, List.filter_cons, if_neg (by simp [this]), h1, if_pos (by simp [this]), h2]
    exact ⟨rfl, rfl⟩
theorem Mx.toIl {n : Nat} {q a b : List Int} (h : Mx q a (sh n b)) (ha : ∀ x ∈ a, x < (n : Int)) (hb : ∀ x ∈ b, 0 ≤ x) : Il n q a b := by
  obtain ⟨h1, h2⟩ := h.il ha fun x hx => by
    have := hb _ (mem_sh.mp hx)
    omega
  exact ⟨h1, h2⟩
theorem perm_ints {es : List PyData} {ns : List Int} (h : es.Perm (intsD ns)) : ∃ r : List Int, es = intsD r ∧ r.Perm ns := by
  have hall : ∀ d ∈ es, ∃ i : Int, d = .int i := fun d hd => by
    obtain ⟨i, _, rfl⟩ := List.mem_map.mp (h.mem_iff.mp hd)
    exact ⟨i, rfl⟩
  have : ∀ l : List PyData, (∀ d ∈ l, ∃ i : Int, d = .int i) → ∃ r : List Int, l = intsD r := fun l => by
    induction l with
    | nil => exact fun _ => ⟨[], rfl⟩
    | cons d l ih =>
      intro g
      obtain ⟨i, rfl⟩ := g d List.mem_cons_self
      obtain ⟨r, rfl⟩ := ih fun x hx => g x (List.mem_cons_of_mem _ hx)
      exact ⟨i :: r, rfl⟩
  obtain ⟨r, rfl⟩ := this es hall
  refine ⟨r, rfl, ?_⟩
  have g := h.map (fun d : PyData => match d with | .int i => i | _ => 0)
  rw [List.map_map, List.map_map] at g
  have e : ∀ l : List Int, l.map ((fun d : PyData => match d with | .int i => i | _ => 0) ∘ PyData.int) = l := fun l => by
    conv => rhs; rw [← List.map_id l]
    exact List.map_congr_left fun _ _ => rfl
  rw [e, e] at g
  exact g
/-- the inner rows of the pairs -/
def inn (n : Nat) (i : Int) : List (Int × Int) := ((rng n).filter fun h => decide (i < h)).map fun h => (i, h)
def crsI (n i : Nat) (q t : List Int) : List (Int × Int) := (((rng n).take i).flatMap (inn n)).filter fun x => xd q t x
theorem crsI_zero (n : Nat) (q t : List Int) : crsI n 0 q t = [] := rfl
theorem crsI_all (n : Nat) (q t : List Int) : crsI n n q t = crs n q t := by
  unfold crsI
  rw [List.take_of_length_le (by rw [rng_len]; exact Nat.le_refl _), crs_eq]
  rfl
theorem crsI_succ {n i : Nat} (h : i < n) (q t : List Int) : crsI n (i + 1) q t = crsI n i q t ++ (inn n (i : Int)).filter fun x => xd q t x := by
  unfold crsI
  rw [rng_take_succ h, List.flatMap_append, List.filter_append]
  simp
theorem rangeD_up {n i : Nat} (h : i < n) : rangeD ((i : Int) + 1) ((n : Int) - ((i : Int) + 1)).toNat = intsD ((rng n).filter fun x => decide ((i : Int) < x)) := by
  have e := rangeD_from (i + 1) n (by omega)
  rw [show ((n : Int) - ((i : Int) + 1)).toNat = n - (i + 1) by omega, show ((i : Int) + 1) = ((i + 1 : Nat) : Int) by omega, e]
  congr 1
theorem take_filter_succ {l : List Int} {j : Nat} {x : Int} {i : Int} {p : Int × Int → Bool} (h : l[j]? = some x) : ((l.take (j + 1)).map fun y => (i, y)).filter p = ((l.take j).map fun y => (i, y)).filter p ++ (if p (i, x) = true then [(i, x)] else []) := by
  rw [List.take_add_one, h, List.map_append, List.filter_append]
  congr 1
  show List.filter p [(i, x)] = _
  rw [List.filter_cons]
  rfl
theorem crsI_len (n i : Nat) (h : i ≤ n) (q t : List Int) : (crsI n i q t).length ≤ i * n := by
  refine Nat.le_trans (List.length_filter_le _ _) ?_
  refine Nat.le_trans (flat_le _ n _ fun x _ => ?_) ?_
  · unfold inn
    rw [List.length_map]
    refine Nat.le_trans (List.length_filter_le _ _) ?_
    rw [rng_len]
    exact Nat.le_refl _
  · rw [List.length_take, rng_len, Nat.min_eq_left h]
    exact Nat.le_refl _
end Ec

set_option Elab.async false
set_option linter.all false
namespace Ec
open PySem PySem.Spec PyProof.Rows L2
theorem cr_max2 {X : Cx} (hc : X.calm = true) : CallR X (.builtin "max") (fun xs H Q => ∃ i j, xs = [.int i, .int j] ∧ Q (.int (if i < j then j else i)) H) := by
  intro pins s σ H xs us Q I r h
  obtain ⟨i, j, rfl, q⟩ := h
  obtain ⟨u, w', rfl, ⟨t, rfl⟩, ⟨t', rfl⟩⟩ := vals2 r
  refine max_two_ints (I.ok.hd hc) fun h' tk k => ⟨_, H, I.kept k, ?_, q⟩
  by_cases hj : i < j
  · rw [if_pos hj, if_pos hj]; exact ⟨_, rfl⟩
  · rw [if_neg hj, if_neg hj]; exact ⟨_, rfl⟩
theorem we_max2 {X : Cx} {δ : Dl} {μ : Cells} {Q : Vd → Cells → Prop} {mg : Str → Option Value} {a b : Expr} {p pos : Pos} (B : Bl mg) (hg : Gl X "max") (hc : X.calm = true) (h : WE X a δ μ fun x μ1 => WE X b δ μ1 fun y μ2 => ∃ i j : Int, x = .d (.int i) ∧ y = .d (.int j) ∧ Q (.d (.int (if i < j then j else i))) μ2) (hm : X.mg = mg := by rfl)
    (s1 : starEach [a, b] X.env = (false, eval a X.env) :: starEach [b] X.env := by rfl) (s2 : starEach [b] X.env = (false, eval b X.env) :: starEach [] X.env := by rfl) (s3 : (backTo pos (starEach [b] X.env)).any (·.1) = false := by rfl) :
    WE X (.Call (.Name "max" p) [a, b] [] pos) δ μ Q :=
  we_cb (cr_max2 hc) hg (hm ▸ B.max) PyProof.Rows.boot_max (wa_two (h.mono fun x μ1 q => q.mono fun y μ2 q => fun F H vs m o QV c => by
    obtain ⟨i, j, rfl, rfl, q⟩ := q
    cases o with
    | cons o1 o2 =>
      cases o2 with
      | cons o2 o3 =>
        cases o3
        exact ⟨i, j, by rw [dp_int o1, dp_int o2], c (.d (.int _)) _ F H μ2 Fw.refl m (.int _) q⟩) s1 s2) (he := s1) (hpl := s3)
theorem jn_frs {c d : Co} (h1 : ∀ e ∈ c, e.1.length ≤ 1000) (h2 : ∀ e ∈ d, e.1.length ≤ 1000) : ∀ e ∈ jn c d, e.1.length ≤ 1000 := fun e he => by
  unfold jn at he
  rcases List.mem_append.mp he with he | he
  · exact h1 e he
  · obtain ⟨x, hx, rfl⟩ := List.mem_map.mp he
    rw [sh_len]
    exact h2 x hx
theorem tups_shaped (rs : List (List Int)) : SeqAt.shaped (.list (tups rs)) = true := by
  have h : ∀ d ∈ tups rs, d.canLay0 = true ∧ d.depth ≤ 1 := fun d hd => by
    obtain ⟨r, _, rfl⟩ := List.mem_map.mp hd
    refine ⟨canLays_ints r, ?_⟩
    simp only [PyData.depth, depth_ints]
    decide
  unfold SeqAt.shaped
  rw [Bool.and_eq_true_iff]
  refine ⟨canLays_all fun d m => (h d m).1, decide_eq_true ?_⟩
  simp only [PyData.depth]
  exact Nat.le_trans (Nat.succ_le_succ (depths_le fun d m => (h d m).2)) (by decide)
theorem eqv_tups : ∀ a b : List (List Int), PyData.eqvAll (tups a) (tups b) = decide (a = b)
  | [], [] => rfl
  | [], b :: bs => rfl
  | a :: as, [] => rfl
  | a :: as, b :: bs => by
    show (PyData.eqv (.tuple (intsD a)) (.tuple (intsD b)) && PyData.eqvAll (tups as) (tups bs)) = _
    rw [eqv_tups as bs, eqv_tup]
    simp only [List.cons.injEq, Bool.decide_and]
theorem eqv_ltups (a b : List (List Int)) : PyData.eqv (.list (tups a)) (.list (tups b)) = decide (a = b) := eqv_tups a b
theorem zl_len (n : Nat) : ∀ A B : List (List Int), (zl n A B).length = if B.length < A.length then A.length else B.length
  | [], B => by simp [zl]
  | a :: A, [] => by simp [zl]
  | a :: A, b :: B => by
    show ((a ++ sh n b) :: zl n A B).length = _
    rw [List.length_cons, zl_len n A B, List.length_cons, List.length_cons]
    split <;> split <;> omega
theorem zl_get (n : Nat) : ∀ (A B : List (List Int)) (i : Nat), i < A.length ∨ i < B.length → (zl n A B)[i]? = some (A.getD i [] ++ sh n (B.getD i []))
  | [], B, i, h => by
    have h' : i < B.length := h.elim (fun z => by simp at z) id
    show (B.map (sh n))[i]? = _
    rw [List.getElem?_map, List.getD_eq_getElem?_getD, List.getD_eq_getElem?_getD, List.getElem?_eq_getElem h']
    rfl
  | a :: A, [], i, h => by
    have h' : i < (a :: A).length := h.elim id (fun z => by simp at z)
    show (a :: A)[i]? = _
    rw [List.getD_eq_getElem?_getD, List.getElem?_eq_getElem h']
    simp [sh]
  | a :: A, b :: B, 0, h => rfl
  | a :: A, b :: B, i + 1, h => by
    have := zl_get n A B i (by simpa using h)
    show (zl n A B)[i]? = _
    rw [this]
    rfl
theorem zl_take (n : Nat) {A B : List (List Int)} {i : Nat} (h : i < A.length ∨ i < B.length) : (zl n A B).take (i + 1) = (zl n A B).take i ++ [A.getD i [] ++ sh n (B.getD i [])] := by
  rw [List.take_add_one, zl_get n A B i h]
  rfl
theorem row_of_perm {n : Nat} {r : List Int} (h : r.Perm (rng n)) : Row n r := ⟨h.nodup_iff.mpr (rng_nodup n), fun x => h.mem_iff.trans mem_rng⟩
theorem misL_ord {c : Co} {r : List Int} (h : Row c.length r) (hm : misL c r = []) : IsOrd c r where
  po := ⟨h.nd, fun x m => (h.rg x).mp m, fun i x hi => by
    have hl := (List.getElem?_eq_some_iff.mp hi).1
    have e := (List.getElem?_eq_some_iff.mp hi).2
    have : r = r.take i ++ x :: r.drop (i + 1) := by
      rw [← e, ← List.drop_eq_getElem_cons hl, List.take_append_drop]
    exact misL_iff.mp hm _ _ _ this⟩
  len := h.len
theorem ord_il {c d : Co} (wc : CoW c) (wd : CoW d) {q a b : List Int} (h : Il c.length q a b) (ha : IsOrd c a) (hb : IsOrd d b) : IsOrd (jn c d) q := by
  have hr := Row.il h ha.row hb.row
  rw [← jn_len] at hr
  refine misL_ord hr ((mis_jn wc wd h (fun x hx => (ha.po.rg x hx).1) hb.po.rg).mpr ⟨misL_nil ha.po, misL_nil hb.po⟩)
theorem AR_row {c : Co} : ∀ r ∈ AR c [] [], r.length ≤ c.length := fun r hr => by
  have h := cl_len c [] []
  have : r.length ≤ ((AR c [] []).flatten).length := by
    obtain ⟨s, t, e⟩ := List.append_of_mem hr
    rw [e, List.flatten_append, List.flatten_cons, List.length_append, List.length_append]
    omega
  simp at h
  have := this
  simp at this
  omega
theorem AR_len {c : Co} : (AR c [] []).length ≤ c.length + 1 := by
  unfold AR
  have : ∀ k t b, (rnds k c t b).length ≤ k := fun k => by
    induction k with
    | zero => intros; exact Nat.le_refl _
    | succ k ih =>
      intro t b
      unfold rnds
      split
      · simp
      · rw [List.length_cons]
        exact Nat.succ_le_succ (ih _ _)
  exact this _ _ _
theorem zl_max (n : Nat) (A B : List (List Int)) : (if ((A.length : Nat) : Int) < ((B.length : Nat) : Int) then ((B.length : Nat) : Int) else ((A.length : Nat) : Int)) = (((zl n A B).length : Nat) : Int) := by
  rw [zl_len]
  split <;> split <;> omega
theorem atI_map {α : Type} {f : α → PyData} {l : List α} {i : Nat} (z : α) (h : i < l.length) : atI (l.map f) (i : Int) = some (f (l.getD i z)) := by
  refine atI_nat ?_
  rw [List.getElem?_map, List.getD_eq_getElem?_getD, List.getElem?_eq_getElem h]
  rfl
theorem getD_out {α : Type} {l : List α} {i : Nat} (z : α) (h : ¬ i < l.length) : l.getD i z = z := by
  rw [List.getD_eq_getElem?_getD, List.getElem?_eq_none (by omega)]
  rfl
theorem getD_all {α : Type} {l : List α} {i : Nat} (z : α) {p : α → Prop} (h : ∀ x ∈ l, p x) (hz : p z) : p (l.getD i z) := by
  by_cases g : i < l.length
  · rw [List.getD_eq_getElem?_getD, List.getElem?_eq_getElem g]
    exact h _ (List.getElem_mem g)
  · rw [getD_out z g]
    exact hz
theorem gr_len' (c : Co) : (gr c).length ≤ c.length := by
  have h := nodup_le (gr_nodup c) (rng_nodup c.length) fun x hx => mem_rng.mpr (gr_rng c x hx)
  rw [rng_len] at h
  exact h
theorem nev_len' (c : Co) : (nev c).length ≤ c.length := by
  unfold nev
  refine Nat.le_trans (List.length_filter_le _ _) ?_
  rw [rng_len]
  exact Nat.le_refl _
end Ec

set_option Elab.async false
set_option linter.all false
set_option maxRecDepth 100000
set_option maxHeartbeats 4000000
namespace Ec
open PySem PySem.Spec PyProof.Rows L2
/-! ### sorted(set(t)) of a tuple of ints -/
def tSortSet (K : PySem.W.Frag) (ta : TE) : TE := fun σ H Q => ta σ H fun x H1 => ∃ (l : Addr) (ns : List Int), x = .ref l ∧ SqT K H1 l (ns.map V.int) ∧ ns.length < 64 ∧ ∀ (p : Addr) (out : List Int), out.Pairwise (· < ·) → (∀ k, k ∈ out ↔ k ∈ ns) → H1 p = none → Q (.ref p) (upd H1 p (.lst (out.map V.int)))
theorem pe_sortSet {X : Cx} {a : Expr} {ta : TE} {p p2 q pos : Pos} (hc : X.calm = true) (hg : Gl X "sorted") (hm : X.mg "sorted" = none) (hg2 : Gl X "set") (hm2 : X.mg "set" = none) (ha : PE X a ta)
    (na : starEach [a] X.env = (false, eval a X.env) :: starEach [] X.env := by rfl)
    (nb : starEach [.Call (.Name "set" p2) [a] [] q] X.env = (false, eval (.Call (.Name "set" p2) [a] [] q) X.env) :: starEach [] X.env := by rfl) : PE X (.Call (.Name "sorted" p) [.Call (.Name "set" p2) [a] [] q] [] pos) (tSortSet X.K ta) := by
  refine ⟨fun pins s σ H Q I h => ?_⟩
  refine Call_ (ld_blt I hg hm PyProof.Rows.boot_sorted ?_)
  refine PyProof.Rows.callWith_builtin1 (PyProof.Rows.args_cons ?_ rfl) rfl rfl
  refine Call_ (ld_blt I hg2 hm2 PyProof.Rows.boot_set ?_)
  refine PyProof.Rows.callWith_type1 (PyProof.Rows.args_cons (thn (ha.run pins s σ H _ I h) fun v s1 ⟨x, H1, I1, r1, q1⟩ => PyProof.Rows.args_nil ?_) na) na rfl
  obtain ⟨l, ns, rfl, hq, h1, q1⟩ := q1
  cases r1
  obtain ⟨its, r, pt, hz⟩ := I1.tuple hq
  have hi : IntsAre its.toArray.toList ns := ints_of_vals r
  refine call_set_tupI ns (I1.ok.hd hc) (show s1.heap.IsTuple l its.toArray from pt) hi (by unfold scanBound; omega) fun h' tk c R1 hcn k => ?_
  refine PyProof.Rows.args_nil ?_
  have I2 : Inv X pins σ H1 { s1 with heap := h', toks := tk } := I1.kept k
  refine sorted_set R1 (I1.ok.hd hc) (by omega) fun s' p0 out c' ns' k2 g o hp hg2 hI hup hmem hln => ?_
  have hn : H1 p0 = none := I2.hok.fresh hp
  have hlen : (ns'.map V.int).length ≤ sizeLine := by rw [List.length_map, sizeLine_eq]; omega
  have hv : Vals (ns'.map V.int) out.toList := vals_of_ints hI
  have J : Inv X pins σ (upd H1 p0 (.lst (ns'.map V.int))) { ({ s1 with heap := h', toks := tk } : Shared) with heap := s'.heap, gens := s'.gens, drawn := s'.drawn, toks := s'.toks } :=
    I2.call (ch := []) (Un.laid k2 hp hn) (I2.hok.laid k2 hp ⟨hlen, out.toList, c', hv, hg2⟩) (by rw [g]; exact I2.bare) (fun _ z => nomatch z)
  have e : s' = { ({ s1 with heap := h', toks := tk } : Shared) with heap := s'.heap, gens := s'.gens, drawn := s'.drawn, toks := s'.toks } := by
    cases s'
    cases s1
    cases o
    rfl
  rw [e]
  exact ⟨.ref p0, _, J, rfl, q1 p0 ns' hup (fun k => by rw [hmem k, decide_eq_true_eq]) hn⟩
theorem we_sortSet {X : Cx} {δ : Dl} {μ : Cells} {Q : Vd → Cells → Prop} {mg : Str → Option Value} {e : Expr} {p p2 q pos : Pos} (B : Bl mg) (hc : X.calm = true) (hg : Gl X "sorted") (hg2 : Gl X "set")
    (h : WE X e δ μ fun x μ1 => ∃ ns, x = .d (.tuple (intsD ns)) ∧ ns.length < 64 ∧ ∀ (p : Addr) (out : List Int), out.Pairwise (· < ·) → (∀ k, k ∈ out ↔ k ∈ ns) → Q (.a p) ((p, intsD out) :: μ1)) (hm : X.mg = mg := by rfl)
    (na : starEach [e] X.env = (false, eval e X.env) :: starEach [] X.env := by rfl)
    (nb : starEach [.Call (.Name "set" p2) [e] [] q] X.env = (false, eval (.Call (.Name "set" p2) [e] [] q) X.env) :: starEach [] X.env := by rfl) :
    WE X (.Call (.Name "sorted" p) [.Call (.Name "set" p2) [e] [] q] [] pos) δ μ Q := fun F H σ R QV c =>
  toE (pe_sortSet hc hg (hm ▸ B.sorted) hg2 (hm ▸ B.set) (pcE X e) na nb) (h F H σ R _ fun v x F1 H1 μ1 w1 R1 o1 q => by
    obtain ⟨ns, rfl, hz, q⟩ := q
    obtain ⟨a, us, rfl, hs, hd⟩ := dp_tup o1
    rw [dps_ints hd] at hs
    refine ⟨a, ns, rfl, same_t R1.m.ex hs, hz, fun l out up hme nl => ?_⟩
    obtain ⟨m2, w2⟩ := R1.m.cell nl (ints_dps (K := X.K) (H := F1) out)
    exact c (.ref l) (.a l) _ _ _ (w1.trans w2) (R1.to (Same.refl _) m2) rfl (q l out up hme))
/-! ### sorted(xs) of a list of alike data -/
theorem vw_lst {K : PySem.W.Frag} {F H : Hp} {μ : Cells} {x : Vd} {v : V} {ds : List PyData} (m : RpM K F H μ) (o : VOk K F x v) (h : Vw μ x (.list ds)) : ∃ a us, v = .ref a ∧ H a = some (.lst us) ∧ DeAll K F us ds := by
  cases h with
  | d =>
    obtain ⟨a, vs, rfl, h1, d1⟩ := dp_lstX o
    exact ⟨a, vs, rfl, m.ex _ _ h1, d1⟩
  | c i h pl =>
    obtain ⟨_, us, e, hd⟩ := m.cel _ _ (List.mem_of_getElem? h)
    exact ⟨_, us, o, e, hd.to pl⟩
abbrev sortD (ds : List PyData) : List PyData := ds.mergeSort (PySem.W.dataLe false id)
def rSortD (K : PySem.W.Frag) : List V → Hp → VK → Prop := fun vs H Q => ∃ (a : Addr) (us : List V) (ds : List PyData), vs = [V.ref a] ∧ SqL K H a us ∧ DpAll K H us ds ∧ PySem.W.AllAlike ds ∧ PySem.W.Sortable ds ∧ ds.length ≤ 100000 ∧ (∀ d ∈ ds, d.depth ≤ 60) ∧
  ∀ p : Addr, H p = none → Q (.ref p) (upd H p (.lst (((us.zip ds).mergeSort (PySem.W.dataLe false Prod.snd)).map Prod.fst)))
theorem dpAll_len {K : PySem.W.Frag} {H : Hp} : ∀ {us : List V} {ds : List PyData}, DpAll K H us ds → us.length = ds.length
  | _, [], h => by cases h; rfl
  | _, _ :: _, h => by
    cases h with
    | cons h1 h2 => rw [List.length_cons, List.length_cons, dpAll_len h2]
theorem each_zip {X : Cx} {pins : List (Addr × Obj)} {σ : L2.St} {H : Hp} {s : Shared} (I : Inv X pins σ H s) : ∀ {us : List V} {ds : List PyData} {vs : List Value}, Vals us vs → DpAll X.K H us ds →
    PySem.W.EachIs (fun (v : Value) (b : V × PyData) => RelV b.1 v) vs (us.zip ds) ∧ PySem.W.EachIs (fun (v : Value) (b : V × PyData) => ∃ as, Reads s.heap v b.2 as) vs (us.zip ds)
  | _, [], _, r, h => by
    cases h
    cases r
    exact ⟨.nil, .nil⟩
  | _, _ :: _, _, r, h => by
    cases h with
    | cons h1 h2 =>
      cases r with
      | cons r1 r2 =>
        obtain ⟨e1, e2⟩ := each_zip I r2 h2
        exact ⟨.cons r1 e1, .cons (Dp.reads I _ _ _ h1 r1) e2⟩
theorem vals_each : ∀ {vs : List Value} {ps : List (V × PyData)}, PySem.W.EachIs (fun (v : Value) (b : V × PyData) => RelV b.1 v) vs ps → Vals (ps.map Prod.fst) vs
  | _, _, .nil => .nil
  | _, _, .cons h t => .cons h (vals_each t)
theorem cr_sortD {X : Cx} (hc : X.calm = true) (hu : X.A.units + 65 < cLine) : CallR X (.builtin "sorted") (rSortD X.K) := by
  intro pins s σ H vs us Q I r h
  obtain ⟨a, xs, ds, rfl, hs, hd, hal, hk, hL, hdp, q⟩ := h
  obtain ⟨its, rv, hl, hz⟩ := I.list hs
  rw [Vals.ref1 r]
  obtain ⟨e1, e2⟩ := each_zip I rv hd
  have hln := dpAll_len hd
  have ez : (xs.zip ds).map Prod.snd = ds := List.map_snd_zip (Nat.le_of_eq hln.symm)
  have ezl : (xs.zip ds).length = ds.length := by rw [List.length_zip, hln, Nat.min_self]
  refine PySem.W.sorted_data (enc := Prod.snd) hl.isList e1 e2 (by rw [ez]; exact hal) (by rw [ez]; exact hk) (by rw [ezl, sizeLine_eq]; omega) (fun b hb => ?_) fun out ho eo => ?_
  · have : b.2 ∈ ds := by
      rw [← ez]
      exact List.mem_map.mpr ⟨b, hb, rfl⟩
    have := hdp _ this
    omega
  · obtain ⟨ep, he'⟩ := PyProof.Rows.sortedAll_at s.heap its out.toArray
    have hv := vals_each eo
    have hlen : (((xs.zip ds).mergeSort (PySem.W.dataLe false Prod.snd)).map Prod.fst).length ≤ sizeLine := by
      rw [List.length_map, (List.mergeSort_perm _ _).length_eq, ezl, sizeLine_eq]
      omega
    exact ⟨.ref _, upd H (s.heap.objs.size + 1) (.lst (((xs.zip ds).mergeSort (PySem.W.dataLe false Prod.snd)).map Prod.fst)), I.laid (t' := s.toks) (fun _ _ => PyProof.Rows.sortedAll_old) (Nat.le_succ _) ⟨hlen, out, ep, hv, he'⟩, rfl, q _ (I.hok.fresh (Nat.le_succ _))⟩
theorem de_pairs {K : PySem.W.Frag} {F : Hp} : ∀ {us : List V} {ds : List PyData}, DeAll K F us ds → ∀ b ∈ us.zip ds, De K F b.1 b.2
  | _, [], h, b, hb => by
    cases h
    cases hb
  | _, _ :: _, h, b, hb => by
    cases h with
    | cons h1 h2 =>
      rcases List.mem_cons.mp hb with rfl | hb
      · exact h1
      · exact de_pairs h2 b hb
theorem de_unpair {K : PySem.W.Frag} {F : Hp} : ∀ ps : List (V × PyData), (∀ b ∈ ps, De K F b.1 b.2) → DeAll K F (ps.map Prod.fst) (ps.map Prod.snd)
  | [], _ => .nil
  | b :: ps, h => .cons (h b List.mem_cons_self) (de_unpair ps fun x hx => h x (List.mem_cons_of_mem _ hx))
theorem we_sortedD {X : Cx} {δ : Dl} {μ : Cells} {Q : Vd → Cells → Prop} {mg : Str → Option Value} {e : Expr} {p pos : Pos} (B : Bl mg) (hc : X.calm = true) (hu : X.A.units + 65 < cLine) (hg : Gl X "sorted")
    (h : WE X e δ μ fun x μ1 => ∃ ds, Vw μ1 x (.list ds) ∧ PySem.W.AllAlike ds ∧ PySem.W.Sortable ds ∧ ds.length ≤ 100000 ∧ (∀ d ∈ ds, d.depth ≤ 60) ∧ ∀ p, Q (.a p) ((p, sortD ds) :: μ1)) (hm : X.mg = mg := by rfl)
    (s1 : starEach [e] X.env = (false, eval e X.env) :: starEach [] X.env := by rfl) (s2 : (backTo pos (starEach [] X.env)).any (·.1) = false := by rfl) :
    WE X (.Call (.Name "sorted" p) [e] [] pos) δ μ Q :=
  we_cb (cr_sortD hc hu) hg (hm ▸ B.sorted) PyProof.Rows.boot_sorted (wa_one (h.mono fun x μ1 q => fun F H vs m o QV c => by
    obtain ⟨ds, hx, hal, hk, hL, hdp, q⟩ := q
    cases o with
    | cons o1 o2 =>
      cases o2
      obtain ⟨a, us, rfl, hH, hd⟩ := vw_lst m o1 hx
      refine ⟨a, us, ds, rfl, .of hH, (dps_up m.ex ds us hd).dps, hal, hk, hL, hdp, fun l nl => ?_⟩
      have hln := dps_len hd
      have e1 : ((us.zip ds).mergeSort (PySem.W.dataLe false Prod.snd)).map Prod.snd = sortD ds :=
        (List.map_mergeSort (r := PySem.W.dataLe false Prod.snd) (s := PySem.W.dataLe false id) (f := Prod.snd) (l := us.zip ds) (fun a _ b _ => rfl)).trans (by rw [List.map_snd_zip (Nat.le_of_eq hln.symm)])
      have hd2 : DeAll X.K F (((us.zip ds).mergeSort (PySem.W.dataLe false Prod.snd)).map Prod.fst) (sortD ds) := by
        rw [← e1]
        exact de_unpair _ fun b hb => de_pairs hd b ((List.mergeSort_perm _ _).mem_iff.mp hb)
      obtain ⟨m2, w2⟩ := m.cell nl hd2
      exact c (.a l) _ _ _ _ w2 m2 rfl (q l)) s1) (he := s1) (hpl := s2)
end Ec

set_option Elab.async false
set_option linter.all false
namespace Ec
open PySem PySem.Spec PyProof.Rows L2
/-! ### people renumbered -/
def ren (nw : List Int) (x : Int) : Int := nw.getD x.toNat 0
def rens (nw t : List Int) : List Int := srt (t.map (ren nw))
abbrev Rn (n : Nat) (nw : List Int) : Prop := nw.Perm (rng n)
abbrev Rg (n : Nat) (t : List Int) : Prop := ∀ x ∈ t, 0 ≤ x ∧ x < n
theorem Rn.len {n : Nat} {nw : List Int} (h : Rn n nw) : nw.length = n := by rw [List.Perm.length_eq h, rng_len]
theorem ren_at {n : Nat} {nw : List Int} (h : Rn n nw) {x : Int} (h0 : 0 ≤ x) (h1 : x < n) : nw[x.toNat]? = some (ren nw x) := by
  have hl : x.toNat < nw.length := by rw [h.len]; omega
  unfold ren
  rw [List.getD_eq_getElem?_getD, List.getElem?_eq_getElem hl]
  rfl
theorem ren_rg {n : Nat} {nw : List Int} (h : Rn n nw) {x : Int} (h0 : 0 ≤ x) (h1 : x < n) : 0 ≤ ren nw x ∧ ren nw x < n :=
  mem_rng.mp (h.mem_iff.mp (List.mem_of_getElem? (ren_at h h0 h1)))
theorem ren_inj {n : Nat} {nw : List Int} (h : Rn n nw) {x y : Int} (hx : 0 ≤ x ∧ x < n) (hy : 0 ≤ y ∧ y < n) (e : ren nw x = ren nw y) : x = y := by
  have nd : nw.Nodup := h.nodup_iff.mpr (rng_nodup n)
  have h1 := ren_at h hx.1 hx.2
  have h2 := ren_at h hy.1 hy.2
  have l1 := (List.getElem?_eq_some_iff.mp h1).1
  rw [e, ← h2] at h1
  have := (List.getElem?_inj l1 nd).mp h1
  omega
theorem ren_sur {n : Nat} {nw : List Int} (h : Rn n nw) {y : Int} (h0 : 0 ≤ y) (h1 : y < n) : ∃ x : Int, 0 ≤ x ∧ x < n ∧ ren nw x = y := by
  obtain ⟨i, hi⟩ := List.mem_iff_getElem?.mp (h.mem_iff.mpr (mem_rng.mpr ⟨h0, h1⟩))
  have hl := (List.getElem?_eq_some_iff.mp hi).1
  rw [h.len] at hl
  refine ⟨(i : Int), by omega, by omega, ?_⟩
  have := ren_at h (x := (i : Int)) (by omega) (by omega)
  rw [show ((i : Int)).toNat = i from rfl, hi] at this
  exact (Option.some.inj this).symm
theorem nodup_on {α β : Type} {f : α → β} : ∀ {l : List α}, (∀ x ∈ l, ∀ y ∈ l, f x = f y → x = y) → l.Nodup → (l.map f).Nodup
  | [], _, _ => List.nodup_nil
  | a :: l, h, hn => by
    obtain ⟨h1, h2⟩ := List.nodup_cons.mp hn
    rw [List.map_cons, List.nodup_cons]
    refine ⟨fun m => ?_, nodup_on (fun x hx y hy => h x (List.mem_cons_of_mem _ hx) y (List.mem_cons_of_mem _ hy)) h2⟩
    obtain ⟨y, hy, e⟩ := List.mem_map.mp m
    have := h y (List.mem_cons_of_mem _ hy) a List.mem_cons_self e
    subst this
    exact h1 hy
theorem ren_nodup {n : Nat} {nw t : List Int} (h : Rn n nw) (ht : Rg n t) (hn : t.Nodup) : (t.map (ren nw)).Nodup := nodup_on (fun x hx y hy e => ren_inj h (ht x hx) (ht y hy) e) hn
theorem mem_ren {n : Nat} {nw t : List Int} (h : Rn n nw) (ht : Rg n t) {x : Int} (h0 : 0 ≤ x) (h1 : x < n) : ren nw x ∈ t.map (ren nw) ↔ x ∈ t := by
  rw [List.mem_map]
  constructor
  · rintro ⟨y, hy, e⟩
    have := ren_inj h (ht y hy) ⟨h0, h1⟩ e
    subst this
    exact hy
  · exact fun m => ⟨x, m, rfl⟩
theorem mem_rens {n : Nat} {nw t : List Int} (h : Rn n nw) (ht : Rg n t) {x : Int} (h0 : 0 ≤ x) (h1 : x < n) : ren nw x ∈ rens nw t ↔ x ∈ t := by
  unfold rens
  rw [mem_srt]
  exact mem_ren h ht h0 h1
theorem rens_rg {n : Nat} {nw t : List Int} (h : Rn n nw) (ht : Rg n t) : Rg n (rens nw t) := fun y hy => by
  unfold rens at hy
  rw [mem_srt] at hy
  obtain ⟨x, hx, rfl⟩ := List.mem_map.mp hy
  exact ren_rg h (ht x hx).1 (ht x hx).2
theorem rens_len (nw t : List Int) : (rens nw t).length = t.length := by
  unfold rens
  rw [(srt_perm _).length_eq, List.length_map]
theorem rens_perm {nw a b : List Int} (h : a.Perm b) : rens nw a = rens nw b := srt_one (((srt_perm _).trans (h.map _)).trans (srt_perm _).symm) (srt_up _) (srt_up _)
theorem rens_inj {n : Nat} {nw a b : List Int} (h : Rn n nw) (ha : Rg n a) (hb : Rg n b) (ua : a.Pairwise (· ≤ ·)) (ub : b.Pairwise (· ≤ ·)) (e : rens nw a = rens nw b) : a = b := by
  have p : (a.map (ren nw)).Perm (b.map (ren nw)) := ((srt_perm _).symm.trans (by unfold rens at e; rw [e])).trans (srt_perm _)
  refine srt_one ?_ ua ub
  rw [List.perm_iff_count]
  intro x
  by_cases hx : 0 ≤ x ∧ x < n
  · have := p.count_eq (ren nw x)
    have k : ∀ l : List Int, Rg n l → (l.map (ren nw)).count (ren nw x) = l.count x := fun l hl => by
      induction l with
      | nil => rfl
      | cons y l ih =>
        rw [List.map_cons, List.count_cons, List.count_cons, ih fun z hz => hl z (List.mem_cons_of_mem _ hz)]
        have hy := hl y List.mem_cons_self
        by_cases e : y = x
        · rw [if_pos (by rw [e]; exact beq_self_eq_true _), if_pos (by rw [e]; exact beq_self_eq_true _)]
        · rw [if_neg (by rw [beq_iff_eq]; exact fun z => e (ren_inj h hy hx z)), if_neg (by rw [beq_iff_eq]; exact e)]
    rw [k a ha, k b hb] at this
    exact this
  · rw [List.count_eq_zero.mpr fun m => hx (ha x m), List.count_eq_zero.mpr fun m => hx (hb x m)]
/-- the renumbered company, entry by entry -/
def renS (nw : List Int) (c : Co) : Nat → Co
  | 0 => List.replicate c.length ([], 0)
  | i + 1 => (renS nw c i).set (ren nw (i : Int)).toNat (rens nw (fr c (i : Int)), nd c (i : Int))
def renC (nw : List Int) (c : Co) : Co := renS nw c c.length
theorem renS_len (nw : List Int) (c : Co) : ∀ i, (renS nw c i).length = c.length
  | 0 => List.length_replicate
  | i + 1 => by
    unfold renS
    rw [List.length_set, renS_len nw c i]
theorem renC_len (nw : List Int) (c : Co) : (renC nw c).length = c.length := renS_len nw c _
theorem renS_get {c : Co} {nw : List Int} (h : Rn c.length nw) : ∀ i, i ≤ c.length → ∀ j : Nat, j < i → (renS nw c i)[(ren nw (j : Int)).toNat]? = some (rens nw (fr c (j : Int)), nd c (j : Int))
  | 0, _, _, hj => by omega
  | i + 1, hi, j, hj => by
    unfold renS
    have ri := ren_rg h (x := (i : Int)) (by omega) (by omega)
    have rj := ren_rg h (x := (j : Int)) (by omega) (by omega)
    by_cases e : j = i
    · subst e
      rw [List.getElem?_set_self (by rw [renS_len]; omega)]
    · have : (ren nw (i : Int)).toNat ≠ (ren nw (j : Int)).toNat := fun z => by
        have := ren_inj h (x := (i : Int)) (y := (j : Int)) ⟨by omega, by omega⟩ ⟨by omega, by omega⟩ (by omega)
        omega
      rw [List.getElem?_set_ne this]
      exact renS_get h i (by omega) j (by omega)
theorem renC_at {c : Co} {nw : List Int} (h : Rn c.length nw) {x : Int} (h0 : 0 ≤ x) (h1 : x < c.length) : fr (renC nw c) (ren nw x) = rens nw (fr c x) ∧ nd (renC nw c) (ren nw x) = nd c x := by
  have := renS_get h c.length (Nat.le_refl _) x.toNat (by omega)
  rw [show ((x.toNat : Nat) : Int) = x by omega] at this
  unfold fr nd renC
  rw [List.getD_eq_getElem?_getD, this]
  exact ⟨rfl, rfl⟩
/-- the same people on both sides -/
abbrev Mp (n : Nat) (nw t t' : List Int) : Prop := ∀ x : Int, 0 ≤ x → x < n → (ren nw x ∈ t' ↔ x ∈ t)
theorem comes_ren {c : Co} {nw t t' : List Int} (h : Rn c.length nw) (w : CoW c) (m : Mp c.length nw t t') {x : Int} (h0 : 0 ≤ x) (h1 : x < c.length) : comes (renC nw c) t' (ren nw x) = comes c t x := by
  obtain ⟨e1, e2⟩ := renC_at h h0 h1
  unfold comes cnt
  rw [e1, e2]
  have : ((rens nw (fr c x)).filter fun y => decide (y ∈ t')).length = ((fr c x).filter fun y => decide (y ∈ t)).length := by
    unfold rens
    rw [((srt_perm _).filter _).length_eq, List.filter_map, List.length_map]
    congr 1
    refine List.filter_congr fun y hy => ?_
    obtain ⟨g0, g1⟩ := fr_rg w h0 h1 y hy
    exact decide_eq_decide.mpr (m y g0 g1)
  rw [this]
theorem flt_ren {n : Nat} {nw : List Int} (h : Rn n nw) {P P' : Int → Bool} (e : ∀ x : Int, 0 ≤ x → x < n → P' (ren nw x) = P x) : (rng n).filter P' = rens nw ((rng n).filter P) := by
  have hr : Rg n ((rng n).filter P) := fun x hx => mem_rng.mp (List.mem_filter.mp hx).1
  refine srt_one (perm_of_mem ((rng_nodup n).filter _) ((srt_perm _).nodup_iff.mpr (ren_nodup h hr ((rng_nodup n).filter _))) fun y => ?_) ((rng_up n).filter _) (srt_up _)
  unfold rens
  rw [mem_srt, List.mem_filter, mem_rng, List.mem_map]
  constructor
  · rintro ⟨⟨g0, g1⟩, hy⟩
    obtain ⟨x, x0, x1, rfl⟩ := ren_sur h g0 g1
    exact ⟨x, List.mem_filter.mpr ⟨mem_rng.mpr ⟨x0, x1⟩, by rw [← e x x0 x1]; exact hy⟩, rfl⟩
  · rintro ⟨x, hx, rfl⟩
    obtain ⟨x0, x1⟩ := hr x hx
    exact ⟨ren_rg h x0 x1, by rw [e x x0 x1]; exact (List.mem_filter.mp hx).2⟩
theorem Mp.nil (n : Nat) (nw : List Int) : Mp n nw [] [] := fun x _ _ => by simp
theorem Mp.rens {n : Nat} {nw t : List Int} (h : Rn n nw) (ht : Rg n t) : Mp n nw t (rens nw t) := fun x h0 h1 => mem_rens h ht h0 h1
theorem Mp.map {n : Nat} {nw t : List Int} (h : Rn n nw) (ht : Rg n t) : Mp n nw t (t.map (ren nw)) := fun x h0 h1 => mem_ren h ht h0 h1
theorem Mp.app {n : Nat} {nw t t' s s' : List Int} (m : Mp n nw t t') (k : Mp n nw s s') : Mp n nw (t ++ s) (t' ++ s') := fun x h0 h1 => by
  rw [List.mem_append, List.mem_append, m x h0 h1, k x h0 h1]
theorem nexts_ren {c : Co} {nw t t' : List Int} (h : Rn c.length nw) (w : CoW c) (m : Mp c.length nw t t') : nexts (renC nw c) t' = rens nw (nexts c t) := by
  unfold nexts
  rw [renC_len, List.filter_filter, List.filter_filter]
  exact flt_ren h fun x h0 h1 => by rw [comes_ren h w m h0 h1, decide_eq_decide.mpr (m x h0 h1)]
theorem stp_ren {c : Co} {nw t t' b b' : List Int} (h : Rn c.length nw) (w : CoW c) (m : Mp c.length nw t t') (mb : Mp c.length nw b b') : stp (renC nw c) t' b' = rens nw (stp c t b) := by
  unfold stp nexts
  rw [renC_len, List.filter_filter, List.filter_filter, List.filter_filter, List.filter_filter]
  exact flt_ren h fun x h0 h1 => by rw [comes_ren h w m h0 h1, decide_eq_decide.mpr (m x h0 h1), decide_eq_decide.mpr (mb x h0 h1)]
theorem stp_rg (c : Co) (t b : List Int) : Rg c.length (stp c t b) := fun x hx => nexts_rg c t x (List.mem_filter.mp hx).1
theorem rens_nil {nw t : List Int} : rens nw t = [] ↔ t = [] := by
  rw [← List.length_eq_zero_iff, rens_len, List.length_eq_zero_iff]
theorem rnds_ren {c : Co} {nw b b' : List Int} (h : Rn c.length nw) (w : CoW c) (mb : Mp c.length nw b b') : ∀ (k : Nat) (t t' : List Int), Mp c.length nw t t' → rnds k (renC nw c) t' b' = (rnds k c t b).map (rens nw)
  | 0, _, _, _ => rfl
  | k + 1, t, t', m => by
    unfold rnds
    rw [stp_ren h w m mb]
    by_cases e : stp c t b = []
    · rw [if_pos e, if_pos (rens_nil.mpr e)]
      rfl
    · rw [if_neg e, if_neg fun z => e (rens_nil.mp z), rnds_ren h w mb k _ _ (m.app (Mp.rens h (stp_rg c t b)))]
      rfl
theorem AR_ren {c : Co} {nw b b' : List Int} (h : Rn c.length nw) (w : CoW c) (mb : Mp c.length nw b b') : AR (renC nw c) [] b' = (AR c [] b).map (rens nw) := by
  unfold AR
  rw [renC_len]
  exact rnds_ren h w mb _ _ _ (Mp.nil _ _)
theorem flat_ren (nw : List Int) : ∀ A : List (List Int), ((A.map (rens nw)).flatten).Perm (A.flatten.map (ren nw))
  | [] => List.Perm.refl _
  | a :: A => by
    rw [List.map_cons, List.flatten_cons, List.flatten_cons, List.map_append]
    exact (srt_perm _).append (flat_ren nw A)
theorem cl_ren {c : Co} {nw b b' : List Int} (h : Rn c.length nw) (w : CoW c) (mb : Mp c.length nw b b') : cl (renC nw c) [] b' = rens nw (cl c [] b) := by
  unfold cl rens
  rw [AR_ren h w mb, List.nil_append, List.nil_append]
  exact srt_one (((srt_perm _).trans (flat_ren nw _)).trans (((srt_perm _).map _).symm.trans (srt_perm _).symm)) (srt_up _) (srt_up _)
theorem gr_ren {c : Co} {nw : List Int} (h : Rn c.length nw) (w : CoW c) : gr (renC nw c) = rens nw (gr c) := cl_ren h w (Mp.nil _ _)
theorem out_ren {n : Nat} {nw t t' : List Int} (h : Rn n nw) (m : Mp n nw t t') : ((rng n).filter fun p => !decide (p ∈ t')) = rens nw ((rng n).filter fun p => !decide (p ∈ t)) :=
  flt_ren h fun x h0 h1 => by rw [decide_eq_decide.mpr (m x h0 h1)]
theorem out_rg (n : Nat) (t : List Int) : Rg n ((rng n).filter fun p => !decide (p ∈ t)) := fun x hx => mem_rng.mp (List.mem_filter.mp hx).1
theorem nev_ren {c : Co} {nw : List Int} (h : Rn c.length nw) (w : CoW c) : nev (renC nw c) = rens nw (nev c) := by
  unfold nev
  rw [renC_len, gr_ren h w]
  exact out_ren h (Mp.rens h (gr_rng c))
theorem posb_ren {c : Co} {nw t : List Int} (h : Rn c.length nw) (w : CoW c) (ht : Rg c.length t) (ut : t.Pairwise (· ≤ ·)) : posb (renC nw c) (rens nw t) = posb c t := by
  unfold posb
  rw [renC_len, out_ren h (Mp.rens h ht), cl_ren h w (Mp.rens h (out_rg _ _))]
  refine decide_eq_decide.mpr ⟨fun e => rens_inj h (cl_rng fun x hx => by cases hx) ht (srt_up _) ut e, fun e => by rw [e]⟩
def stk (c : Co) (t : List Int) : Bool := !t.isEmpty && !(t.any fun p => comes c ((rng c.length).filter fun p => !decide (p ∈ t)) p)
theorem any_perm {a b : List Int} (f : Int → Bool) (h : a.Perm b) : a.any f = b.any f := by
  rw [Bool.eq_iff_iff, List.any_eq_true, List.any_eq_true]
  exact ⟨fun ⟨x, hx, e⟩ => ⟨x, h.mem_iff.mp hx, e⟩, fun ⟨x, hx, e⟩ => ⟨x, h.mem_iff.mpr hx, e⟩⟩
theorem stk_ren {c : Co} {nw t : List Int} (h : Rn c.length nw) (w : CoW c) (ht : Rg c.length t) : stk (renC nw c) (rens nw t) = stk c t := by
  unfold stk
  have e1 : (rens nw t).isEmpty = t.isEmpty := by
    rw [Bool.eq_iff_iff, List.isEmpty_iff, List.isEmpty_iff]
    exact rens_nil
  have e2 : ((rens nw t).any fun p => comes (renC nw c) ((rng (renC nw c).length).filter fun p => !decide (p ∈ rens nw t)) p) = t.any fun p => comes c ((rng c.length).filter fun p => !decide (p ∈ t)) p := by
    rw [renC_len, out_ren h (Mp.rens h ht)]
    unfold rens
    rw [any_perm _ (srt_perm _), List.any_map, Bool.eq_iff_iff, List.any_eq_true, List.any_eq_true]
    have k : ∀ x ∈ t, comes (renC nw c) (srt (((rng c.length).filter fun p => !decide (p ∈ t)).map (ren nw))) (ren nw x) = comes c ((rng c.length).filter fun p => !decide (p ∈ t)) x := fun x hx =>
      comes_ren h w (Mp.rens h (out_rg _ _)) (ht x hx).1 (ht x hx).2
    exact ⟨fun ⟨x, hx, e⟩ => ⟨x, hx, by rw [← k x hx]; exact e⟩, fun ⟨x, hx, e⟩ => ⟨x, hx, by show comes _ _ (ren nw x) = true; rw [k x hx]; exact e⟩⟩
  rw [e1, e2]
theorem misL_ren {c : Co} {nw r : List Int} (h : Rn c.length nw) (w : CoW c) (hr : Rg c.length r) : misL (renC nw c) (r.map (ren nw)) = misL c r := by
  unfold misL
  rw [List.length_map]
  refine List.filter_congr fun i hi => ?_
  have hl := List.mem_range.mp hi
  have e : r.getD i 0 = r[i] := by rw [List.getD_eq_getElem?_getD, List.getElem?_eq_getElem hl]; rfl
  have hm := hr r[i] (List.getElem_mem hl)
  have e2 : (r.map (ren nw)).getD i 0 = ren nw (r.getD i 0) := by
    rw [e, List.getD_eq_getElem?_getD, List.getElem?_map, List.getElem?_eq_getElem hl]
    rfl
  rw [e2, ← List.map_take, e, comes_ren h w (Mp.map h fun x hx => hr x (List.mem_of_mem_take hx)) hm.1 hm.2]
theorem misV_ren {c : Co} {nw r : List Int} (h : Rn c.length nw) (w : CoW c) (hr : Rg c.length r) : misV (renC nw c) (r.map (ren nw)) = misV c r := by
  unfold misV
  rw [misL_ren h w hr]
theorem row_ren {n : Nat} {nw r : List Int} (h : Rn n nw) (hr : Row n r) : Row n (r.map (ren nw)) where
  nd := ren_nodup h (fun x hx => (hr.rg x).mp hx) hr.nd
  rg := fun y => by
    constructor
    · intro hy
      obtain ⟨x, hx, rfl⟩ := List.mem_map.mp hy
      have := (hr.rg x).mp hx
      exact ren_rg h this.1 this.2
    · rintro ⟨g0, g1⟩
      obtain ⟨x, x0, x1, rfl⟩ := ren_sur h g0 g1
      exact List.mem_map.mpr ⟨x, (hr.rg x).mpr ⟨x0, x1⟩, rfl⟩
theorem ord_ren {c : Co} {nw r : List Int} (h : Rn c.length nw) (w : CoW c) (hr : IsOrd c r) : IsOrd (renC nw c) (r.map (ren nw)) := by
  refine misL_ord ?_ ?_
  · rw [renC_len]
    exact row_ren h hr.row
  · rw [misL_ren h w hr.po.rg]
    exact misL_nil hr.po
theorem swp_map (f : Int → Int) {r : List Int} {i : Nat} (hi : i + 1 < r.length) : swp (r.map f) i = (swp r i).map f := by
  have e : ∀ j, j < r.length → (r.map f).getD j 0 = f (r.getD j 0) := fun j hj => by
    rw [List.getD_eq_getElem?_getD, List.getElem?_map, List.getD_eq_getElem?_getD, List.getElem?_eq_getElem hj]
    rfl
  unfold swp
  rw [e _ hi, e _ (by omega), ← List.map_take, ← List.map_drop]
  simp
theorem frp_ren {c : Co} {nw r : List Int} (h : Rn c.length nw) (w : CoW c) (hr : Rg c.length r) : frp (renC nw c) (r.map (ren nw)) = frp c r := by
  unfold frp
  rw [List.length_map]
  refine List.filter_congr fun i hi => ?_
  have hl := List.mem_range.mp hi
  rw [swp_map _ (by omega), misL_ren h w fun x hx => hr x ((swp_perm (by omega)).mem_iff.mp hx)]
end Ec

set_option Elab.async false
set_option linter.all false
namespace Ec
open PySem PySem.Spec PyProof.Rows L2
/-! ### pairs in ascending order -/
def leP (p q : Int × Int) : Bool := decide (p.1 < q.1 ∨ (p.1 = q.1 ∧ p.2 ≤ q.2))
def srtP (l : List (Int × Int)) : List (Int × Int) := l.mergeSort leP
theorem sortD_pairs (l : List (Int × Int)) : sortD (l.map duoD) = (srtP l).map duoD := by
  have e : PySem.W.dataLe false duoD = leP := PySem.W.dataLe_ii Prod.fst Prod.snd
  unfold srtP
  rw [← e]
  exact (List.map_mergeSort (r := PySem.W.dataLe false duoD) (s := PySem.W.dataLe false id) (f := duoD) (l := l) (fun a _ b _ => rfl)).symm
theorem srtP_perm (l : List (Int × Int)) : (srtP l).Perm l := List.mergeSort_perm l _
theorem srtP_up (l : List (Int × Int)) : (srtP l).Pairwise (fun a b => leP a b = true) :=
  List.pairwise_mergeSort (le := leP) (fun a b c h1 h2 => by
    unfold leP at *
    rw [decide_eq_true_eq] at *
    omega) (fun a b => by
    unfold leP
    rw [Bool.or_eq_true, decide_eq_true_eq, decide_eq_true_eq]
    omega) l
theorem srtP_one {a b : List (Int × Int)} (p : a.Perm b) (h : b.Pairwise (fun a b => leP a b = true)) : srtP a = b :=
  ((srtP_perm a).trans p).eq_of_pairwise (fun x y _ _ h1 h2 => by
    unfold leP at h1 h2
    rw [decide_eq_true_eq] at h1 h2
    refine Prod.ext ?_ ?_ <;> omega) (srtP_up a) h
theorem rng_lt (n : Nat) : (rng n).Pairwise (· < ·) := by
  unfold rng
  rw [List.pairwise_map]
  exact List.pairwise_lt_range.imp fun h => by omega
theorem prs_up (n : Nat) : (prs n).Pairwise (fun a b => leP a b = true) := by
  unfold prs
  rw [List.pairwise_flatMap]
  refine ⟨fun a _ => ?_, ?_⟩
  · rw [List.pairwise_map]
    refine ((rng_lt n).filter _).imp fun h => ?_
    unfold leP
    rw [decide_eq_true_eq]
    exact .inr ⟨rfl, Int.le_of_lt h⟩
  · refine (rng_lt n).imp fun {a b} h x hx y hy => ?_
    obtain ⟨_, _, rfl⟩ := List.mem_map.mp hx
    obtain ⟨_, _, rfl⟩ := List.mem_map.mp hy
    unfold leP
    rw [decide_eq_true_eq]
    exact .inl h
theorem crs_up (n : Nat) (r s : List Int) : (crs n r s).Pairwise (fun a b => leP a b = true) := (prs_up n).filter _
/-! ### crossed pairs of renumbered people -/
def mmP (nw : List Int) (x : Int × Int) : Int × Int := (if ren nw x.2 < ren nw x.1 then ren nw x.2 else ren nw x.1, if ren nw x.1 < ren nw x.2 then ren nw x.2 else ren nw x.1)
theorem posn_map {f : Int → Int} {v : Int} : ∀ {r : List Int}, (∀ y ∈ r, f y = f v → y = v) → posn (f v) (r.map f) = posn v r
  | [], _ => rfl
  | y :: r, h => by
    rw [List.map_cons, posn_cons, posn_cons, posn_map fun z hz => h z (List.mem_cons_of_mem _ hz)]
    by_cases e : y = v
    · rw [if_pos e, if_pos (by rw [e])]
    · rw [if_neg e, if_neg fun z => e (h y List.mem_cons_self z)]
theorem xd_ren {n : Nat} {nw r s : List Int} (h : Rn n nw) (hr : Row n r) (hs : Row n s) {a b : Int} (ha : 0 ≤ a ∧ a < n) (hb : 0 ≤ b ∧ b < n) : xd (r.map (ren nw)) (s.map (ren nw)) (ren nw a, ren nw b) = xd r s (a, b) := by
  have k : ∀ (t : List Int), Row n t → ∀ v : Int, 0 ≤ v ∧ v < n → posn (ren nw v) (t.map (ren nw)) = posn v t := fun t ht v hv => posn_map fun y hy e => ren_inj h ((ht.rg y).mp hy) hv e
  unfold xd
  simp only [k r hr a ha, k r hr b hb, k s hs a ha, k s hs b hb]
theorem xd_sym {n : Nat} {r s : List Int} (hr : Row n r) (hs : Row n s) {a b : Int} (ha : 0 ≤ a ∧ a < n) (hb : 0 ≤ b ∧ b < n) (ne : a ≠ b) : xd r s (b, a) = xd r s (a, b) := by
  have n1 : posn a r ≠ posn b r := fun e => ne (posn_inj ((hr.rg a).mpr ha) ((hr.rg b).mpr hb) e)
  have n2 : posn a s ≠ posn b s := fun e => ne (posn_inj ((hs.rg a).mpr ha) ((hs.rg b).mpr hb) e)
  rw [Bool.eq_iff_iff, xd_iff, xd_iff]
  show ¬ (posn b r < posn a r ↔ posn b s < posn a s) ↔ ¬ (posn a r < posn b r ↔ posn a s < posn b s)
  constructor
  · intro h g
    exact h ⟨fun z => by have := fun y => g.mpr y; omega, fun z => by have := fun y => g.mp y; omega⟩
  · intro h g
    exact h ⟨fun z => by have := fun y => g.mpr y; omega, fun z => by have := fun y => g.mp y; omega⟩
theorem crs_ren {n : Nat} {nw r s : List Int} (h : Rn n nw) (hr : Row n r) (hs : Row n s) : (crs n (r.map (ren nw)) (s.map (ren nw))).Perm ((crs n r s).map (mmP nw)) := by
  have hc : ∀ x ∈ crs n r s, (0 ≤ x.1 ∧ x.1 < n) ∧ (0 ≤ x.2 ∧ x.2 < n) ∧ x.1 < x.2 := fun x hx => by
    obtain ⟨g0, g1, g2⟩ := mem_prs.mp (show (x.1, x.2) ∈ prs n from (mem_crs'.mp hx).1)
    exact ⟨⟨g0, by omega⟩, ⟨by omega, g2⟩, g1⟩
  refine (List.perm_ext_iff_of_nodup (crs_nodup _ _ _) (nodup_on (fun x hx y hy e => ?_) (crs_nodup _ _ _))).mpr fun z => ?_
  · obtain ⟨x1, x2, x3⟩ := hc x hx
    obtain ⟨y1, y2, y3⟩ := hc y hy
    have ex : ren nw x.1 ≠ ren nw x.2 := fun e => by have := ren_inj h x1 x2 e; omega
    have ey : ren nw y.1 ≠ ren nw y.2 := fun e => by have := ren_inj h y1 y2 e; omega
    unfold mmP at e
    rw [Prod.mk.injEq] at e
    obtain ⟨e1, e2⟩ := e
    have key : (ren nw x.1 = ren nw y.1 ∧ ren nw x.2 = ren nw y.2) ∨ (ren nw x.1 = ren nw y.2 ∧ ren nw x.2 = ren nw y.1) := by
      split at e1 <;> split at e2 <;> split at e1 <;> split at e2 <;> first | omega | (left; omega) | (right; omega)
    rcases key with ⟨k1, k2⟩ | ⟨k1, k2⟩
    · exact Prod.ext (ren_inj h x1 y1 k1) (ren_inj h x2 y2 k2)
    · have := ren_inj h x1 y2 k1
      have := ren_inj h x2 y1 k2
      omega
  · obtain ⟨u, v⟩ := z
    rw [mem_crs', mem_prs, List.mem_map]
    constructor
    · rintro ⟨⟨g0, g1, g2⟩, g3⟩
      obtain ⟨a, a0, a1, rfl⟩ := ren_sur h g0 (by omega)
      obtain ⟨b, b0, b1, rfl⟩ := ren_sur h (y := v) (by omega) g2
      rw [xd_ren h hr hs ⟨a0, a1⟩ ⟨b0, b1⟩] at g3
      have ne : a ≠ b := fun e => by rw [e] at g1; omega
      by_cases hab : a < b
      · refine ⟨(a, b), mem_crs'.mpr ⟨mem_prs.mpr ⟨a0, hab, b1⟩, g3⟩, ?_⟩
        exact Prod.ext (if_neg (show ¬ ren nw b < ren nw a by omega)) (if_pos g1)
      · refine ⟨(b, a), mem_crs'.mpr ⟨mem_prs.mpr ⟨b0, by omega, a1⟩, by rw [xd_sym hr hs ⟨a0, a1⟩ ⟨b0, b1⟩ ne]; exact g3⟩, ?_⟩
        exact Prod.ext (if_pos g1) (if_neg (show ¬ ren nw b < ren nw a by omega))
    · rintro ⟨⟨a, b⟩, hx, e⟩
      obtain ⟨x1, x2, x3⟩ := hc _ hx
      have hxd := (mem_crs'.mp hx).2
      have ne : ren nw a ≠ ren nw b := fun e => by have := ren_inj h x1 x2 e; have : a < b := x3; omega
      have ra := ren_rg h x1.1 x1.2
      have rb := ren_rg h x2.1 x2.2
      unfold mmP at e
      rw [Prod.mk.injEq] at e
      obtain ⟨e1, e2⟩ := e
      dsimp only at e1 e2 ra rb
      by_cases hl : ren nw a < ren nw b
      · rw [if_neg (by omega)] at e1
        rw [if_pos hl] at e2
        subst e1
        subst e2
        exact ⟨⟨ra.1, hl, rb.2⟩, by rw [xd_ren h hr hs x1 x2]; exact hxd⟩
      · rw [if_pos (by omega)] at e1
        rw [if_neg hl] at e2
        subst e1
        subst e2
        refine ⟨⟨rb.1, by omega, ra.2⟩, ?_⟩
        rw [xd_ren h hr hs x2 x1, xd_sym hr hs x1 x2 (by have : a < b := x3; omega)]
        exact hxd
theorem pairs_ren {n : Nat} {nw r s : List Int} (h : Rn n nw) (hr : Row n r) (hs : Row n s) : srtP ((crs n r s).map (mmP nw)) = crs n (r.map (ren nw)) (s.map (ren nw)) := srtP_one (crs_ren h hr hs).symm (crs_up _ _ _)
theorem Pth.renum {c : Co} {nw : List Int} (h : Rn c.length nw) (w : CoW c) {r s : List Int} {ps : List Nat} (p : Pth c r ps s) (ho : IsOrd c r) : Pth (renC nw c) (r.map (ren nw)) ps (s.map (ren nw)) := by
  induction p with
  | nil => exact .nil _
  | @snoc s ps i p hi ih =>
    have hs := p.ord ho
    have hl := ((frp_ok hs).mp hi).1
    rw [← swp_map _ hl]
    exact .snoc ih (by rw [frp_ren h w hs.po.rg]; exact hi)
end Ec

set_option Elab.async false
set_option linter.all false
namespace Ec
open PySem PySem.Spec PyProof.Rows L2
abbrev T_asc : TrD := fun xs μ R => ∃ (t : List Int) (n : Nat), xs = [.d (.tuple (intsD t)), .d (.int (n : Int))] ∧ t.Pairwise (· < ·) ∧ Rg n t ∧ t.length < 64 ∧ R (.d (.bool true)) μ
abbrev T_people : TrD := fun xs μ R => ∃ dc c t, xs = [.d dc, .d (.tuple (intsD t))] ∧ CoD dc c ∧ t.Pairwise (· < ·) ∧ Rg c.length t ∧ t.length < 64 ∧ R (.d (.bool true)) μ
abbrev T_stk : TrD := fun xs μ R => ∃ dc c t, xs = [.d dc, .d (.tuple (intsD t))] ∧ CoD dc c ∧ t.Pairwise (· < ·) ∧ Rg c.length t ∧ t.length < 64 ∧ R (.d (.bool (stk c t))) μ
abbrev T_newsome : TrD := fun xs μ R => ∃ dt t nw, xs = [.d dt, .d (.list (intsD nw))] ∧ SqD dt (intsD t) ∧ Rg nw.length t ∧ t.length < 64 ∧ R (.d (.tuple (intsD (rens nw t)))) μ
abbrev T_newcrowd : TrD := fun xs μ R => ∃ c nw, xs = [.d (coD c), .d (.list (intsD nw))] ∧ c.length ≤ 40 ∧ Rn c.length nw ∧ CoW c ∧ (∀ e ∈ c, e.1.length < 64) ∧ R (.d (coD (renC nw c))) μ
abbrev T_ordsr : TrD := fun xs μ R => ∃ (b : Addr) (bs : List PyData) (c : Co) (nw : List Int) (m : Nat), xs = [.a b, .d (coD c), .d (coD (renC nw c)), .d (.list (intsD nw))] ∧ μ = ([(b, bs)] : Cells) ∧ BoxOk m bs ∧ c.length ≤ 10 ∧ Rn c.length nw ∧ CoW c ∧ nev c = [] ∧ m + 1000 ≤ 1000000000000 ∧ ∀ bs', BoxOk (m + 1000) bs' → R (.d (.bool true)) [(b, bs')]
theorem asc_one {a b : List Int} (ha : a.Pairwise (· < ·)) (hb : b.Pairwise (· < ·)) (h : ∀ k, k ∈ a ↔ k ∈ b) : a = b := by
  have nd : ∀ l : List Int, l.Pairwise (· < ·) → l.Nodup := fun l hl => hl.imp fun h => by omega
  exact srt_one (perm_of_mem (nd a ha) (nd b hb) h) (ha.imp fun h => by omega) (hb.imp fun h => by omega)
theorem asc_lt {n : Nat} {t : List Int} (h : t.Sublist (rng n)) : t.Pairwise (· < ·) ∧ Rg n t ∧ t.length ≤ n := sub_rng h
theorem rens_lt {n : Nat} {nw t : List Int} (h : Rn n nw) (ht : Rg n t) (hn : t.Nodup) : (rens nw t).Pairwise (· < ·) := by
  have nd : (rens nw t).Nodup := (srt_perm _).nodup_iff.mpr (ren_nodup h ht hn)
  have up : (rens nw t).Pairwise (· ≤ ·) := srt_up _
  exact (up.and nd).imp fun ⟨h1, h2⟩ => by omega
theorem atI_ren {nw : List Int} {x : Int} (h0 : 0 ≤ x) (h1 : x < nw.length) : atI (intsD nw) x = some (.int (ren nw x)) := by
  have := atI_ints (r := nw) (i := x.toNat) (by omega)
  rw [show ((x.toNat : Nat) : Int) = x by omega] at this
  exact this
theorem enum_itemD {α : Type} {f : α → PyData} {l : List α} {i : Nat} {d : PyData} (h : (enumD (l.map f))[i]? = some d) : ∃ x, l[i]? = some x ∧ d = .tuple [.int (i : Int), f x] := by
  obtain ⟨y, hy, rfl⟩ := enumD_get h
  obtain ⟨x, hx, rfl⟩ := map_item hy
  exact ⟨x, hx, rfl⟩
theorem enum_itemsD {α : Type} (f : α → PyData) (l : List α) : (enumD (l.map f)).length = l.length := by rw [enumD_len, List.length_map]
theorem eqv_pairs : ∀ a b : List (Int × Int), PyData.eqvAll (a.map duoD) (b.map duoD) = decide (a = b)
  | [], [] => rfl
  | [], b :: bs => rfl
  | a :: as, [] => rfl
  | a :: as, b :: bs => by
    show (PyData.eqv (duoD a) (duoD b) && PyData.eqvAll (as.map duoD) (bs.map duoD)) = _
    rw [eqv_pairs as bs, eqv_pr]
    simp only [List.cons.injEq, Bool.decide_and]
theorem eqv_lpairs (a b : List (Int × Int)) : PyData.eqv (.list (a.map duoD)) (.list (b.map duoD)) = decide (a = b) := eqv_pairs a b
theorem misV_shaped (c : Co) (r : List Int) : SeqAt.shaped (misV c r) = true := by
  unfold misV
  split <;> rfl
theorem eqv_misV (c : Co) (r : List Int) : PyData.eqv (misV c r) (misV c r) = true := by
  unfold misV
  split
  · exact eqv_nn
  · exact eqv_ii _
theorem flat_rep {α : Type} (x : α) : ∀ n, (List.replicate n [x]).flatten = List.replicate n x
  | 0 => rfl
  | n + 1 => by
    rw [List.replicate_succ, List.flatten_cons, flat_rep x n]
    rfl
theorem frs64 {c : Co} (w : CoW c) (h : c.length ≤ 40) : ∀ e ∈ c, e.1.length < 64 := fun e he => by
  have := asc_len (w.up e he) (w.lt e he)
  omega
theorem renC_frs {c : Co} {nw : List Int} (hf : ∀ e ∈ c, e.1.length < 64) : ∀ e ∈ renC nw c, e.1.length ≤ 1000 := by
  have frl : ∀ x, (fr c x).length < 64 := fun x => by
    unfold fr
    exact getD_all (p := fun e : List Int × Int => e.1.length < 64) ([], 0) hf (by decide)
  have : ∀ i, ∀ e ∈ renS nw c i, e.1.length ≤ 1000 := fun i => by
    induction i with
    | zero =>
      intro e he
      rw [(List.mem_replicate.mp he).2]
      decide
    | succ i ih =>
      intro e he
      unfold renS at he
      rcases List.mem_or_eq_of_mem_set he with he | rfl
      · exact ih e he
      · rw [rens_len]
        have := frl (i : Int)
        omega
  exact this _
theorem shaped_pairs2 (l : List (Int × Int)) : PySem.W.AllAlike (l.map duoD) ∧ PySem.W.Sortable (l.map duoD) ∧ ∀ d ∈ l.map duoD, d.depth ≤ 60 :=
  ⟨PySem.W.AllAlike.of fun _ _ => rfl, PySem.W.Sortable.tuples fun b => ⟨_, _, rfl⟩, fun d hd => by
    obtain ⟨x, _, rfl⟩ := List.mem_map.mp hd
    exact (by decide : 1 ≤ 60)⟩
theorem crs_len64 {n : Nat} (h : n ≤ 10) (r s : List Int) : (crs n r s).length ≤ 100 := by
  have := crs_le n r s
  have : n * n ≤ 10 * 10 := Nat.mul_le_mul h h
  omega
end Ec

set_option Elab.async false
set_option linter.all false
namespace Ec
open PySem PySem.Spec PyProof.Rows L2
theorem AR_rg {c : Co} : ∀ r ∈ AR c [] [], ∀ y ∈ r, 0 ≤ y ∧ y < c.length := fun r hr y hy => by
  have := (rnds_nodup (c.length + 1) c [] []).2 y (List.mem_flatten.mpr ⟨r, hr, hy⟩)
  exact this.2
theorem natsD_shaped (l : List Nat) : SeqAt.shaped (.list (natsD l)) = true := by
  rw [natsD_ints]
  exact shaped_lst _
theorem clw_len (c : Co) (b : List Int) : (cl c [] b).length ≤ c.length := by
  have h := cl_len c [] b
  unfold cl
  rw [(srt_perm _).length_eq]
  simpa using h
theorem nexts_le9 (c : Co) (t : List Int) : (nexts c t).length ≤ c.length := by
  unfold nexts
  refine Nat.le_trans (List.length_filter_le _ _) (Nat.le_trans (List.length_filter_le _ _) ?_)
  rw [rng_len]
  exact Nat.le_refl _
end Ec

set_option Elab.async false
set_option linter.all false
set_option maxRecDepth 100000
set_option maxHeartbeats 4000000
namespace Ec
open PySem PySem.Spec PyProof.Rows L2
/-! ### dicts with int keys -/
abbrev zipI (kvs : List (Int × PyData)) (ws : List V) : List (Key × V) := List.zipWith (fun k w => (Sum.inl k.1, w)) kvs ws
def getI : List (Int × PyData) → Int → Option PyData
  | [], _ => none
  | p :: r, k => if p.1 = k then some p.2 else getI r k
inductive Dv (μ : Cells) : Vd → Cont → Prop
  | c (j : Nat) {p : Addr} {c : Cont} (h : μ[j]? = some (p, c)) : Dv μ (.a p) c
  | k (p : Addr) (c : Cont) : Dv μ (.k p c) c
  | z (p : Addr) (kvs : List (List Int × PyData)) : Dv μ (.z p kvs) (.t kvs)
theorem dv_i {K : PySem.W.Frag} {F H : Hp} {μ : Cells} {x : Vd} {v : V} {kvs : List (Int × PyData)} (m : RpM K F H μ) (o : VOk K F x v) (h : Dv μ x (.i kvs)) : ∃ a ws, v = .ref a ∧ DeAll K F ws (kvs.map Prod.snd) ∧ Rd H a (.dK (zipI kvs ws)) := by
  cases h with
  | c j hj =>
    obtain ⟨_, ws, h1, h2⟩ := m.cel _ _ (List.mem_of_getElem? hj)
    exact ⟨_, ws, o, h1, .inl h2⟩
  | k p =>
    obtain ⟨e, od, ws, h1, h2⟩ := o
    exact ⟨p, ws, e, h1, .inr ⟨od, m.ex _ _ h2⟩⟩
theorem valI {K : PySem.W.Frag} {F : Hp} {k : Int} : ∀ {kvs : List (Int × PyData)} {ws : List V}, DeAll K F ws (kvs.map Prod.snd) → (getI kvs k = none ∧ valV (zipI kvs ws) (Sum.inl k) = none) ∨ ∃ d w, getI kvs k = some d ∧ valV (zipI kvs ws) (Sum.inl k) = some w ∧ De K F w d
  | [], _, _ => .inl ⟨rfl, rfl⟩
  | p :: r, _, h => by
    cases h with
    | cons h1 h2 =>
      rename_i w ws
      unfold getI
      by_cases e : p.1 = k
      · rw [if_pos e]
        exact .inr ⟨p.2, w, rfl, valV_pos (p := ((Sum.inl p.1 : Key), w)) (congrArg Sum.inl e), h1⟩
      · rw [if_neg e]
        have : valV (zipI (p :: r) (w :: ws)) (Sum.inl k) = valV (zipI r ws) (Sum.inl k) := valV_neg (p := ((Sum.inl p.1 : Key), w)) fun z => e (Sum.inl.inj z)
        rw [this]
        exact valI h2
section
variable {X : Cx} {δ : Dl} {μ : Cells} {Q : Vd → Cells → Prop} {a b o i : Expr} {pos : Pos}
theorem we_dnew (h : ∀ p, Q (.a p) ((p, Cont.i []) :: μ)) : WE X (.Dict [] [] pos) δ μ Q := fun F H σ R QV c =>
  toE pe_dnewK fun p np => by
    obtain ⟨m2, w2⟩ := R.m.cellO (c := .i []) np ⟨[], .nil, upd_same⟩
    exact c (.ref p) (.a p) _ _ _ w2 (R.to (Same.refl _) m2) rfl (h p)
theorem we_dget (hu : X.A.units + 1 < cLine) (h : WE X o δ μ fun x μ1 => WE X i δ μ1 fun y μ2 => ∃ (kvs : List (Int × PyData)) (k : Int) (d : PyData), Dv μ2 x (.i kvs) ∧ y = .d (.int k) ∧ getI kvs k = some d ∧ Q (.d d) μ2) (hs : NoSl i := by with_unfolding_all exact fun _ _ => rfl) : WE X (.Subscript o i pos) δ μ Q := fun F H σ R QV c =>
  toE (pe_dget hu (pcE X o) (pcE X i) hs) (h F H σ R _ fun v x F1 H1 μ1 w1 R1 o1 q => q F1 H1 σ R1 _ fun u y F2 H2 μ2 w2 R2 o2 q2 => by
    obtain ⟨kvs, k, d, hx, rfl, hg, q3⟩ := q2
    obtain ⟨a, ws, rfl, hd, hr⟩ := dv_i R2.m (o1.up w2.f) hx
    rcases valI (k := k) hd with ⟨n, _⟩ | ⟨d', w, e1, e2, e3⟩
    · rw [n] at hg
      cases hg
    · rw [e1] at hg
      cases hg
      refine ⟨a, w, rfl, .inl ⟨_, Sum.inl k, hr, dp_int o2, e2.symm⟩, c w (.d _) F2 H2 μ2 (w1.trans w2) R2 e3 q3⟩)
end
/-! ### a dict locked, and free again -/
def NF (u : HO) : Prop := (∀ xs, u ≠ .tup xs) ∧ ∀ o v, u ≠ .frz o v
section
variable {K : PySem.W.Frag} {F H : Hp} {p : Addr} {od : Obj} {u : HO}
mutual
theorem dp_cutK (hp : F p = some (.frz od u)) (hu : NF u) : ∀ (d : PyData) (v : V), De K F v d → De K (cut F p) v d
  | .none, _, h => by cases h; exact .non
  | .bool b, _, h => by cases h; exact .bl b
  | .int i, _, h => by cases h; exact .int i
  | .str x, _, h => by cases h; exact .str x
  | .list ds, _, h => by
    cases h with
    | lst hs ha => exact .lst (by rw [cut_ne fun z => by rw [z, hp] at hs; cases hs]; exact hs) (dps_cutK hp hu ds _ ha)
  | .tuple ds, _, h => by
    cases h with
    | tup hs hn ha => exact .tup (by rw [cut_ne fun z => by rw [z, hp] at hs; cases hs; exact hu.1 _ rfl]; exact hs) hn (dps_cutK hp hu ds _ ha)
  | .dict _, _, h => by cases h
theorem dps_cutK (hp : F p = some (.frz od u)) (hu : NF u) : ∀ (ds : List PyData) (vs : List V), DeAll K F vs ds → DeAll K (cut F p) vs ds
  | [], _, h => by cases h; exact .nil
  | d :: ds, _, h => by
    cases h with
    | cons h1 h2 => exact .cons (dp_cutK hp hu d _ h1) (dps_cutK hp hu ds _ h2)
end
theorem dqs_cutK (hp : F p = some (.frz od u)) (hu : NF u) {vs : List V} {ds : List PyData} (h : DqAll K F vs ds) : DqAll K (cut F p) vs ds :=
  Paired.mapP h fun v d q => by
    cases q with
    | d h => exact .d (dp_cutK hp hu _ _ h)
    | p a => exact .p a
    | z h =>
      obtain ⟨od', xs, h1, h2⟩ := h
      refine .z ⟨od', xs, ?_, Paired.mapP h2 fun x q ⟨e1, ⟨o, e2, e3⟩, w, e4, e5⟩ => ⟨e1, ⟨o, ?_, e3⟩, w, e4, dp_cutK hp hu _ _ e5⟩⟩
      · rw [cut_ne fun z => by rw [z, hp] at h1; cases h1; exact hu.2 _ _ rfl]
        exact h1
      · rw [cut_ne fun z => by rw [z, hp] at e2; cases e2; exact hu.1 _ rfl]
        exact e2
theorem CelOk.cutK (hp : F p = some (.frz od u)) (hu : NF u) {b : Addr} {c : Cont} {H' : Hp} (h : CelOk K F H b c) (e : ∀ o, H b = some o → H' b = some o) : CelOk K (cut F p) H' b c := by
  cases c with
  | l ds =>
    obtain ⟨vs, h1, h2⟩ := h
    exact ⟨vs, e _ h1, dqs_cutK hp hu h2⟩
  | i kvs =>
    obtain ⟨ws, h1, h2⟩ := h
    exact ⟨ws, dps_cutK hp hu _ _ h1, e _ h2⟩
  | t kvs =>
    obtain ⟨xs, h1, h2⟩ := h
    refine ⟨xs, e _ h1, Paired.mapP h2 fun x q ⟨e1, ⟨o, e2, e3⟩, w, e4, e5⟩ => ⟨e1, ⟨o, ?_, e3⟩, w, e4, dp_cutK hp hu _ _ e5⟩⟩
    rw [cut_ne fun z => by rw [z, hp] at e2; cases e2; exact hu.1 _ rfl]
    exact e2
theorem CelOk.dict {c : Cont} (h : CelOk K F H p c) (nl : ∀ ds, c ≠ .l ds) : ∃ u, H p = some u ∧ Mut (some u) ∧ NF u ∧ (∀ F' od, Same F F' → F' p = some (.frz od u) → LkOk K F' p c) ∧ ∀ F' H', Same F F' → H' p = some u → CelOk K F' H' p c := by
  cases c with
  | l ds => exact absurd rfl (nl ds)
  | i kvs =>
    obtain ⟨ws, h1, h2⟩ := h
    exact ⟨_, h2, trivial, ⟨(fun xs z => by cases z), fun o v z => by cases z⟩, fun F' od e g => ⟨od, ws, dps_up e _ _ h1, g⟩, fun F' H' e g => ⟨ws, dps_up e _ _ h1, g⟩⟩
  | t kvs =>
    obtain ⟨xs, h1, h2⟩ := h
    have up : ∀ F', Same F F' → Paired (DtE K F') xs kvs := fun F' e => Paired.mapP h2 fun x p ⟨e1, ⟨o, e2, e3⟩, w, e4, e5⟩ => ⟨e1, ⟨o, e _ _ e2, e3⟩, w, e4, dp_up e _ _ e5⟩
    exact ⟨_, h1, trivial, ⟨(fun xs z => by cases z), fun o v z => by cases z⟩, fun F' od e g => ⟨od, xs, g, up F' e⟩, fun F' H' e g => ⟨xs, g, up F' e⟩⟩
theorem RpM.locked {μ : Cells} {c : Cont} (r : RpM K F H ((p, c) :: μ)) (od : Obj) : RpM K (upd F p (.frz od u)) (upd H p (.frz od u)) μ ∧ Same F (upd F p (.frz od u)) := by
  obtain ⟨f, _⟩ := r.cel p c List.mem_cons_self
  obtain ⟨out, nd⟩ := List.nodup_cons.mp r.nd
  refine ⟨⟨fun b x q => ?_, nd, fun b es m => ?_⟩, same_new f⟩
  · by_cases hb : b = p
    · subst hb
      rw [upd_same] at q ⊢
      exact q
    · rw [upd_ne hb] at q ⊢
      exact r.ex b x q
  · obtain ⟨f', g⟩ := r.cel b es (List.mem_cons_of_mem _ m)
    have nb : b ≠ p := fun z => out (z ▸ List.mem_map.mpr ⟨_, m, rfl⟩)
    exact ⟨by rw [upd_ne nb]; exact f', g.to (same_new f) fun o e => by rw [upd_ne nb]; exact e⟩
theorem RpM.unlock {μ μ2 : Cells} {c : Cont} {F2 H2 : Hp} (r : RpM K F H ((p, c) :: μ)) (hu : NF u) (cl : ∀ F' H', Same F F' → H' p = some u → CelOk K F' H' p c) (w : Fw (ks μ) (ks μ2) (upd F p (.frz od u)) (upd H p (.frz od u)) F2 H2) (m2 : RpM K F2 H2 μ2) :
    F2 p = some (.frz od u) ∧ H2 p = some (.frz od u) ∧ RpM K (cut F2 p) (upd H2 p u) ((p, c) :: μ2) ∧ Fw (ks ((p, c) :: μ)) (ks ((p, c) :: μ2)) F H (cut F2 p) (upd H2 p u) ∧ Same F (cut F2 p) := by
  obtain ⟨f, _⟩ := r.cel p c List.mem_cons_self
  have f2 : F2 p = some (.frz od u) := w.f p _ upd_same
  have sF : Same F (cut F2 p) := fun b o e => by
    have nb : b ≠ p := ne_of_none e f
    rw [cut_ne nb]
    exact w.f b o (by rw [upd_ne nb]; exact e)
  have out2 : p ∉ ks μ2 := fun m => by
    obtain ⟨⟨b, es⟩, m1, e⟩ := List.mem_map.mp m
    have e' : b = p := e
    subst e'
    have := (m2.cel b es m1).1
    rw [f2] at this
    cases this
  refine ⟨f2, m2.ex _ _ f2, ⟨fun b o e => ?_, List.nodup_cons.mpr ⟨out2, m2.nd⟩, fun b es m => ?_⟩, ⟨sF, fun b o e nb => ?_, fun b e h nb => ?_, fun b m => ?_⟩, sF⟩
  · have nb : b ≠ p := fun z => by
      rw [z, cut_same] at e
      cases e
    rw [cut_ne nb] at e
    rw [upd_ne nb]
    exact m2.ex b o e
  · rcases List.mem_cons.mp m with m | m
    · cases m
      exact ⟨cut_same, cl _ _ sF upd_same⟩
    · obtain ⟨g1, g2⟩ := m2.cel b es m
      have nb : b ≠ p := fun z => by
        rw [z, f2] at g1
        cases g1
      exact ⟨by rw [cut_ne nb]; exact g1, g2.cutK f2 hu fun o e => by rw [upd_ne nb]; exact e⟩
  · have nbp : b ≠ p := fun z => nb (z ▸ List.mem_cons_self)
    rw [upd_ne nbp]
    exact w.k b o (by rw [upd_ne nbp]; exact e) fun m => nb (List.mem_cons_of_mem _ m)
  · have nbp : b ≠ p := fun z => nb (z ▸ List.mem_cons_self)
    rw [cut_ne nbp]
    exact w.c b (by rw [upd_ne nbp]; exact e) (by rw [upd_ne nbp]; exact h) fun m => nb (List.mem_cons_of_mem _ m)
  · rcases List.mem_cons.mp m with m | m
    · exact .inl (m ▸ List.mem_cons_self)
    · rcases w.s b m with h | h
      · exact .inl (List.mem_cons_of_mem _ h)
      · have nb : b ≠ p := fun z => by
          rw [z, upd_same] at h
          cases h
        rw [upd_ne nb] at h
        exact .inr h
end
/-- a value that holds no dict that is walked -/
def noK : Vd → Bool
  | .d _ => true
  | .a _ => true
  | _ => false
/-- the slots of a dict, while it is walked -/
def lkD (p : Addr) (c : Cont) (js : List Nat) (δ : Dl) : Dl := js.foldl (fun d j => d.set j (some (.k p c))) δ
theorem Rp.lkD {K : PySem.W.Frag} {F H : Hp} {σ : L2.St} {μ : Cells} {p : Addr} {c : Cont} (hk : LkOk K F p c) : ∀ (js : List Nat) {δ : Dl}, Rp K F H σ δ μ → (∀ j ∈ js, ∃ v, σ[j]? = some (some v) ∧ v = .ref p) → Rp K F H σ (lkD p c js δ) μ
  | [], _, r, _ => r
  | j :: js, δ, r, h => by
    obtain ⟨v, e1, e2⟩ := h j List.mem_cons_self
    have := r.put (x := .k p c) (v := v) j ⟨e2, hk⟩
    have es : σ.set j (some v) = σ := by
      refine List.ext_getElem? fun k => ?_
      by_cases hk : j = k
      · subst hk
        rw [e1, List.getElem?_set_self (List.getElem?_eq_some_iff.mp e1).1]
      · rw [List.getElem?_set_ne hk]
    rw [es] at this
    exact Rp.lkD hk js this fun k m => h k (List.mem_cons_of_mem _ m)
section
variable {X : Cx} {δ : Dl} {μ : Cells} {Q : Vd → Cells → Prop} {e : Expr} {D : Dn} {st : Stmt}
theorem perm_at {μ : Cells} {i : Nat} {p : Addr} {c : Cont} (hi : μ[i]? = some (p, c)) : μ.Perm ((p, c) :: μ.eraseIdx i) := by
  obtain ⟨hl, e⟩ := List.getElem?_eq_some_iff.mp hi
  rw [← e]
  exact perm_erase hl
/-- an expression in which a dict is walked -/
theorem we_lock (i : Nat) (js : List Nat) {p : Addr} {c : Cont} (hi : μ[i]? = some (p, c)) (nl : ∀ ds, c ≠ .l ds) (hj : ∀ j ∈ js, δ[j]? = some (some (.a p)))
    (h : WE X e (lkD p c js δ) (μ.eraseIdx i) fun z μ' => noK z = true ∧ Q z ((p, c) :: μ')) : WE X e δ μ Q := fun F H σ R QV k => by
  have pm := perm_at hi
  have R1 := R.perm pm
  obtain ⟨fp, hc⟩ := R1.m.cel p c List.mem_cons_self
  obtain ⟨u, hu, mu, nt, lk, cl⟩ := hc.dict nl
  refine toE (pe_lock (pcE X e)) ⟨p, u, hu, mu, fun od => ?_⟩
  obtain ⟨m1, s1⟩ := R1.m.locked (u := u) od
  have R2 : Rp X.K (upd F p (.frz od u)) (upd H p (.frz od u)) σ δ (μ.eraseIdx i) := R1.to s1 m1
  have R3 := Rp.lkD (lk _ od s1 upd_same) js R2 fun j m => R.env j _ (hj j m)
  refine h _ _ σ R3 _ fun v z F2 H2 μ2 w2 R4 o2 q => ?_
  obtain ⟨q1, q2⟩ := q
  obtain ⟨f2, h2, m3, w3, s3⟩ := R1.m.unlock nt cl w2 R4.m
  refine ⟨h2, k v z _ _ _ (w3.sub (fun x m => (pm.map Prod.fst).mem_iff.mpr m) fun x m => .inl m) (R1.to s3 m3) ?_ q2⟩
  cases z with
  | d x => exact dp_cutK f2 nt x v o2
  | a r => exact o2
  | w x => cases q1
  | s x => cases q1
  | k x y => cases q1
  | e x y z u => cases q1
  | z x y => cases q1
end
/-! ### for k in d -/
theorem zipI_len {kvs : List (Int × PyData)} {ws : List V} (h : ws.length = kvs.length) : (zipI kvs ws).length = kvs.length := by
  rw [List.length_zipWith, h, Nat.min_self]
theorem zipI_get {kvs : List (Int × PyData)} {ws : List V} {i : Nat} {k : Key} {v : V} (h : (zipI kvs ws)[i]? = some (k, v)) : ∃ q, kvs[i]? = some q ∧ k = Sum.inl q.1 ∧ ws[i]? = some v := by
  rw [List.getElem?_zipWith] at h
  cases h1 : kvs[i]? with
  | none =>
    rw [h1] at h
    cases h
  | some q =>
    cases h2 : ws[i]? with
    | none =>
      rw [h1, h2] at h
      cases h
    | some w =>
      rw [h1, h2] at h
      cases h
      exact ⟨q, rfl, rfl, rfl⟩
theorem wk_keysI {K : PySem.W.Frag} {F0 : Hp} {p : Addr} {od : Obj} {kvs : List (Int × PyData)} {ws : List V} (hf : F0 p = some (.frz od (.dK (zipI kvs ws)))) (hl : ws.length = kvs.length) : Wk K (Itk p od (zipI kvs ws)) F0 Vd.d (intsD (kvs.map Prod.fst)) where
  go := fun i F H h f1 f2 => by
    rw [List.length_map, List.length_map] at h
    exact ⟨f2 _ _ (f1 _ _ hf), by rw [zipI_len hl]; exact h⟩
  yld := fun i F H x H' d h f1 f2 y => by
    obtain ⟨rfl, k, v, e1, rfl⟩ := y
    obtain ⟨q, e2, rfl, _⟩ := zipI_get e1
    rw [List.getElem?_map, List.getElem?_map, e2] at h
    cases h
    exact ⟨F, Same.refl F, f2, Same.refl _, fun b e _ => e, De.int _⟩
  stop := fun F H f1 f2 => by
    rw [List.length_map, List.length_map]
    exact ⟨f2 _ _ (f1 _ _ hf), by rw [zipI_len hl]; exact Nat.le_refl _⟩
section
variable {X : Cx} {δ : Dl} {μ : Cells} {e tg : Expr} {QI : List PyData → Cells → Prop}
theorem wi_keysI (h : WE X e δ μ fun x μ1 => ∃ (p : Addr) (kvs : List (Int × PyData)), x = .k p (.i kvs) ∧ QI (intsD (kvs.map Prod.fst)) μ1) (hw : itV e = Vd.d := by rfl) : WI X tg e δ μ QI := fun F H σ R RV cc =>
  toI (pi_keys (pcE X e)) (h F H σ R _ fun v x F1 H1 μ1 w1 R1 o1 q => by
    obtain ⟨p, kvs, rfl, q⟩ := q
    obtain ⟨rfl, od, ws, hd, hf⟩ := o1
    have hl : ws.length = kvs.length := by rw [dps_len hd, List.length_map]
    refine ⟨p, od, rfl, .inl ⟨_, R1.m.ex _ _ hf, cc _ _ F1 H1 μ1 w1 R1 ?_ q⟩⟩
    rw [hw]
    exact wk_keysI hf hl)
end
/-! ### d.update(pairs) -/
def rUpdP (K : PySem.W.Frag) : V → List V → Hp → VK → Prop := fun x xs H Q => ∃ (d a : Addr) (kvs0 : List (Key × V)) (ps : List Addr) (kvs : List (Key × V)), x = .ref d ∧ xs = [.ref a] ∧ H d = some (.dK kvs0) ∧ SqL K H a (ps.map V.ref) ∧
  Paired (fun p kv => SqT K H p [kV kv.1, kv.2]) ps kvs ∧ kvs0.length + kvs.length ≤ sizeLine ∧ Q .non (upd H d (.dK (mergeK kvs0 kvs)))
theorem pvs_of {h : Heap} {ps : List Addr} : ∀ {prs : List (Key × Value)} (o : Nat), (∀ (j : Nat) (q : Key × Value), prs[j]? = some q → ∃ (b : Addr) (u : Value), ps[o + j]? = some b ∧ IsTup h b #[u, q.2] ∧ keyIs q.1 u = true) →
    ∃ pvs : List (Value × Value), pvs.length = prs.length ∧ ∀ (j : Nat) (k v : Value), pvs[j]? = some (k, v) → ∃ (b : Addr) (q : Key × Value), ps[o + j]? = some b ∧ IsTup h b #[k, v] ∧ prs[j]? = some q ∧ v = q.2 ∧ keyIs q.1 k = true
  | [], _, _ => ⟨[], rfl, fun j k v e => by simp at e⟩
  | q :: prs, o, hp => by
    obtain ⟨b, u, e1, e2, e3⟩ := hp 0 q rfl
    obtain ⟨pvs, hl, hq⟩ := pvs_of (h := h) (ps := ps) (prs := prs) (o + 1) fun j q' e => by
      have := hp (j + 1) q' (by simpa using e)
      rw [show o + 1 + j = o + (j + 1) by omega]
      exact this
    refine ⟨(u, q.2) :: pvs, by rw [List.length_cons, List.length_cons, hl], fun j k v e => ?_⟩
    cases j with
    | zero =>
      cases e
      exact ⟨b, q, e1, e2, rfl, rfl, e3⟩
    | succ j =>
      obtain ⟨b', q', f1, f2, f3, f4, f5⟩ := hq j k v (by simpa using e)
      exact ⟨b', q', by rw [show o + (j + 1) = o + 1 + j by omega]; exact f1, f2, by simpa using f3, f4, f5⟩
theorem mt_updP {X : Cx} (hc : X.calm = true) : MtR X "dict.update" (rUpdP X.K) := by
  intro pins s σ H x xs v us Q I rx rv h
  obtain ⟨d, a, kvs0, ps, kvs, rfl, rfl, hD, hq, hp, hz, q⟩ := h
  cases rx
  obtain ⟨u, rfl, ru⟩ := vals1 rv
  cases ru
  obtain ⟨its, rv2, pl, hz2⟩ := I.list hq
  have ei := refs_at rv2
  subst ei
  obtain ⟨prs, rel, hl, hpr⟩ := pairs_of I hp
  obtain ⟨o, n, ho, hcl, hdd, hdat⟩ := pl
  obtain ⟨_, hsm, vs0, kv0, dd⟩ := dk_of I.hok hD
  obtain ⟨pvs, pl1, pl2⟩ := pvs_of (h := s.heap) (ps := ps) (prs := prs) 0 fun j q e => by
    obtain ⟨b, u, e1, e2, e3⟩ := hpr j q e
    exact ⟨b, u, by rw [Nat.zero_add]; exact e1, e2, e3⟩
  have hln := Paired.length hp
  have hl0 := kv0.length
  have hrl := rel.length
  have dict : ∃ ob es ep, s.heap.get? d = some ob ∧ ob.data = .dict es ep := by
    obtain ⟨ob, es, ep, e1, _, e2, _⟩ := dd
    exact ⟨ob, es, ep, e1, e2⟩
  have nd : ∀ b vs m ob, s.heap.get? b = some ob → ob.data = .seq vs m → d ≠ b := fun b vs m ob e1 e2 z => by
    obtain ⟨ob', es, ep, f1, f2⟩ := dict
    rw [z, e1] at f1
    cases f1
    rw [e2] at f2
    cases f2
  refine PySem.call_update_pairs (knd := mixKind X.prog X.w) (kvs := prs) (PySem.PairArg.list a (ps.map Value.ref).toArray (fun j => ps.getD j 0) pvs) (I.ok.hd hc) ⟨⟨o, n, ho, hcl, hdd, hdat⟩, by simp [pl1, hl], fun j k v e => ?_⟩ (fun m => ?_) ⟨by rw [pl1], fun i key v r => ?_⟩ dd (by rw [pl1, ← hl0, hl, hln]; exact hz) fun h' tk hd' hk => ?_
  · obtain ⟨b, q, f1, f2, _⟩ := pl2 j k v e
    rw [Nat.zero_add] at f1
    have : ps.getD j 0 = b := by rw [List.getD_eq_getElem?_getD, f1]; rfl
    exact ⟨by simp [f1, this], .inl (by show s.heap.IsTuple (ps.getD j 0) #[k, v]; rw [this]; exact f2)⟩
  · rcases List.mem_cons.mp m with rfl | m
    · exact nd _ _ _ _ ho hdat rfl
    · obtain ⟨j, hj, e⟩ := List.mem_map.mp m
      have hjl := List.mem_range.mp hj
      obtain ⟨⟨k, v⟩, ej⟩ : ∃ p, pvs[j]? = some p := ⟨pvs[j], List.getElem?_eq_getElem hjl⟩
      obtain ⟨b, q, f1, ⟨ob, g1, _, m2, g2⟩, _⟩ := pl2 j k v ej
      rw [Nat.zero_add] at f1
      have : ps.getD j 0 = b := by rw [List.getD_eq_getElem?_getD, f1]; rfl
      rw [this] at e
      subst e
      exact nd _ _ _ _ g1 g2 rfl
  · obtain ⟨b, q, _, _, f3, f4, f5⟩ := pl2 i key v r
    subst f4
    exact ⟨q.1, f3, f5⟩
  · have hlen : (mergeK kvs0 kvs).length ≤ sizeLine := Nat.le_trans (length_mergeK kvs kvs0) hz
    have hob : ∃ u, h'.get? d = some u := by
      obtain ⟨ob, _, _, e1, _⟩ := hd'
      exact ⟨ob, e1⟩
    exact ⟨.non, upd H d (.dK (mergeK kvs0 kvs)), I.write (x := d) (e := d) (by rw [hD]; trivial) (.inl rfl) (fun b u hb z => hk b u hb (fun z => nomatch z) z) hob (dk_new hlen hsm (KV.merge rel kv0) hd'), rfl, q⟩
/-- in its place, or at the end -/
def putI : List (Int × PyData) → Int → PyData → List (Int × PyData)
  | [], k, d => [(k, d)]
  | p :: r, k, d => if p.1 = k then (k, d) :: r else p :: putI r k d
def mergeI (kvs more : List (Int × PyData)) : List (Int × PyData) := more.foldl (fun acc q => putI acc q.1 q.2) kvs
def ndI (kvs : List (Int × PyData)) : Prop := (kvs.map Prod.fst).Nodup
theorem getI_none {k : Int} : ∀ {kvs : List (Int × PyData)}, getI kvs k = none ↔ k ∉ kvs.map Prod.fst
  | [] => by simp [getI]
  | p :: r => by
    unfold getI
    rw [List.map_cons, List.mem_cons]
    by_cases e : p.1 = k
    · rw [if_pos e]
      exact ⟨(fun z => by cases z), fun z => absurd (Or.inl e.symm) z⟩
    · rw [if_neg e, getI_none]
      exact ⟨fun h z => z.elim (fun y => e y.symm) h, fun h z => h (.inr z)⟩
theorem putI_new {k : Int} {d : PyData} : ∀ {kvs : List (Int × PyData)}, k ∉ kvs.map Prod.fst → putI kvs k d = kvs ++ [(k, d)]
  | [], _ => rfl
  | p :: r, h => by
    rw [List.map_cons, List.mem_cons, not_or] at h
    unfold putI
    rw [if_neg fun e => h.1 e.symm, putI_new h.2]
    rfl
theorem put_map {k : Int} {w : V} : ∀ {kvs : List (Int × PyData)} {ws : List V}, k ∉ kvs.map Prod.fst → (zipI kvs ws).map (fun kv => if kv.1 = (Sum.inl k : Key) then (kv.1, w) else kv) = zipI kvs ws
  | [], _, _ => rfl
  | _ :: _, [], _ => rfl
  | p :: r, v :: ws, h => by
    rw [List.map_cons, List.mem_cons, not_or] at h
    show (if (Sum.inl p.1 : Key) = Sum.inl k then _ else _) :: (zipI r ws).map _ = _
    rw [if_neg fun e => h.1 (Sum.inl.inj e).symm, put_map h.2]
    rfl
theorem putK_zip {K : PySem.W.Frag} {F : Hp} {k : Int} {d : PyData} {w : V} (hw : De K F w d) : ∀ {kvs : List (Int × PyData)} {ws : List V}, ndI kvs → DeAll K F ws (kvs.map Prod.snd) → ∃ ws', DeAll K F ws' ((putI kvs k d).map Prod.snd) ∧ putK (zipI kvs ws) (Sum.inl k) w = zipI (putI kvs k d) ws' := fun {kvs ws} hn hd => by
  by_cases hk : k ∈ kvs.map Prod.fst
  · have any : ((zipI kvs ws).any fun kv => decide (kv.1 = (Sum.inl k : Key))) = true := by
      rw [valV_any]
      rcases valI (k := k) hd with ⟨n, _⟩ | ⟨d', w', _, e2, _⟩
      · exact absurd hk (getI_none.mp n)
      · rw [e2]
        rfl
    unfold putK
    rw [if_pos any]
    clear any
    induction kvs generalizing ws with
    | nil => cases hk
    | cons p r ih =>
      cases hd with
      | cons h1 h2 =>
        rename_i v vs
        obtain ⟨n1, n2⟩ := List.nodup_cons.mp hn
        unfold putI
        by_cases e : p.1 = k
        · rw [if_pos e]
          refine ⟨w :: vs, .cons hw h2, ?_⟩
          show (if (Sum.inl p.1 : Key) = Sum.inl k then ((Sum.inl p.1 : Key), w) else _) :: (zipI r vs).map _ = _
          rw [if_pos (congrArg Sum.inl e), put_map (by rw [← e]; exact n1), e]
          rfl
        · rw [if_neg e]
          obtain ⟨ws', g1, g2⟩ := ih n2 h2 ((List.mem_cons.mp hk).resolve_left fun z => e z.symm)
          refine ⟨v :: ws', .cons h1 g1, ?_⟩
          show (if (Sum.inl p.1 : Key) = Sum.inl k then _ else ((Sum.inl p.1 : Key), v)) :: (zipI r vs).map _ = _
          rw [if_neg fun z => e (Sum.inl.inj z), g2]
          rfl
  · rw [putI_new hk]
    have n : valV (zipI kvs ws) (Sum.inl k) = none := by
      rcases valI (k := k) hd with ⟨_, n⟩ | ⟨d', w', e1, _⟩
      · exact n
      · rw [getI_none.mpr hk] at e1
        cases e1
    rw [putK_new w n]
    have hl : ws.length = kvs.length := by rw [dps_len hd, List.length_map]
    refine ⟨ws ++ [w], by rw [List.map_append]; exact dps_app hd (.cons hw .nil), ?_⟩
    unfold zipI
    rw [List.zipWith_append hl.symm]
    rfl
theorem putI_nd {k : Int} {d : PyData} : ∀ {kvs : List (Int × PyData)}, ndI kvs → ndI (putI kvs k d) ∧ ∀ x, x ∈ (putI kvs k d).map Prod.fst ↔ x = k ∨ x ∈ kvs.map Prod.fst
  | [], _ => ⟨by simp [ndI, putI], fun x => by simp [putI]⟩
  | p :: r, h => by
    obtain ⟨n1, n2⟩ := List.nodup_cons.mp h
    obtain ⟨g1, g2⟩ := putI_nd (k := k) (d := d) n2
    unfold putI
    by_cases e : p.1 = k
    · rw [if_pos e]
      refine ⟨List.nodup_cons.mpr ⟨by rw [← e]; exact n1, n2⟩, fun x => ?_⟩
      rw [List.map_cons, List.map_cons, List.mem_cons, List.mem_cons, e]
      exact ⟨fun z => .inr z, fun z => z.elim .inl id⟩
    · rw [if_neg e]
      refine ⟨List.nodup_cons.mpr ⟨fun z => ((g2 p.1).mp z).elim e n1, g1⟩, fun x => ?_⟩
      rw [List.map_cons, List.map_cons, List.mem_cons, List.mem_cons, g2]
      exact ⟨fun z => z.elim (fun y => .inr (.inl y)) fun y => y.elim .inl fun y => .inr (.inr y), fun z => z.elim (fun y => .inr (.inl y)) fun y => y.elim .inl fun y => .inr (.inr y)⟩
theorem mergeI_nd : ∀ {more kvs : List (Int × PyData)}, ndI kvs → ndI (mergeI kvs more)
  | [], _, h => h
  | q :: more, kvs, h => mergeI_nd (more := more) (putI_nd (k := q.1) (d := q.2) h).1
theorem mergeK_zip {K : PySem.W.Frag} {F : Hp} : ∀ {more kvs : List (Int × PyData)} {ws us : List V}, ndI kvs → DeAll K F ws (kvs.map Prod.snd) → DeAll K F us (more.map Prod.snd) →
    ∃ ws', DeAll K F ws' ((mergeI kvs more).map Prod.snd) ∧ mergeK (zipI kvs ws) (zipI more us) = zipI (mergeI kvs more) ws'
  | [], kvs, ws, us, _, hd, hu => ⟨ws, hd, rfl⟩
  | q :: more, kvs, ws, us, hn, hd, hu => by
    cases hu with
    | cons h1 h2 =>
      rename_i w us
      obtain ⟨w1, g1, g2⟩ := putK_zip (k := q.1) h1 hn hd
      obtain ⟨w2, f1, f2⟩ := mergeK_zip (more := more) (putI_nd (k := q.1) (d := q.2) hn).1 g1 h2
      refine ⟨w2, f1, ?_⟩
      show mergeK (putK (zipI kvs ws) (Sum.inl q.1) w) (zipI more us) = zipI (mergeI (putI kvs q.1 q.2) more) w2
      rw [g2, f2]
def prD (q : Int × PyData) : PyData := .tuple [.int q.1, q.2]
theorem pairs_de {K : PySem.W.Frag} {F H : Hp} (e : Same F H) : ∀ {more : List (Int × PyData)} {us : List V}, DeAll K F us (more.map prD) → ∃ (ps : List Addr) (vs : List V), us = ps.map V.ref ∧ Paired (fun p (kv : Key × V) => SqT K H p [kV kv.1, kv.2]) ps (zipI more vs) ∧ DeAll K F vs (more.map Prod.snd)
  | [], _, h => by
    cases h
    exact ⟨[], [], rfl, .nil, .nil⟩
  | q :: more, _, h => by
    cases h with
    | cons h1 h2 =>
      obtain ⟨ps, vs, rfl, g1, g2⟩ := pairs_de e h2
      obtain ⟨a, ws, rfl, f1, f2⟩ := dp_tup h1
      cases f2 with
      | cons k1 k2 =>
        cases k2 with
        | cons k2 k3 =>
          cases k3
          rw [dp_int k1] at f1
          exact ⟨a :: ps, _ :: vs, rfl, .cons (same_t e f1) g1, .cons k2 g2⟩
section
variable {X : Cx} {δ : Dl} {μ : Cells} {Q : Vd → Cells → Prop} {o e : Expr} {apos cpos : Pos}
/-- d.update(a list of pairs) -/
theorem we_update (hc : X.calm = true) (h : WE X o δ μ fun x μ1 => (∃ (p : Addr) (kvs : List (Int × PyData)) (j : Nat), x = .a p ∧ μ1[j]? = some (p, Cont.i kvs)) ∧ WE X e δ μ1 fun y μ2 => ∃ (p : Addr) (kvs more : List (Int × PyData)) (j : Nat), x = .a p ∧ μ2[j]? = some (p, Cont.i kvs) ∧ y = .d (.list (more.map prD)) ∧ ndI kvs ∧ kvs.length + more.length ≤ 100000 ∧ Q (.d .none) (μ2.set j (p, Cont.i (mergeI kvs more))))
    (hbase : attributeBase o "update" X.env (eval o X.env) = eval o X.env := by rfl)
    (hfew : ((backTo cpos (starEach [e] X.env)).all (fun x => !x.1) && (backToKw cpos (keywordEach [] X.env)).all (fun x => x.1.isSome)
      && decide ([e].length + ([] : List Keyword).length + (if ([] : List Keyword).isEmpty then 0 else 1) < 30)) = true := by rfl)
    (hline : (apos.endLine == cpos.line) = true := by rfl) (hs : starEach [e] X.env = (false, eval e X.env) :: starEach [] X.env := by rfl) (hplain : (backTo cpos (starEach [] X.env)).any (·.1) = false := by rfl) :
    WE X (.Call (.Attribute o "update" apos) [e] [] cpos) δ μ Q := fun F H σ R QV c =>
  toE (pe_bm PySem.F.plainAttrs_dict PySem.F.slot_dict_update PySem.F.type_dict_update (mt_updP hc) (pcE X o) (pcA X [e]) hbase hfew hline hs hplain) (h F H σ R _ fun v x F1 H1 μ1 w1 R1 o1 q => by
    obtain ⟨⟨p, kvs, j, rfl, hj⟩, q⟩ := q
    obtain ⟨_, ws, hd, hH⟩ := R1.m.cel _ _ (List.mem_of_getElem? hj)
    rw [show v = V.ref p from o1]
    have q' : WA X [e] δ μ1 (fun xs μ2 => ∃ y, xs = [y] ∧ ∃ (p' : Addr) (kvs more : List (Int × PyData)) (j : Nat), Vd.a p = .a p' ∧ μ2[j]? = some (p', Cont.i kvs) ∧ y = .d (.list (more.map prD)) ∧ ndI kvs ∧ kvs.length + more.length ≤ 100000 ∧ Q (.d .none) (μ2.set j (p', Cont.i (mergeI kvs more)))) := wa_one (q.mono fun y μ2 q => ⟨y, rfl, q⟩) hs
    refine ⟨.inr (.inr (.inl ⟨rfl, .inl ⟨_, hH⟩⟩)), q' F1 H1 σ R1 _ fun vs xs F2 H2 μ2 w2 R2 o2 q2 => ?_⟩
    obtain ⟨y, rfl, p', kvs', more, j', ep, hj', rfl, hn, hz, q2⟩ := q2
    cases ep
    cases o2 with
    | cons o2 o3 =>
      cases o3
      obtain ⟨_, ws', hd', hH'⟩ := R2.m.cel _ _ (List.mem_of_getElem? hj')
      obtain ⟨l, us, rfl, hl, hu⟩ := dp_lstX o2
      obtain ⟨ps, vs', rfl, g1, g2⟩ := pairs_de R2.m.ex hu
      obtain ⟨ws2, k1, k2⟩ := mergeK_zip hn hd' g2
      have l1 : (zipI kvs' ws').length = kvs'.length := zipI_len (by rw [dps_len hd', List.length_map])
      have l2 : (zipI more vs').length = more.length := zipI_len (by rw [dps_len g2, List.length_map])
      obtain ⟨m3, w3⟩ := R2.m.setO (o := .dK (mergeK (zipI kvs' ws') (zipI more vs'))) (es := Cont.i (mergeI kvs' more)) hj' ⟨ws2, k1, by rw [upd_same, k2]⟩
      exact ⟨p, l, _, ps, _, rfl, rfl, hH', .of (R2.m.ex _ _ hl), g1, by rw [l1, l2, sizeLine_eq]; omega, c .non (.d .none) F2 _ _ ((w1.trans w2).trans w3) (R2.to (Same.refl _) m3) .non q2⟩)
end
end Ec

set_option Elab.async false
set_option linter.all false
namespace Ec
open PySem PySem.Spec PyProof.Rows L2
/-! ### an easier company: more friends, lower needs -/
structure Wid (c c' : Co) : Prop where
  len : c'.length = c.length
  fr : ∀ p : Int, 0 ≤ p → p < c.length → ∀ x ∈ fr c p, x ∈ Ec.fr c' p
  nd : ∀ p : Int, 0 ≤ p → p < c.length → Ec.nd c' p ≤ Ec.nd c p
theorem fr_nodup {c : Co} (w : CoW c) {p : Int} (h0 : 0 ≤ p) (h1 : p < c.length) : (fr c p).Nodup := by
  have hl : p.toNat < c.length := by omega
  have e : c.getD p.toNat ([], 0) = c[p.toNat] := by rw [List.getD_eq_getElem?_getD, List.getElem?_eq_getElem hl]; rfl
  unfold fr
  rw [e]
  exact (w.up _ (List.getElem_mem hl)).imp fun h => by omega
theorem Wid.comes {c c' : Co} (h : Wid c c') (w : CoW c) (w' : CoW c') {t t' : List Int} (ht : ∀ x ∈ t, x ∈ t') {p : Int} (h0 : 0 ≤ p) (h1 : p < c.length) (hc : comes c t p = true) : comes c' t' p = true := by
  have hn := h.nd p h0 h1
  have hl : cnt c t p ≤ cnt c' t' p := by
    unfold cnt
    refine Int.ofNat_le.mpr (nodup_le ((fr_nodup w h0 h1).filter _) ((fr_nodup w' h0 (by rw [h.len]; exact h1)).filter _) fun x hx => ?_)
    rw [List.mem_filter] at hx ⊢
    exact ⟨h.fr p h0 h1 x hx.1, decide_eq_true (ht x (of_decide_eq_true hx.2))⟩
  unfold Ec.comes at *
  rw [decide_eq_true_eq] at *
  omega
theorem Wid.cl {c c' : Co} (h : Wid c c') (w : CoW c) (w' : CoW c') (b : List Int) : ∀ x ∈ cl c [] b, x ∈ Ec.cl c' [] b :=
  cl_in (S := fun x => x ∈ Ec.cl c' [] b) (fun p h0 h1 hb ⟨t, ht, hc⟩ => cl_shut c' [] b p h0 (by rw [h.len]; exact h1) hb ⟨t, ht, h.comes w w' (fun _ m => m) h0 h1 hc⟩) fun x m => by cases m
theorem cl_bar (c : Co) (b : List Int) : ∀ x ∈ cl c [] b, x ∉ b := cl_in (S := fun x => x ∉ b) (fun p _ _ hb _ => hb) fun x m => by cases m
theorem Wid.nexts {c c' : Co} (h : Wid c c') (w : CoW c) (w' : CoW c') {t : List Int} : ∀ x ∈ nexts c t, x ∈ Ec.nexts c' t := fun x hx => by
  obtain ⟨⟨h0, h1⟩, h2, h3⟩ := mem_nexts.mp hx
  exact mem_nexts.mpr ⟨⟨h0, by rw [h.len]; exact h1⟩, h2, h.comes w w' (fun _ m => m) h0 h1 h3⟩
theorem cl_lt {c : Co} (b : List Int) : (cl c [] b).Pairwise (· < ·) := by
  have nd : (cl c [] b).Nodup := cl_nodup List.nodup_nil
  exact ((srt_up _ : (cl c [] b).Pairwise (· ≤ ·)).and nd).imp fun ⟨h1, h2⟩ => by omega
theorem Wid.posb {c c' : Co} (h : Wid c c') (w : CoW c) (w' : CoW c') {t : List Int} (hu : t.Pairwise (· < ·)) (hp : posb c t = true) : Ec.posb c' t = true := by
  unfold Ec.posb at *
  rw [decide_eq_true_eq] at *
  rw [h.len]
  refine asc_one (cl_lt _) hu fun x => ⟨fun m => ?_, fun m => h.cl w w' _ x (by rw [hp]; exact m)⟩
  have h1 := cl_bar c' _ x m
  have h2 := cl_rng (c := c') (t := []) (b := (rng c.length).filter fun p => !decide (p ∈ t)) (fun x hx => by cases hx) x m
  rw [h.len] at h2
  have : ¬ (x ∈ rng c.length ∧ (!decide (x ∈ t)) = true) := fun z => h1 (List.mem_filter.mpr z)
  simpa [mem_rng.mpr h2] using this
theorem Wid.stk {c c' : Co} (h : Wid c c') (w : CoW c) (w' : CoW c') {t : List Int} (hr : Rg c.length t) (hs : stk c' t = true) : Ec.stk c t = true := by
  unfold Ec.stk at *
  rw [Bool.and_eq_true_iff] at *
  refine ⟨hs.1, ?_⟩
  have h2 := hs.2
  rw [Bool.not_eq_true', List.any_eq_false] at *
  intro x hx z
  have := h2 x hx
  rw [h.len] at this
  exact this (h.comes w w' (fun _ m => m) (hr x hx).1 (hr x hx).2 z)
theorem Wid.misL {c c' : Co} (h : Wid c c') (w : CoW c) (w' : CoW c') {r : List Int} (hr : Rg c.length r) (hm : misL c r = []) : Ec.misL c' r = [] := by
  rw [misL_iff] at *
  intro pre x post e
  have hx := hr x (by rw [e]; simp)
  exact h.comes w w' (fun _ m => m) hx.1 hx.2 (hm pre x post e)
theorem Wid.ord {c c' : Co} (h : Wid c c') (w : CoW c) (w' : CoW c') {r : List Int} (hr : IsOrd c r) : IsOrd c' r := by
  refine misL_ord (by rw [h.len]; exact hr.row) (h.misL w w' hr.po.rg (misL_nil hr.po))
theorem Wid.nev {c c' : Co} (h : Wid c c') (w : CoW c) (w' : CoW c') (hn : nev c = []) : Ec.nev c' = [] := by
  unfold Ec.nev at *
  rw [List.filter_eq_nil_iff] at *
  rw [h.len]
  intro x hx z
  have := hn x hx
  simp at this z
  exact z (h.cl w w' [] x this)
end Ec

set_option Elab.async false
set_option linter.all false
namespace Ec
open PySem PySem.Spec PyProof.Rows L2
/-! ### possible sets, stuck sets, rounds -/
def cmp (c : Co) (t : List Int) : List Int := (rng c.length).filter fun p => !decide (p ∈ t)
theorem mem_cmp {c : Co} {t : List Int} {x : Int} : x ∈ cmp c t ↔ (0 ≤ x ∧ x < c.length) ∧ x ∉ t := by
  unfold cmp
  rw [List.mem_filter, mem_rng]
  simp
theorem posb_def (c : Co) (t : List Int) : posb c t = decide (cl c [] (cmp c t) = t) := rfl
theorem nexts_congr {c : Co} {s t : List Int} (h : ∀ x, x ∈ s ↔ x ∈ t) : nexts c s = nexts c t := by
  unfold nexts
  have e : ((rng c.length).filter fun p => !decide (p ∈ s)) = (rng c.length).filter fun p => !decide (p ∈ t) := List.filter_congr fun x _ => by rw [show decide (x ∈ s) = decide (x ∈ t) from decide_eq_decide.mpr (h x)]
  rw [e]
  exact List.filter_congr fun x _ => comes_same h x
/-- fewer are barred: more come -/
theorem cl_anti {c : Co} {a b : List Int} (h : ∀ x : Int, 0 ≤ x → x < c.length → x ∈ b → x ∈ a) : ∀ x ∈ cl c [] a, x ∈ cl c [] b :=
  cl_in (S := fun x => x ∈ cl c [] b) (fun p h0 h1 hb ht => cl_shut c [] b p h0 h1 (fun z => hb (h p h0 h1 z)) ht) fun x m => by cases m
theorem clw_rg (c : Co) (b : List Int) : ∀ x ∈ cl c [] b, 0 ≤ x ∧ x < c.length := cl_rng fun x m => by cases m
structure Ps (c : Co) (t : List Int) : Prop where
  up : t.Pairwise (· < ·)
  rg : Rg c.length t
  inn : ∀ x ∈ t, x ∈ cl c [] (cmp c t)
theorem Ps.posb {c : Co} {t : List Int} (h : Ps c t) : Ec.posb c t = true := by
  rw [posb_def, decide_eq_true_eq]
  refine asc_one (cl_lt _) h.up fun x => ⟨fun m => ?_, h.inn x⟩
  by_cases z : x ∈ t
  · exact z
  · exact absurd (mem_cmp.mpr ⟨clw_rg c _ x m, z⟩) (cl_bar c _ x m)
theorem Ps.gr {c : Co} {t : List Int} (h : Ps c t) : ∀ x ∈ t, x ∈ Ec.gr c := fun x m => cl_anti (fun x _ _ z => by cases z) x (h.inn x m)
theorem Ps.nil (c : Co) : Ps c [] := ⟨.nil, fun x m => (by cases m), fun x m => by cases m⟩
theorem srt_lt {l : List Int} (h : l.Nodup) : (srt l).Pairwise (· < ·) :=
  ((srt_up l).and ((srt_perm l).nodup_iff.mpr h)).imp fun ⟨h1, h2⟩ => by omega
/-- possible ones together, and some more who can come then -/
theorem Ps.more {c : Co} {t s : List Int} (h : Ps c t) (hs : ∀ x ∈ s, x ∈ nexts c t) (hn : s.Nodup) : Ps c (srt (t ++ s)) := by
  have hm : ∀ x, x ∈ srt (t ++ s) ↔ x ∈ t ∨ x ∈ s := fun x => by rw [mem_srt, List.mem_append]
  have htc : ∀ x ∈ t, x ∈ cl c [] (cmp c (srt (t ++ s))) := fun x m => cl_anti (fun y h0 h1 z => mem_cmp.mpr ⟨⟨h0, h1⟩, fun w => (mem_cmp.mp z).2 ((hm y).mpr (.inl w))⟩) x (h.inn x m)
  have hd : (t ++ s).Nodup := List.nodup_append.mpr ⟨h.up.imp fun z => by omega, hn, fun x mx y my e => by
    subst e
    exact (mem_nexts.mp (hs x my)).2.1 mx⟩
  refine ⟨srt_lt hd, fun x m => ?_, fun x m => ?_⟩
  · rcases (hm x).mp m with m | m
    · exact h.rg x m
    · exact (mem_nexts.mp (hs x m)).1
  · rcases (hm x).mp m with m2 | m2
    · exact htc x m2
    · obtain ⟨⟨h0, h1⟩, _, h3⟩ := mem_nexts.mp (hs x m2)
      exact cl_shut c [] _ x h0 h1 (fun z => (mem_cmp.mp z).2 m) ⟨t, htc, h3⟩
theorem Ps.both {c : Co} {a b u : List Int} (h : Ps c a) (g : Ps c b) (hu : u.Pairwise (· < ·)) (hm : ∀ x, x ∈ u ↔ x ∈ a ∨ x ∈ b) : Ps c u := by
  refine ⟨hu, fun x m => ((hm x).mp m).elim (h.rg x) (g.rg x), fun x m => ?_⟩
  have an : ∀ {t : List Int}, (∀ x ∈ t, x ∈ u) → ∀ x ∈ cl c [] (cmp c t), x ∈ cl c [] (cmp c u) := fun ht => cl_anti fun y h0 h1 z => mem_cmp.mpr ⟨⟨h0, h1⟩, fun w => (mem_cmp.mp z).2 (ht y w)⟩
  rcases (hm x).mp m with m | m
  · exact an (fun y w => (hm y).mpr (.inl w)) x (h.inn x m)
  · exact an (fun y w => (hm y).mpr (.inr w)) x (g.inn x m)
theorem gr_shut {c : Co} {p : Int} (h0 : 0 ≤ p) (h1 : p < c.length) {t : List Int} (ht : ∀ x ∈ t, x ∈ gr c) (hc : comes c t p = true) : p ∈ gr c := cl_shut c [] [] p h0 h1 (fun z => by cases z) ⟨t, ht, hc⟩
theorem gr_lt (c : Co) : (gr c).Pairwise (· < ·) := cl_lt _
theorem Ps.all (c : Co) : Ps c (Ec.gr c) := by
  refine ⟨gr_lt c, gr_rng c, ?_⟩
  refine cl_in (S := fun x => x ∈ cl c [] (cmp c (Ec.gr c))) (fun p h0 h1 _ ⟨t, ht, hc⟩ => ?_) fun x m => by cases m
  refine cl_shut c [] _ p h0 h1 (fun z => (mem_cmp.mp z).2 (gr_shut h0 h1 (fun x m => ?_) hc)) ⟨t, ht, hc⟩
  exact cl_anti (fun y _ _ w => by cases w) x (ht x m)
theorem nexts_gr (c : Co) : nexts c (gr c) = [] := by
  rw [List.eq_nil_iff_forall_not_mem]
  intro x m
  obtain ⟨⟨h0, h1⟩, h2, h3⟩ := mem_nexts.mp m
  exact h2 (gr_shut h0 h1 (fun _ z => z) h3)
theorem mem_nev {c : Co} {x : Int} : x ∈ nev c ↔ (0 ≤ x ∧ x < c.length) ∧ x ∉ gr c := mem_cmp
theorem nev_lt (c : Co) : (nev c).Pairwise (· < ·) := (rng_lt _).filter _
theorem all_sorted (c : Co) : srt (gr c ++ nev c) = rng c.length := by
  refine srt_one ((srt_perm _).trans (perm_of_mem ?_ (rng_nodup _) fun x => ?_)) (srt_up _) (rng_up _)
  · refine List.nodup_append.mpr ⟨gr_nodup c, (rng_nodup _).filter _, fun x mx y my e => ?_⟩
    subst e
    exact (mem_nev.mp my).2 mx
  · rw [List.mem_append, mem_rng, mem_nev]
    exact ⟨fun h => h.elim (gr_rng c x) fun z => z.1, fun h => by
      by_cases z : x ∈ gr c
      · exact .inl z
      · exact .inr ⟨h, z⟩⟩
/-- stuck: none of them can come after all others -/
theorem comes_fr {c : Co} (w : CoW c) {s t : List Int} {p : Int} (h0 : 0 ≤ p) (h1 : p < c.length) (h : ∀ x : Int, 0 ≤ x → x < c.length → x ∈ s → x ∈ t) (hc : comes c s p = true) : comes c t p = true := by
  have hl : cnt c s p ≤ cnt c t p := by
    unfold cnt
    refine Int.ofNat_le.mpr (nodup_le ((fr_nodup w h0 h1).filter _) ((fr_nodup w h0 h1).filter _) fun x hx => ?_)
    rw [List.mem_filter] at hx ⊢
    have hr := fr_rg w h0 h1 x hx.1
    exact ⟨hx.1, decide_eq_true (h x hr.1 hr.2 (of_decide_eq_true hx.2))⟩
  unfold Ec.comes at *
  rw [decide_eq_true_eq] at *
  omega
theorem stk_nev {c : Co} (w : CoW c) {t : List Int} (hr : Rg c.length t) (hs : stk c t = true) : ∀ x ∈ t, x ∈ nev c := by
  unfold stk at hs
  rw [Bool.and_eq_true_iff, Bool.not_eq_true', Bool.not_eq_true', List.any_eq_false] at hs
  have key : ∀ x ∈ gr c, x ∉ t := cl_in (S := fun x => x ∉ t) (fun p h0 h1 _ ⟨s, hs2, hc⟩ m => hs.2 p m (comes_fr w h0 h1 (fun x g0 g1 z => mem_cmp.mpr ⟨⟨g0, g1⟩, hs2 x z⟩) hc)) fun x m => by cases m
  exact fun x m => mem_nev.mpr ⟨hr x m, fun z => key x z m⟩
theorem stk_never (c : Co) : stk c (nev c) = !(nev c).isEmpty := by
  unfold stk
  have : ((nev c).any fun p => comes c ((rng c.length).filter fun p => !decide (p ∈ nev c)) p) = false := by
    rw [List.any_eq_false]
    intro x m z
    obtain ⟨⟨h0, h1⟩, h2⟩ := mem_nev.mp m
    refine h2 (gr_shut h0 h1 (fun y my => ?_) z)
    obtain ⟨g1, g2⟩ := mem_cmp.mp my
    by_cases q : y ∈ gr c
    · exact q
    · exact absurd (mem_nev.mpr ⟨g1, q⟩) g2
  rw [this]
  simp
/-! ### rounds -/
theorem rnds_at {c : Co} : ∀ (n : Nat) (t : List Int) (i : Nat) (s : List Int), (rnds n c t [])[i]? = some s → s = nexts c (t ++ ((rnds n c t []).take i).flatten) ∧ s ≠ []
  | 0, _, _, _, h => by cases h
  | n + 1, t, i, s, h => by
    unfold rnds at h ⊢
    rw [stp_nil] at h ⊢
    split at h
    · cases h
    · rename_i hne
      rw [if_neg hne]
      cases i with
      | zero =>
        cases h
        exact ⟨by simp, hne⟩
      | succ i =>
        rw [List.getElem?_cons_succ] at h
        obtain ⟨h1, h2⟩ := rnds_at n _ i s h
        refine ⟨?_, h2⟩
        rw [List.take_succ_cons, List.flatten_cons, ← List.append_assoc]
        exact h1
/-- all who have come after i rounds -/
def sof (c : Co) (i : Nat) : List Int := srt ((AR c [] []).take i).flatten
theorem srt_nil : srt [] = [] := List.Perm.eq_nil (srt_perm [])
theorem sof_zero (c : Co) : sof c 0 = [] := by
  unfold sof
  rw [List.take_zero]
  exact srt_nil
theorem sof_all (c : Co) : sof c (AR c [] []).length = gr c := by
  unfold sof gr cl
  rw [List.take_length]
  rfl
theorem AR_at {c : Co} {i : Nat} {s : List Int} (h : (AR c [] [])[i]? = some s) : s = nexts c (sof c i) ∧ s ≠ [] := by
  obtain ⟨h1, h2⟩ := rnds_at _ _ i s h
  refine ⟨h1.trans (nexts_congr fun x => ?_), h2⟩
  unfold sof AR
  rw [mem_srt]
  simp
theorem sof_succ {c : Co} {i : Nat} {s : List Int} (h : (AR c [] [])[i]? = some s) : srt (sof c i ++ s) = sof c (i + 1) := by
  unfold sof
  refine srt_one ((srt_perm _).trans (((srt_perm _).append_right _).trans ?_)) (srt_up _) (srt_up _)
  refine List.Perm.trans ?_ (srt_perm _).symm
  have e : (AR c [] []).take (i + 1) = (AR c [] []).take i ++ [s] := by
    rw [List.take_add_one, h]
    rfl
  rw [e, List.flatten_append]
  simp
theorem Ps.sof (c : Co) : ∀ i, i ≤ (AR c [] []).length → Ps c (Ec.sof c i)
  | 0, _ => by
    rw [sof_zero]
    exact Ps.nil c
  | i + 1, h => by
    have hi : i < (AR c [] []).length := h
    have e := List.getElem?_eq_getElem hi
    obtain ⟨h1, _⟩ := AR_at e
    rw [← sof_succ e]
    refine (Ps.sof c i (Nat.le_of_lt hi)).more (fun x m => by rw [h1] at m; exact m) ?_
    rw [h1]
    exact (nexts_up c _).imp fun z => by omega
end Ec

set_option Elab.async false
set_option linter.all false
set_option maxRecDepth 100000
set_option maxHeartbeats 4000000
/-! comprehensions that draw from the box -/
namespace Ec
open PySem PySem.Spec PyProof.Rows L2
section
variable {X : Cx} {δ : Dl} {μ : Cells} {Q : Vd → Cells → Prop}
theorem lcS (xs : List Int) (pre : Cells) (b : Addr) (m cost : Nat) (P : Int → Bool → Prop) {elt tg iter : Expr} {ifs : List Expr} {scope : Scope} {own : List (Str × Nat)}
    (h : WI X tg iter δ μ fun ds μ1 => ∃ bs0, ds = intsD xs ∧ μ1 = (pre ++ [(b, Cont.l bs0)] : Cells) ∧ BoxOk m bs0 ∧ xs.length ≤ 100000 ∧
      (∀ x ∈ xs, ∀ i bs', i < xs.length → BoxOk (m + cost * i) bs' → Blk X scope fun Y => WGo Y (own.map (·.2)) tg (.d (.int x)) (wipeD δ (own.map (·.2))) (pre ++ [(b, Cont.l bs')] : Cells) fun δ2 μ2 => Blk X scope fun Y => WTs Y ifs δ2 μ2 fun k μ3 =>
        ∃ bs2, μ3 = (pre ++ [(b, Cont.l bs2)] : Cells) ∧ BoxOk (m + cost * (i + 1)) bs2 ∧ P x k ∧ (k = true → Blk X scope fun Y => WE Y elt δ2 μ3 fun y μ4 => y = .d (.int x) ∧ μ4 = μ3)) ∧
      ∀ ns bs' p, ns.Sublist xs → (∀ x ∈ ns, P x true) → (∀ x ∈ xs, x ∉ ns → P x false) → BoxOk (m + cost * xs.length) bs' → Q (.a p) ((p, Cont.l (intsD ns)) :: (pre ++ [(b, Cont.l bs')]))) :
    LcP X scope own elt tg iter ifs δ μ Q := fun F H σ R RV c => h F H σ R RV fun J ds F1 H1 μ1 w1 R1 wk q => c J ds F1 H1 μ1 w1 R1 wk (by
  obtain ⟨bs0, rfl, rfl, hb0, hlen, hx, hend⟩ := q
  refine ⟨fun i acc μ' => ∃ ns bs', acc = intsD ns ∧ ns.Sublist (xs.take i) ∧ (∀ x ∈ ns, P x true) ∧ (∀ x ∈ xs.take i, x ∉ ns → P x false) ∧ μ' = (pre ++ [(b, Cont.l bs')] : Cells) ∧ BoxOk (m + cost * i) bs',
    ⟨[], bs0, rfl, List.nil_sublist _, fun x z => (by cases z), fun x z => by simp at z, rfl, hb0⟩, by rw [List.length_map]; exact hlen, fun i acc μ' hI => ?_, fun i d acc μ' hd hI => ?_, fun acc μ' hI p => ?_⟩
  · obtain ⟨ns, bs', rfl, hs, _⟩ := hI
    rw [List.length_map]
    refine Nat.le_trans hs.length_le ?_
    rw [List.length_take]
    exact Nat.min_le_left _ _
  · obtain ⟨ns, bs', rfl, hs, h1, h2, rfl, hb⟩ := hI
    obtain ⟨x, ex, rfl⟩ := map_item hd
    have hi : i < xs.length := (List.getElem?_eq_some_iff.mp ex).1
    have tk : xs.take (i + 1) = xs.take i ++ [x] := by
      rw [List.take_add_one, ex]
      rfl
    intro s0 H0 C0 cl0 fp0 F3 H3 σ3 R3 v o3 QV c3
    refine hx x (List.mem_of_getElem? ex) i bs' hi hb s0 H0 C0 cl0 fp0 F3 H3 σ3 R3 v o3 QV fun F' H' σ' δ' μ' w' R' y' q' => c3 F' H' σ' δ' μ' w' R' y' ?_
    have up : ∀ k μ3, (∃ bs2, μ3 = (pre ++ [(b, Cont.l bs2)] : Cells) ∧ BoxOk (m + cost * (i + 1)) bs2 ∧ P x k ∧ (k = true → Blk X scope fun Y => WE Y elt δ' μ3 fun y μ4 => y = .d (.int x) ∧ μ4 = μ3)) →
        if k = true then Blk X scope fun Y => WE Y elt δ' μ3 fun y μ4 => ∃ yd, y = .d yd ∧ ∃ ns2 bs3, intsD ns ++ [yd] = intsD ns2 ∧ ns2.Sublist (xs.take (i + 1)) ∧ (∀ x ∈ ns2, P x true) ∧ (∀ x ∈ xs.take (i + 1), x ∉ ns2 → P x false) ∧ μ4 = (pre ++ [(b, Cont.l bs3)] : Cells) ∧ BoxOk (m + cost * (i + 1)) bs3
        else ∃ ns2 bs3, intsD ns = intsD ns2 ∧ ns2.Sublist (xs.take (i + 1)) ∧ (∀ x ∈ ns2, P x true) ∧ (∀ x ∈ xs.take (i + 1), x ∉ ns2 → P x false) ∧ μ3 = (pre ++ [(b, Cont.l bs3)] : Cells) ∧ BoxOk (m + cost * (i + 1)) bs3 := by
      rintro k μ3 ⟨bs2, rfl, hb2, hp, he⟩
      cases k with
      | false =>
        refine ⟨ns, bs2, rfl, ?_, h1, fun y my ny => ?_, rfl, hb2⟩
        · rw [tk]
          exact hs.trans (List.sublist_append_left _ _)
        · rw [tk] at my
          rcases List.mem_append.mp my with my | my
          · exact h2 y my ny
          · rw [List.mem_singleton.mp my]
            exact hp
      | true =>
        intro s4 H4 C4 cl4 fp4
        refine (he rfl s4 H4 C4 cl4 fp4).mono fun y μ4 q => ?_
        obtain ⟨rfl, rfl⟩ := q
        refine ⟨_, rfl, ns ++ [x], bs2, by simp [intsD], ?_, fun y my => ?_, fun y my ny => ?_, rfl, hb2⟩
        · rw [tk]
          exact hs.append (List.Sublist.refl _)
        · rcases List.mem_append.mp my with my | my
          · exact h1 y my
          · rw [List.mem_singleton.mp my]
            exact hp
        · rw [List.mem_append, not_or] at ny
          rw [tk] at my
          rcases List.mem_append.mp my with my | my
          · exact h2 y my ny.1
          · exact absurd my ny.2
    intro s1 H1 C1 cl1 fp1
    have q1 := q' s1 H1 C1 cl1 fp1
    match ifs, q1 with
    | [], q1 => exact up true _ q1
    | [cnd], q1 => exact WT.mono (e := cnd) q1 fun k μ3 z => up k μ3 z
    | _ :: _ :: _, q1 => exact q1.elim
  · obtain ⟨ns, bs', rfl, hs, h1, h2, rfl, hb⟩ := hI
    rw [List.length_map] at hs h2 hb
    rw [List.take_length] at hs h2
    exact hend ns bs' p hs h1 h2 hb)
end
end Ec

set_option Elab.async false
set_option linter.all false
set_option maxRecDepth 100000
set_option maxHeartbeats 4000000
/-! exceptions of own classes with a field, straight over a built-in class -/
namespace Ec
open PySem PySem.Spec PyProof.Rows L2
/-- a built-in class under own exception classes -/
structure Bas (B newId initId : String) (bmB : List Value) : Prop where
  F : ExcBaseFacts B newId initId bmB
  S : StoreFacts B bmB "object.__setattr__" "object"
  tl : PySem.W.excTail bmB bmB = true
  ty : typeOf (.type B) = pure (.type "type")
  bt : ∃ x : Str, bootBuiltins x = some (.type B)
theorem bas_VE : Bas "ValueError" "ValueError.__new__" "ValueError.__init__" [.type "ValueError", .type "Exception", .type "BaseException", .type "object"] :=
  ⟨F.excBase_ValueError, F.store_ValueError, by decide +kernel, by kernel_rfl, "ValueError", by kernel_rfl⟩
theorem bas_LE : Bas "LookupError" "LookupError.__new__" "LookupError.__init__" [.type "LookupError", .type "Exception", .type "BaseException", .type "object"] :=
  ⟨F.excBase_LookupError, F.store_LookupError, by decide +kernel, by kernel_rfl, "LookupError", by kernel_rfl⟩
theorem bas_RE : Bas "RuntimeError" "RuntimeError.__new__" "RuntimeError.__init__" [.type "RuntimeError", .type "Exception", .type "BaseException", .type "object"] :=
  ⟨F.excBase_RuntimeError, F.store_RuntimeError, by decide +kernel, by kernel_rfl, "RuntimeError", by kernel_rfl⟩
theorem bas_OE : Bas "OverflowError" "OverflowError.__new__" "OverflowError.__init__" [.type "OverflowError", .type "ArithmeticError", .type "Exception", .type "BaseException", .type "object"] :=
  ⟨F.excBase_OverflowError, F.store_OverflowError, by decide +kernel, by kernel_rfl, "OverflowError", by kernel_rfl⟩
/-- what the written part says of an own class -/
structure Oxg (K : PySem.W.Frag) (C : Addr) (newId : String) (bmB : List Value) : Prop where
  cl : ∃ nm q N bs sn sub ab col dd k0 k1 k2 k3 k5, K.lookup C = some (excClassObj nm q C N bs bmB true sn sub ab col dd k0 k1 k2 k3 k5 newId)
  sa : PySem.W.findIn K (.ref C) "__setattr__" = some (some (.builtin "object.__setattr__"))
  exC : PySem.W.subIn K (.ref C) (.type "BaseException") = some true
  tyC : PySem.W.typeIn K (.ref C) = some (.type "type")
  kC : PySem.W.keepIn K (.ref C) = true
section
variable {X : Cx} {pins : List (Addr × Obj)} {σ : L2.St} {H : Hp} {s : Shared} {a C dx : Addr} {f : Str} {y : V} {u : Value} {E : Value → Shared → Prop} {A : Around} {B newId initId : String} {bmB : List Value}
theorem Oxg.obj (T : Oxg X.K C newId bmB) (I : Inv X pins σ H s) : ∃ nm q N bs sn sub ab col dd k0 k1 k2 k3 k5, s.heap.get? C = some (excClassObj nm q C N bs bmB true sn sub ab col dd k0 k1 k2 k3 k5 newId) := by
  obtain ⟨nm, q, N, bs, sn, sub, ab, col, dd, k0, k1, k2, k3, k5, h⟩ := T.cl
  exact ⟨nm, q, N, bs, sn, sub, ab, col, dd, k0, k1, k2, k3, k5, I.kIn _ _ h⟩
/-- B.__init__(self, ..) -/
theorem ini_base {us : List Value} {Q : Value → Shared → Prop} (Z : Bas B newId initId bmB) (T : Oxg X.K C newId bmB) (I : Inv X pins σ H s) (e : H a = some (exo a C none)) (hl : us.length ≤ sizeLine) (h : ∀ s', Inv X pins σ H s' → Q .none s') :
    wpAny (model X.prog X.w) A (call (.builtin initId) (.ref a :: us)) Q E s := by
  obtain ⟨nm, q, N, bs, sn, sub, ab, col, dd, k0, k1, k2, k3, k5, hC⟩ := T.obj I
  obtain ⟨t1, ho⟩ := exo_at I.hok e
  obtain ⟨hp, g, d, t, os⟩ := s
  refine wpAny_call (PySem.HandSPX.init_base Z.F (fun _ => rfl) hC ho hl fun h' t2 k hx => ?_)
  have same : upd H a (exo a C none) = H := by
    funext b
    by_cases hb : b = a
    · rw [hb, upd_same, e]
    · rw [upd_ne hb]
  have J := I.write (t' := t) (x := a) (e := a) (o := exo a C none) (by rw [e]; trivial) (.inl rfl) k ⟨_, hx⟩ (exo_ok hx)
  rw [same] at J
  exact h _ J
/-- self.f = y -/
theorem sto_base {Q : Unit → Shared → Prop} (Z : Bas B newId initId bmB) (T : Oxg X.K C newId bmB) (I : Inv X pins σ H s) (e : H a = some (exo a C none)) (hno : PySem.W.findIn X.K (.ref C) f = some none) (ry : RelV y u)
    (h : ∀ dx s', H dx = none → dx ≠ a → Inv X pins σ (upd (upd H dx (exd dx [(f, y)])) a (exo a C (some dx))) s' → Q () s') : wpAny (model X.prog X.w) A (setAttr (.ref a) f u) Q E s := by
  obtain ⟨nm, q, N, bs, sn, sub, ab, col, dd, k0, k1, k2, k3, k5, hC⟩ := T.cl
  have hcl : PySem.W.clsIn X.K C = some { name := nm, bases := bs, mro := .ref C :: bmB, ns := N, qualname := q, hasDict := true, slotNames := sn, subclasses := sub, abstract := ab, collection := col, hasDel := false } := by
    unfold PySem.W.clsIn
    rw [hC]
  have hov : PySem.W.excOver X.K C bmB = true := by
    unfold PySem.W.excOver
    rw [hcl]
    show (C == C && PySem.W.excTail bmB bmB) = true
    rw [Z.tl, beq_self_eq_true]
    rfl
  have htk : PySem.W.takerIn X.K C f = some none := by
    unfold PySem.W.takerIn
    rw [hno]
    rfl
  obtain ⟨t1, ho⟩ := exo_at I.hok e
  obtain ⟨hp, g, d, t, os⟩ := s
  have hcls : PySem.W.Looks (model X.prog X.w) hp (classData C) _ := PySem.W.looks_clsIn I.kIn hcl
  have hxs : a ≠ hp.objs.size := Nat.ne_of_lt (Heap.lt_size ho)
  refine PySem.W.set_plain I.kIn (ox := { cls := .ref C, dict := none, data := .fields #[.ref t1, .none, .none, .none, .bool false, .none] }) (od := none) ⟨ho, rfl, rfl, trivial⟩ T.sa ?_
  refine PySem.W.osa_openX (od := none) Z.S I.kIn ⟨ho, rfl, rfl, trivial⟩ hov htk fun b => ?_
  show wpAny _ _ (Builtin.ObjectAttr.storeInOwnDict (.ref a) (.ref C) (.str f t) f u b) _ _ _
  unfold Builtin.ObjectAttr.storeInOwnDict Builtin.ObjectAttr.ownDictForStores
  repeat (first | with_reducible refine PySem.HandSPX.store_in_new ?_ ?_ | with_reducible refine wpAny_loadPart_at ho ?_ | with_reducible refine hcls.at ?_ | wp_step)
  · exact ⟨_, #[], _, (Heap.get?_update_ne _ _ _ _ hxs.symm).trans (Heap.get?_push_at rfl rfl), rfl, fun e he => absurd he (by simp), fun _ => rfl⟩
  · intro h' tk' hn hs
    have h1 : (hp.push { cls := .type "dict", data := .dict #[] }).get? a = some { cls := .ref C, dict := none, data := .fields #[.ref t1, .none, .none, .none, .bool false, .none] } := Heap.get?_push_of_some _ ho
    have k : ∀ b o, b ≠ a → hp.get? b = some o → h'.get? b = some o := fun b o hb q => (hs.2 b (Nat.ne_of_lt (Heap.lt_size q))).trans ((Heap.get?_update_ne _ _ _ _ hb).trans (Heap.get?_push_of_some _ q))
    have hx : h'.get? a = some { cls := .ref C, dict := some hp.objs.size, data := .fields #[.ref t1, .none, .none, .none, .bool false, .none] } := (hs.2 a hxs).trans (Heap.get?_update_self _ h1 rfl)
    have hnd : H hp.objs.size = none := I.hok.fresh (Nat.le_refl _)
    have nd : ∀ {b : Addr} {o : Obj}, hp.get? b = some o → b ≠ hp.objs.size := fun q => Nat.ne_of_lt (Heap.lt_size q)
    have na : ∀ {b : Addr}, H b = none → b ≠ a := fun n z => by
      rw [z, e] at n
      cases n
    have U : Un X.fs [] H (upd (upd H hp.objs.size (exd hp.objs.size [(f, y)])) a (exo a C (some hp.objs.size))) hp h' := {
      keep := fun b o q n _ _ => k b o (na n) q
      slot := fun b o q n _ _ => ⟨o.slots, k b o (na n) q⟩
      free := fun b o q n _ => by
        rw [upd_ne (na n), upd_ne (nd q)]
        exact n
      there := fun b o q _ => by
        by_cases hb : b = a
        · exact ⟨_, by rw [hb]; exact hx⟩
        · exact ⟨o, k b o hb q⟩
      tups := fun b xs q => by
        rw [upd_ne (at_ne e q exo_tup), upd_ne (ne_of_none q hnd)]
        exact q
      frzs := fun b o v q => by
        rw [upd_ne (at_ne e q exo_frz), upd_ne (ne_of_none q hnd)]
        exact q
      tbls := fun b ps q => ⟨#[], by
        rw [upd_ne (at_ne e q exo_tbl), upd_ne (ne_of_none q hnd), q]
        simp⟩ }
    refine h hp.objs.size _ hnd hxs.symm (I.un (t' := tk') U fun b o q => ?_)
    by_cases hb : b = a
    · subst hb
      rw [upd_same] at q
      cases q
      exact exo_ok hx
    · rw [upd_ne hb] at q
      by_cases hd : b = hp.objs.size
      · subst hd
        rw [upd_same] at q
        cases q
        exact exd_ok hn (relO_put (fs := []) ry fun g => trivial)
      · rw [upd_ne hd] at q
        refine (I.hok b o q).stay (fun c v hc z => k c v ?_ z) (fun c hc => ?_) fun c xs hc => ?_
        · rcases hc with hc | hc
          · rw [hc]
            exact hb
          · exact at_ne e hc exo_own
        · rw [upd_ne (at_ne e hc exo_own), upd_ne (ne_of_none hc hnd)]
          exact hc
        · rw [upd_ne (at_ne e hc exo_tup), upd_ne (ne_of_none hc hnd)]
          exact hc
end
/-! ### rules -/
/-- B.__init__(self, ..) -/
def tIni (K : PySem.W.Frag) (newId : String) (bmB : List Value) (ta : TA) : TE := fun σ H Q => ta σ H fun vs H1 => ∃ (a C : Addr) (ws : List V), vs = .ref a :: ws ∧ ws.length ≤ 1000 ∧ Oxg K C newId bmB ∧ H1 a = some (exo a C none) ∧ Q .non H1
/-- self.f = e -/
def tSto (K : PySem.W.Frag) (newId : String) (bmB : List Value) (f : Str) (to te : TE) : TS := fun D σ H => te σ H fun y H1 => to σ H1 fun x H2 => ∃ a C : Addr, x = .ref a ∧ Oxg K C newId bmB ∧ PySem.W.findIn K (.ref C) f = some none ∧ H2 a = some (exo a C none) ∧
  ∀ dx, H2 dx = none → dx ≠ a → D.nx σ (upd (upd H2 dx (exd dx [(f, y)])) a (exo a C (some dx)))
section
variable {X : Cx} {B newId initId : String} {bmB : List Value} {x f : Str} {o e : Expr} {es : List Expr} {to te : TE} {ta : TA} {p p' p1 p2 pos : Pos}
theorem pe_ini {pl : Sem Bool} (Z : Bas B newId initId bmB) (hg : Gl X x) (hm : X.mg x = none) (hv : bootBuiltins x = some (.type B)) (vV : PySem.W.findCls X.K (.type B) (.type "type") "__init__" = some (.val (.builtin initId)))
    (hst : Manifest.isStub B = false) (hh : PySem.W.handedIn (.builtin initId) = true) (hn : x ≠ "__name__") (hdb : (x == ("__debug__" : Str)) = false) (ha : PA X (e :: es) ta)
    (hc : eval (.Call (.Attribute (.Name x p1) "__init__" p2) (e :: es) [] pos) X.env = (do
      let ov ← eval (.Name x p1) X.env
      standAt p2.atName
      let (g, first) ← holding [ov] (getMethod ov "__init__" pl)
      callWith pos g first (backTo pos (starEach (e :: es) X.env)) (backToKw pos (keywordEach [] X.env))) := by rfl)
    (he : starEach (e :: es) X.env = (false, eval e X.env) :: starEach es X.env := by rfl) (hpl : (backTo pos (starEach es X.env)).any (·.1) = false := by rfl) :
    PE X (.Call (.Attribute (.Name x p1) "__init__" p2) (e :: es) [] pos) (tIni X.K newId bmB ta) := ⟨fun pins s σ H Q I h => by
  refine PySem.W.methodCall_KW (ld_blt I hg hm hv ?_ hn hdb) hc
  obtain ⟨m, fr⟩ := I.fr
  refine PySem.W.method_type fr I.ok.mod.kin Z.ty hst vV hh ?_
  show wpAny _ _ (callWith pos (Value.builtin initId) [] _ []) _ _ _
  refine PyProof.Rows.callWith_method1 (thn (ha.run pos pins _ σ H _ (I.tok _) h) fun us s1 hq => ?_) he hpl
  obtain ⟨vs, H1, I1, r1, a, C, ws, rfl, hl, T, ea, q⟩ := hq
  cases r1 with
  | cons ra rs =>
    cases ra
    refine ini_base Z T I1 ea ?_ fun s' J => ⟨.non, H1, J, rfl, q⟩
    rw [← Paired.length rs, sizeLine_eq]
    omega⟩
theorem ps_sto (Z : Bas B newId initId bmB) (ho : PE X o to) (he : PE X e te) (hs : swapsWith e (some (.Attribute o f p')) pos.line X.env = pure false := by rfl) : PS X (.Assign [.Attribute o f p'] e pos) (tSto X.K newId bmB f to te) := ⟨fun pins s σ H D I h => by
  refine plainObj_wpAny_Assign_Attribute (thn (he.run pins s σ H _ I h) fun v s1 h1 => ?_) hs
  obtain ⟨y, H1, I1, r1, q1⟩ := h1
  refine thn (ho.run pins s1 σ H1 _ I1 q1) fun u s2 h2 => ?_
  obtain ⟨z, H2, I2, r2, a, C, rfl, T, hno, ea, q⟩ := h2
  cases r2
  exact sto_base Z T I2 ea hno r1 fun dx s' n ne J => ⟨σ, _, J, q dx n ne⟩⟩
end
/-! ### texts of data -/
/-- what an exception's text may show -/
inductive Fm (K : PySem.W.Frag) (H : Hp) : V → Prop
  | int (i : Int) (h : i.natAbs.log2 < 1920) : Fm K H (.int i)
  | tup {a : Addr} {ns : List Int} (h : SqT K H a (ns.map V.int)) (l : ns.length ≤ 1000) (b : ∀ i ∈ ns, i.natAbs.log2 < 1920) : Fm K H (.ref a)
theorem int_txt {i : Int} (h : i.natAbs.log2 < 1920) : ((PySem.Str.ofString (toString i)) : Str).length ≤ 1921 := int_text_len_1921 h
theorem repr_ints {prog : Program} {w : World} : ∀ {l : List Int} {its : List Value}, Vals (l.map V.int) its → (∀ i ∈ l, i.natAbs.log2 < 1920) → ReprAll prog w its (l.map fun i => PySem.Str.ofString (toString i))
  | [], _, r, _ => by
    cases r
    exact .nil
  | i :: l, _, r, h => by
    cases r with
    | cons r1 r2 =>
      obtain ⟨t, rfl⟩ := r1
      exact .cons (ReprIs.int t (h i List.mem_cons_self)) (repr_ints r2 fun z hz => h z (List.mem_cons_of_mem _ hz))
theorem ints_piled : ∀ l : List Int, (∀ i ∈ l, i.natAbs.log2 < 1920) → piled (l.map fun i => PySem.Str.ofString (toString i)) ≤ 1930 * l.length
  | [], _ => Nat.zero_le _
  | i :: l, h => by
    have h1 := int_txt (h i List.mem_cons_self)
    have h2 := ints_piled l fun z hz => h z (List.mem_cons_of_mem _ hz)
    rw [List.map_cons, piled_cons, List.length_cons]
    omega
/-- {x}: some text -/
def tFmD (K : PySem.W.Frag) (te : TE) : TE := fun σ H Q => te σ H fun x H1 => Fm K H1 x ∧ ∀ m : Str, m.length ≤ 2000000 → Q (.str m) H1
theorem pe_fmD {X : Cx} {e : Expr} {te : TE} {pos : Pos} {k : Nat} (hr : Room k X.A) (he : PE X e te) : PE X (.FormattedValue e (-1) none pos) (tFmD X.K te) := ⟨fun pins s σ H Q I h => by
  refine wpAny_FormattedValue_plain (thn (he.run pins s σ H _ I h) fun v s1 hv => ?_)
  obtain ⟨x, H1, I1, r1, hf, q⟩ := hv
  cases hf with
  | int i hz =>
    obtain ⟨t, rfl⟩ := r1
    exact wpAny_formatField_int hz ⟨.str (toString i), H1, I1.tok _, ⟨_, rfl⟩, q _ (Nat.le_trans (int_txt hz) (by decide))⟩
  | tup ht hl hb =>
    rename_i a ns
    cases r1
    obtain ⟨its, rv, ⟨o, ho, hcl, n, hd⟩, _⟩ := I1.tuple ht
    have hu := hr.units
    have hp := ints_piled ns hb
    have htx := fmt_text (ns.map fun i => PySem.Str.ofString (toString i))
    refine fmt_tuple (by omega) ho hcl hd (repr_ints rv hb) (by rw [sizeLine_eq]; omega) fun m u tk hm => ⟨.str m, H1, I1.tok _, ⟨u, rfl⟩, q m (by omega)⟩⟩
/-! ### C(e) -/
/-- the promise of C's __init__ -/
def spIni (C : Addr) (f : Str) (Fx : Hp → V → Prop) : Sp := fun vs H Q _ => ∃ (a : Addr) (y : V), vs = [.ref a, y] ∧ H a = some (exo a C none) ∧ Fx H y ∧ ∀ dx, H dx = none → dx ≠ a → Q .non (upd (upd H dx (exd dx [(f, y)])) a (exo a C (some dx)))
def tMk (C : Addr) (f : Str) (Fx : Hp → V → Prop) (ta : TA) : L2.St → Hp → XK → Prop := fun σ H Q => ta σ H fun vs H1 => ∃ y, vs = [y] ∧ (∀ (a : Addr), H1 a = none → Fx (upd H1 a (exo a C none)) y) ∧ ∀ d, H1 d = none → Q (.ref C) (some d) (upd H1 d (.xd [(f, y)]))
theorem pmk_own {X : Cx} {B newId initId : String} {bmB : List Value} {x f : Str} {e : Expr} {ta : TA} {C fI : Addr} {k : Nat} {fd : FuncData} {ps : List Str} {Fx : Hp → V → Prop} {p pos : Pos} (Z : Bas B newId initId bmB) (T : Oxg X.K C newId bmB) (iC : PySem.W.findIn X.K (.ref C) "__init__" = some (some (.ref fI)))
    (tI : PySem.W.typeIn X.K (.ref fI) = some (.type "function")) (F1 : FnOk X.prog X.w X.K X.mg X.base CX0 k fI fd ps (spIni C f Fx)) (hr : Room (k + 1) X.A) (hb : Binds X.K fd ps []) (hg : Gl X x) (hm : X.mg x = some (.ref C)) (hA : PA X [e] ta)
    (hdb : (x == ("__debug__" : Str)) = false := by decide) (he : starEach (e :: []) X.env = (false, eval e X.env) :: starEach [] X.env := by rfl) (hpl : (backTo pos (starEach [] X.env)).any (·.1) = false := by rfl) :
    PMk X (.Call (.Name x p) [e] [] pos) (tMk C f Fx ta) := fun pins s σ H Q I h => by
  refine wpAny_Call_Name_kw (ld_glob I hg hm ?_ hdb)
  refine PySem.W.callWith_K (h₀ := X.base) I.ok.mod.kin T.kC (thn (hA.run pos pins s σ H _ I h) fun us s1 hq => ?_) he hpl
  obtain ⟨vs, H1, I1, r1, y, rfl, q1, q2⟩ := hq
  refine ⟨I1.kIn, ?_⟩
  show wpAny _ _ (call (.ref C) us) _ _ _
  obtain ⟨nm, q, N, bs, sn, sub, ab, col, dd, k0, k1, k2, k3, k5, hC⟩ := T.obj I1
  obtain ⟨h0, g0, d0, t0, o0⟩ := s1
  have hn : H1 (h0.objs.size + 1) = none := I1.hok.fresh (Nat.le_succ _)
  have old : ∀ b o, h0.get? b = some o → ((h0.push (PySem.W.kdv_tup us)).push (PySem.HandSPX.excO C h0.objs.size)).get? b = some o := fun b o z => Heap.get?_push_of_some _ (Heap.get?_push_of_some _ z)
  have made : ((h0.push (PySem.W.kdv_tup us)).push (PySem.HandSPX.excO C h0.objs.size)).get? (h0.objs.size + 1) = some (PySem.HandSPX.excO C h0.objs.size) := by heap_get
  have I2 : Inv X pins σ (upd H1 (h0.objs.size + 1) (exo (h0.objs.size + 1) C none)) ⟨(h0.push (PySem.W.kdv_tup us)).push (PySem.HandSPX.excO C h0.objs.size), g0, d0, t0, o0⟩ :=
    I1.laid (t' := t0) (a := h0.objs.size + 1) (o := exo (h0.objs.size + 1) C none) old (Nat.le_succ _) (exo_ok made)
  have rel : Vals [V.ref (h0.objs.size + 1), y] (Value.ref (h0.objs.size + 1) :: us) := .cons rfl r1
  have hus : us.length ≤ sizeLine := by
    rw [← Paired.length r1, sizeLine_eq]
    exact (by decide : 1 ≤ 16777216)
  have sp : spIni C f Fx [V.ref (h0.objs.size + 1), y] (upd H1 (h0.objs.size + 1) (exo (h0.objs.size + 1) C none)) (fun v H2 => v = .non ∧ ∃ (d : Addr), H2 (h0.objs.size + 1) = some (exo (h0.objs.size + 1) C (some d)) ∧ H2 d = some (exd d [(f, y)]) ∧ H1 d = none ∧ Q (.ref C) (some d) (upd (del H2 (h0.objs.size + 1)) d (.xd [(f, y)]))) (fun _ _ _ => False) := by
    refine ⟨_, y, rfl, upd_same, q1 _ hn, fun dx hdx ne => ?_⟩
    have hd1 : H1 dx = none := by
      rw [upd_ne ne] at hdx
      exact hdx
    refine ⟨rfl, dx, upd_same, ?_, hd1, ?_⟩
    · rw [upd_ne ne, upd_same]
    · have eq : upd (del (upd (upd (upd H1 (h0.objs.size + 1) (exo (h0.objs.size + 1) C none)) dx (exd dx [(f, y)])) (h0.objs.size + 1) (exo (h0.objs.size + 1) C (some dx))) (h0.objs.size + 1)) dx (.xd [(f, y)]) = upd H1 dx (.xd [(f, y)]) := by
        funext b
        by_cases h1 : b = dx
        · rw [h1, upd_same, upd_same]
        · rw [upd_ne h1, upd_ne h1]
          by_cases h2 : b = h0.objs.size + 1
          · rw [h2, del_same, hn]
          · rw [del_ne h2, upd_ne h2, upd_ne h1, upd_ne h2]
      rw [eq]
      exact q2 dx hd1
  have hl : (Value.ref (h0.objs.size + 1) :: us ++ []).length = ps.length := by
    have z := rel.length
    rw [F1.len _ _ _ _ sp] at z
    rw [List.append_nil]
    exact z.symm
  have hbb := hb _ (Value.ref (h0.objs.size + 1) :: us) I2.kIn hl
  rw [List.append_nil] at hbb
  refine wpAny_call (PySem.HandSPX.call_own Z.F (fun _ => rfl) hC (PySem.W.looks_findIn I1.kIn iC) (fun self => PySem.W.bind_fn I1.kIn self tI) hus
    (codeAny_mono (F1.run _ X.stack _ _ ⟨Value.ref (h0.objs.size + 1) :: us, []⟩ _ _ _ (fun _ _ _ => False) (hr.make C us []) (I2.env0.make C us []) hbb rel sp) fun r s' hq' => ?_))
  cases r with
  | error er => exact hq'.elim
  | ok fl =>
    cases fl with
    | ret u =>
      obtain ⟨v, H2, os2, bare2, un2, hok2, rv, rfl, d, ea, ed, hd1, q3⟩ := hq'
      obtain ⟨h2, g2, d2, t2, o2⟩ := s'
      exact ⟨rv, mk_end (raises_own T.exC T.tyC) I1 (Nat.le_succ _) old un2 hok2 os2 bare2 ea ed hd1 q3⟩
    | next => exact hq'.elim
    | brk => exact hq'.elim
    | cont => exact hq'.elim
end Ec

set_option Elab.async false
set_option linter.all false
set_option maxRecDepth 100000
set_option maxHeartbeats 4000000
/-! try: .. except (classes) as n: y = n -/
namespace Ec
open PySem PySem.Spec PyProof.Rows L2
/-! ### the test of a clause -/
section
variable {M : Model} {A : Around} {E : Value → Shared → Prop} {s : Shared}
theorem forIn_pass {f : Value → PUnit → Sem (ForInStep PUnit)} : ∀ (l : List Value), (∀ c ∈ l, ∀ Q' : ForInStep PUnit → Shared → Prop, Q' (.yield ⟨⟩) s → wpAny M A (f c ⟨⟩) Q' E s) → ∀ Q' : PUnit → Shared → Prop, Q' ⟨⟩ s → wpAny M A (forIn l PUnit.unit f) Q' E s
  | [], _, Q', q => by
    rw [List.forIn_nil]
    exact wpAny_pure q
  | c :: r, h, Q', q => by
    rw [List.forIn_cons]
    refine wpAny_bind (h c List.mem_cons_self _ ?_)
    exact forIn_pass r (fun c m => h c (List.mem_cons_of_mem _ m)) Q' q
theorem forIn_seek {f : Value → Option Bool × Unit → Sem (ForInStep (Option Bool × Unit))} (g : Value → Bool) : ∀ (l : List Value),
    (∀ c ∈ l, ∀ Q' : ForInStep (Option Bool × Unit) → Shared → Prop, Q' (if g c = true then .done (some true, ()) else .yield (none, ())) s → wpAny M A (f c (none, ())) Q' E s) →
    ∀ Q' : Option Bool × Unit → Shared → Prop, Q' (if l.any g = true then some true else none, ()) s → wpAny M A (forIn l ((none, ()) : Option Bool × Unit) f) Q' E s
  | [], _, Q', q => by
    rw [List.forIn_nil]
    exact wpAny_pure q
  | c :: r, h, Q', q => by
    rw [List.forIn_cons]
    refine wpAny_bind (h c List.mem_cons_self _ ?_)
    rw [List.any_cons] at q
    cases e : g c with
    | true =>
      rw [e] at q
      rw [if_pos rfl]
      exact wpAny_pure q
    | false =>
      rw [e, Bool.false_or] at q
      rw [if_neg Bool.false_ne_true]
      exact forIn_seek g r (fun c m => h c (List.mem_cons_of_mem _ m)) Q' q
end
/-- the classes' words, one by one -/
theorem exm_each {K : PySem.W.Frag} {cls : Value} : ∀ {cs : List Value} {b : Bool}, PySem.W.exmAny K cls cs = some b → ∃ g : Value → Bool, (∀ c ∈ cs, PySem.W.exmOne K cls c = some (g c)) ∧ b = cs.any g := by
  intro cs b h
  refine ⟨fun c => (PySem.W.exmOne K cls c).getD false, ?_, ?_⟩
  · induction cs generalizing b with
    | nil => exact fun c m => by cases m
    | cons c r ih =>
      obtain ⟨b1, d1, x1, y1, z1⟩ := PySem.W.exmAny_cons h
      intro c' m
      rcases List.mem_cons.mp m with rfl | m
      · show _ = some ((PySem.W.exmOne K cls c').getD false)
        rw [x1]
        rfl
      · exact ih y1 c' m
  · induction cs generalizing b with
    | nil => exact (Option.some.inj h).symm
    | cons c r ih =>
      obtain ⟨b1, d1, x1, y1, z1⟩ := PySem.W.exmAny_cons h
      rw [List.any_cons, ← ih y1, x1]
      exact z1
theorem exm_tuple {M : Model} {K : PySem.W.Frag} {cs : List Value} {cls : Value} {tp e : Addr} {b : Bool} {h : Heap} (X : K.In h) (LT : PySem.W.Looks M h (typeOf (.ref e)) cls) (hp : h.get? tp = some { cls := .type "tuple", data := .seq cs.toArray })
    (hx : PySem.W.exmAny K cls cs = some b) : PySem.W.Looks M h (excMatches (.ref e) (.ref tp)) b := by
  obtain ⟨g, hg, rfl⟩ := exm_each hx
  intro A Q E s k q
  have isT : PySem.W.Looks M h (isInstance (.ref tp) (.type "tuple")) true := ((PySem.W.Looks.ld hp).andThen .now).andThen (PySem.W.Looks.of_pure isSubtype_tuple_tuple)
  unfold excMatches
  refine wpAny_bind ((isT.keeps k).here ?_)
  dsimp only
  rw [if_pos rfl]
  first
    | refine wpAny_bind (wpAny_seqItems (k _ _ hp) rfl ?_)
    | refine wpAny_bind (wpAny_bind (wpAny_seqItems (k _ _ hp) rfl (wpAny_pure ?_)))
  dsimp only [Option.getD_some, Option.getD]
  refine wpAny_bind (wpAny_pure (wpAny_bind (forIn_pass _ (fun c m Q' q' => ?_) _ ?_)))
  · obtain ⟨e1, _⟩ := PySem.W.exm_cls (M := M) X (hg c m)
    refine wpAny_bind ((e1.keeps k).here ?_)
    simp only [Bool.not_true, Bool.false_eq_true, if_false]
    exact wpAny_pure q'
  · refine wpAny_bind ((LT.keeps k).here ?_)
    refine wpAny_bind (forIn_seek g _ (fun c m Q' q' => ?_) _ ?_)
    · obtain ⟨_, e2⟩ := PySem.W.exm_cls (M := M) X (hg c m)
      refine wpAny_bind ((e2.keeps k).here ?_)
      cases hc : g c with
      | true =>
        rw [hc, if_pos rfl] at q'
        simp only [if_true]
        exact wpAny_pure q'
      | false =>
        rw [hc, if_neg Bool.false_ne_true] at q'
        simp only [Bool.false_eq_true, if_false]
        exact wpAny_pure q'
    · cases hc : cs.any g with
      | true =>
        rw [hc] at q
        simp only [if_true]
        exact wpAny_pure q
      | false =>
        rw [hc] at q
        simp only [Bool.false_eq_true, if_false]
        exact wpAny_pure q
/-- names of classes -/
inductive NamesA (X : Cx) : List Expr → List Value → Prop
  | nil : NamesA X [] []
  | cons {x : Str} {np : Pos} {c : Value} {es : List Expr} {cs : List Value} (h : Names X x c) (r : NamesA X es cs) : NamesA X (.Name x np :: es) (c :: cs)
inductive Tst (X : Cx) : Expr → List Value → Prop
  | one {x : Str} {np : Pos} {c : Value} (h : Names X x c) : Tst X (.Name x np) [c]
  | many {es : List Expr} {cs : List Value} {k : Nat} {pos : Pos} (h : NamesA X es cs) (l : cs.length ≤ 100) : Tst X (.Tuple es k pos) cs
section
variable {X : Cx} {a : Addr} {pn : List (Addr × Obj)} {σ : L2.St} {H : Hp} {s : Shared}
theorem name_run {x : Str} {np : Pos} {c : Value} {Q : Value → Shared → Prop} {E : Value → Shared → Prop} (hc : Names X x c) (S : Inv (X.suite a pn) [] σ H s) (q : Q c s) : wpAny (model X.prog X.w) (X.A.mark (some (.ref a))) (eval (.Name x np) X.env) Q E s := by
  obtain ⟨hg, hdbg, hm | ⟨hm, hv, hnn⟩⟩ := hc
  · exact ld_glob (X := X.suite a pn) S hg hm q hdbg
  · exact ld_blt (X := X.suite a pn) S hg hm hv q hnn hdbg
theorem names_run {E : Value → Shared → Prop} {pos : Pos} (S : Inv (X.suite a pn) [] σ H s) : ∀ {es : List Expr} {cs : List Value}, NamesA X es cs → ∀ Q : List Value → Shared → Prop, Q cs s → wpAny (model X.prog X.w) (X.A.mark (some (.ref a))) (spliced (backTo pos (starEach es X.env))) Q E s := fun h => by
  induction h with
  | nil => exact fun Q q => wpAny_items_nil q
  | cons h r ih => exact fun Q q => wpAny_items_cons (name_run h S (ih _ q))
theorem tst_run {t : Expr} {cs : List Value} {cls : Value} {b : Bool} {Q : Bool → Shared → Prop} {E : Value → Shared → Prop} (T : Tst X t cs) (S : Inv (X.suite a pn) [] σ H s) (LT : PySem.W.Looks (model X.prog X.w) s.heap (typeOf (.ref a)) cls) (hx : PySem.W.exmAny X.K cls cs = some b)
    (q : ∀ h', (∀ b o, s.heap.get? b = some o → h'.get? b = some o) → Q b { s with heap := h' }) :
    wpAny (model X.prog X.w) (X.A.mark (some (.ref a))) (eval t X.env) (fun c s1 => wpAny (model X.prog X.w) (X.A.mark (some (.ref a))) (excMatches (.ref a) c) Q E s1) E s := by
  cases T with
  | one h =>
    obtain ⟨b1, d1, x1, y1, z1⟩ := PySem.W.exmAny_cons hx
    have e : d1 = false := (Option.some.inj y1).symm
    subst e
    rw [Bool.or_false] at z1
    subst z1
    exact name_run h S ((PySem.W.exm_one S.kIn LT x1).here (q s.heap fun _ _ z => z))
  | many h l =>
    refine wpAny_Tuple (names_run S h _ ⟨by rw [sizeLine_eq]; omega, ?_⟩)
    have kp : ∀ b o, s.heap.get? b = some o → (s.heap.push { cls := .type "tuple", data := .seq cs.toArray }).get? b = some o := fun _ _ z => Heap.get?_push_of_some _ z
    exact (exm_tuple (S.kIn.keeps kp) (LT.keeps kp) (Heap.get?_push_size s.heap rfl) hx).here (q _ kp)
end
/-! ### a caught exception as a thing of the heap -/
theorem exv_at {P : Program} {w : World} {H : Hp} {h : Heap} {a : Addr} {cls : Value} {d : Option Addr} (hok : HOk P w H h) (he : H a = some (exv a cls d)) : ∃ oe vs, h.get? a = some oe ∧ oe.cls = cls ∧ oe.dict = d ∧ oe.data = .fields vs := by
  have x : ObjOk P w H h a (.ext fun h => ∃ oe vs, h.get? a = some oe ∧ oe.cls = cls ∧ oe.dict = d ∧ oe.data = .fields vs) := hok a _ he
  exact x.1
theorem exv_ok {P : Program} {w : World} {H : Hp} {h : Heap} {a : Addr} {oe : Obj} {vs : Array Value} (he : h.get? a = some oe) (hd : oe.data = .fields vs) : ObjOk P w H h a (exv a oe.cls oe.dict) :=
  ⟨⟨oe, vs, he, rfl, rfl, hd⟩, ⟨_, he⟩, fun h1 h2 z k => by
    obtain ⟨o, vs, q, r⟩ := z
    exact ⟨o, vs, k _ q, r⟩⟩
theorem adopt {X : Cx} {pins : List (Addr × Obj)} {σ : L2.St} {H : Hp} {s : Shared} {a : Addr} {oe : Obj} {vs : Array Value} (I : Inv X ((a, oe) :: pins) σ H s) (n0 : X.s_0.heap.get? a = none) (hd : oe.data = .fields vs) (np : ∀ p ∈ X.pn ++ pins, p.1 ≠ a) : Inv X pins σ (upd H a (exv a oe.cls oe.dict)) s := by
  obtain ⟨ha, na, nL, nF, nc⟩ := I.pin (a, oe) (List.mem_append_right _ List.mem_cons_self)
  have ne0 : ∀ b o, X.s_0.heap.get? b = some o → b ≠ a := fun b o e z => by
    rw [z, n0] at e
    cases e
  have neH : ∀ b o, H b = some o → b ≠ a := fun b o e => ne_of_none e na
  have nc' : ∀ x c, X.env.cells.lookup x = some c → c ≠ a := fun x c e z => by
    obtain ⟨v, o, h1, h2⟩ := I.cell x c e
    rw [z, ha] at h1
    cases h1
    rw [hd] at h2
    cases h2
  refine ⟨I.ok, I.os, I.bare, ⟨I.base.keep, I.base.slot, fun b o e n hx => ?_, I.base.there, fun b xs e => ?_, fun b o u e => ?_, fun b ps e => ?_⟩, I.loc, I.cell, ?_, fun x c e => ?_, fun p hp => ?_, fun b o e => ?_, I.len⟩
  · rw [upd_ne (ne0 b o e)]
    exact I.base.free b o e n hx
  · have z := I.base.tups b xs e
    rw [upd_ne (neH _ _ z)]
    exact z
  · have z := I.base.frzs b o u e
    rw [upd_ne (neH _ _ z)]
    exact z
  · obtain ⟨m, z⟩ := I.base.tbls b ps e
    exact ⟨m, by
      rw [upd_ne (neH _ _ z)]
      exact z⟩
  · rw [upd_ne (Ne.symm nL)]
    exact I.free
  · rw [upd_ne (nc' x c e)]
    exact I.freeC x c e
  · obtain ⟨h1, h2, h3⟩ := I.pin p ((List.mem_append.mp hp).elim (fun m => List.mem_append_left _ m) fun m => List.mem_append_right _ (List.mem_cons_of_mem _ m))
    exact ⟨h1, by rw [upd_ne (np p hp)]; exact h2, h3⟩
  · by_cases hb : b = a
    · subst hb
      rw [upd_same] at e
      cases e
      exact exv_ok ha hd
    · rw [upd_ne hb] at e
      exact (I.hok b o e).stay (fun _ _ _ z => z) (fun c hc => by rw [upd_ne (neH _ _ hc)]; exact hc) fun c xs hc => by rw [upd_ne (neH _ _ hc)]; exact hc
theorem fly_keep {B h h' : Heap} {l : List Env} {a : Addr} {Z : Obj → Prop} (x : HandSPX.FlyingZ B l a Z h) (k : ∀ b o, h.get? b = some o → h'.get? b = some o) : HandSPX.FlyingZ B l a Z h' := by
  obtain ⟨x1, x2, x3, oe, vs, T, oT, ts, y1, y2, y3, y4, y5, y6, y7, y8, y9⟩ := x
  exact ⟨fun b o e => k _ _ (x1 b o e), x2, x3.of_keeps fun b o e _ => ⟨o, k _ _ e, rfl⟩, oe, vs, T, oT, ts, k _ _ y1, y2, y3, y4, y5, y6, k _ _ y7, y8, y9⟩
/-- what the clause wishes of an exception of the body: slot i is the clause's name's, j the other's -/
def wKeep (K : PySem.W.Frag) (cs : List Value) (i j : Nat) (Wout : WX) (D : Ends) : WX := fun cls d σ H => ∃ b, PySem.W.exmAny K cls cs = some b ∧
  (b = true → ∀ a, H a = none → D.nx (((σ.set i (some (.ref a))).set j (some (.ref a))).set i none) (upd H a (exv a cls d))) ∧ (b = false → Wout cls d σ H)
theorem ps_try_keepG {X : Cx} {n y : Str} {i j : Nat} {body : List Stmt} {t : Expr} {cs : List Value} {p1 p2 p3 hpos pos : Pos} {tb : WX → TS} {Wout : WX} (hs : X.stack = X.env :: X.outer) (hf : X.env.frame = some X.env.locals) (hex : X.ex = []) (hN : X.N.Nodup) (hi : X.N[i]? = some n) (hj : X.N[j]? = some y)
    (hln : X.env.kindOf n = some .local) (hly : Loc X.env.scope y) (hlf : X.fn y = true ∨ X.env.scope.names.lookup y = some .local) (T : Tst X t cs) (tk : Takes X Wout) (hnd : (n == ("__debug__" : Str)) = false) (hnc : (n == ("__classdict__" : Str)) = false)
    (hb : ∀ (W : WX) (pn : List (Addr × Obj)) (xe : Value → Shared → Prop), Takes (X.tr pn xe) W → PassesOwn (model X.prog X.w) X.A X.env xe → PSs (X.tr pn xe) body (tb W))
    (hsw : swapsWith (.Name n p2) (some (.Name y p1)) p3.line X.env = pure false := by rfl) :
    PS X (.Try body [.ExceptHandler (some t) (some n) [.Assign [.Name y p1] (.Name n p2) p3] hpos] [] [] pos) (fun D σ H => tb (wKeep X.K cs i j Wout D) D σ H) := ⟨fun pins s σ H D I h => by
  have ok := I.ok
  have frm : X.A.frames = some (X.env :: X.outer) := by rw [ok.frames, hs]
  refine wpAny_Try_except ?_
  refine wpAny_mono ((hb (wKeep X.K cs i j Wout D) (X.pn ++ pins) (fun e s1 => wpAny (model X.prog X.w) X.A (noteFrame e X.env) (fun _ s2 => wpAny (model X.prog X.w) X.A (setFlight e none) (fun _ s3 =>
    wpAny (model X.prog X.w) X.A (handleBy e X.env [.ExceptHandler (some t) (some n) [.Assign [.Name y p1] (.Name n p2) p3] hpos]) (SP X pins D) X.xe s3) X.xe s2) X.xe s1) (fun u s' xx => ?_) PassesOwn.looking).run [] s σ H D (I.toTry _) h) (fun fl s1 hsp => ?_) (fun e s1 he => he)
  · obtain ⟨a, B, sI, pq, σ', H', cls, d, rfl, J', nb, up, sky, na, os, ag, b, hb1, hyes, hno⟩ := xx
    have J : Inv X pins σ' H' sI := J'.ofTry ok
    have sky2 : Sky B (X.env :: X.outer) a (Zc cls d) X.env.locals s'.heap := by rw [← hs]; exact sky
    refine Sky.land Zc.steady frm hf sky2 fun h3 fl3 up3 => ?_
    have J3 : Inv X pins σ' H' { s' with heap := h3 } := J.landed nb fl3.1 (up.trans up3) os ag
    have out : ∀ {h : Heap} {o : Obj} {vs : Array Value}, h.FunFrames B (X.env :: X.outer) → h.get? a = some o → o.data = .fields vs → a ∉ frs (X.env :: X.outer) := fun ff e dd hm => by
      obtain ⟨_, o', e', z⟩ := ff.mem hm
      rw [e] at e'
      cases e'
      exact z _ dd
    obtain ⟨oe3, vs3, he3, hz3, hd3⟩ := fl3.there
    have nfr := out fl3.2.2.1 he3 hd3
    have nL : a ≠ X.env.locals := fun z => nfr (List.mem_filterMap.mpr ⟨X.env, List.mem_cons_self, by rw [hf, z]⟩)
    have nF : a ∉ X.fs := fun hm => by
      obtain ⟨e, he, q⟩ := List.mem_filterMap.mp hm
      exact nfr (List.mem_filterMap.mpr ⟨e, List.mem_cons_of_mem _ he, q⟩)
    have nI : sI.heap.get? a = none := by
      cases q : sI.heap.get? a with
      | none => rfl
      | some o =>
        have z := nb a o q (by rw [hs]; exact nfr)
        rw [fl3.2.1] at z
        cases z
    have n0 : X.s_0.heap.get? a = none := by
      cases q : X.s_0.heap.get? a with
      | none => rfl
      | some o =>
        obtain ⟨o', z⟩ := J.base.there a o q (by rw [hex]; exact fun m => by cases m)
        rw [nI] at z
        cases z
    have np : ∀ p ∈ X.pn ++ pins, p.1 ≠ a := fun p hp z => by
      have e := (J.pin p hp).1
      rw [z, nI] at e
      cases e
    have S3 := J3.suite he3 hd3 na nL nF
    have LT : PySem.W.Looks (model X.prog X.w) h3 (typeOf (.ref a)) cls := fun A Q E s k q => wpAny_typeOf_ref (k _ _ he3) (by rw [hz3.1]; exact q)
    refine wpAny_handleBy_cons (codeAny_handlers_test ?_) (by intro q; cases q)
    refine tst_run T S3 LT hb1 fun h4 k4 => ?_
    have fl4 := fly_keep fl3 k4
    have up4 : h3.UpToSlots h4 := Heap.UpToSlots.of_keeps k4
    cases b with
    | true =>
      refine codeAny_handlers_suite_as ?_
      refine HandSPX.lands_againZ fl4 fun h5 fl5 up5 => ?_
      have J5 : Inv X pins σ' H' { s' with heap := h5 } := J.landed nb fl5.1 (((up.trans up3).trans up4).trans up5) os ag
      obtain ⟨oe5, vs5, he5, hz5, hd5⟩ := fl5.there
      have S5 := J5.suite he5 hd5 na nL nF
      refine store_ok (X := X.suite a ((a, oe5) :: (X.pn ++ pins))) (v := .ref a) S5 hN hi (.inl hln) rfl (fun s6 S6 => ?_) (.inr hln)
      have run := (pss_one (ps_set (X := X.suite a ((a, oe5) :: (X.pn ++ pins))) (pos := p3) (pos' := p1) hN hj hly (pe_var (i := i) (pos := p2) hi (.inl hln) hnd hnc) hsw hlf)).run [] s6 (σ'.set i (some (.ref a))) H'
        { nx := fun σ6 H6 => σ6 = (σ'.set i (some (.ref a))).set j (some (.ref a)) ∧ H6 = H', rt := fun _ _ => False } S6 ⟨.ref a, List.getElem?_set_self (by
          have hl := J5.len
          have z := (List.getElem?_eq_some_iff.mp hi).1
          omega), rfl, rfl⟩
      refine wpAny_mono run (fun f s7 hsp => ?_) (fun _ _ z => z.elim)
      cases f with
      | next =>
        obtain ⟨σ7, H7, S7, rfl, rfl⟩ := hsp
        have P7 : Inv X ((a, oe5) :: pins) _ H7 s7 := (S7.unsuite ok).pins_of fun p hp => by
          rcases List.mem_cons.mp hp with rfl | hp
          · exact S7.pin (a, oe5) (List.mem_append_left _ List.mem_cons_self)
          · exact S7.pin p (List.mem_append_left _ (List.mem_cons_of_mem _ (List.mem_append_right _ hp)))
        refine gone_ok P7 hN hi hln fun s8 P8 => ?_
        have P9 := adopt P8 n0 hd5 np
        rw [hz5.1, hz5.2] at P9
        exact ⟨_, _, P9, hyes rfl a na⟩
      | brk =>
        obtain ⟨_, _, _, q⟩ := hsp
        exact q.elim
      | cont =>
        obtain ⟨_, _, _, q⟩ := hsp
        exact q.elim
      | ret u =>
        obtain ⟨_, _, _, _, _, q⟩ := hsp
        exact q.elim
    | false =>
      show wpAny _ X.A (handleBy (.ref a) X.env []) _ _ _
      refine wpAny_handleBy_nil ?_
      obtain ⟨k1, k2, k3, oe, vs, Tb, oT, ts', he, hz, hd, h1, hr⟩ := id fl4
      have fin : wpAny (model X.prog X.w) X.A (setFlight (.ref a) X.env.frame) (fun _ s4 => wpAny (model X.prog X.w) X.A (throw (.ref a) : Sem Flow) (SP X pins D) X.xe s4) X.xe { s' with heap := h4 } := by
        rw [hf]
        refine HandSPX.setFlight_upZ fl4 fun h5 hh5 up5 => wpAny_throw (tk _ _ ?_)
        exact ⟨a, B, sI, pins, σ', H', cls, d, rfl, J, nb, ((up.trans up3).trans up4).trans up5, .inr (.inr (by rw [hs]; exact hh5)), na, os, ag, hno rfl⟩
      unfold PySem.passOn
      refine wpAny_bind (wpAny_field he hd h1 ?_)
      rw [if_neg (show ¬ ((Value.ref Tb == Value.none) = true) from by simp)]
      first
        | exact wpAny_bind (wpAny_pure (wpAny_bind fin))
        | exact wpAny_bind fin
  · cases fl with
    | next =>
      obtain ⟨σ', H', J', q⟩ := hsp
      exact wpAny_execs_nil ⟨σ', H', J'.ofTry ok, q⟩
    | brk =>
      obtain ⟨σ', H', J', q⟩ := hsp
      exact ⟨σ', H', J'.ofTry ok, q⟩
    | cont =>
      obtain ⟨σ', H', J', q⟩ := hsp
      exact ⟨σ', H', J'.ofTry ok, q⟩
    | ret u =>
      obtain ⟨v, σ', H', J', r, q⟩ := hsp
      exact ⟨v, σ', H', J'.ofTry ok, r, q⟩⟩
end Ec

set_option Elab.async false
set_option linter.all false
set_option maxRecDepth 100000
set_option maxHeartbeats 4000000
/-! the logic with exceptions -/
namespace Ec
open PySem PySem.Spec PyProof.Rows L2
/-- an exception: its class, its field, the field's value -/
structure Exn where
  C : Addr
  f : Str
  x : PyData
def ExOk (K : PySem.W.Frag) (F : Hp) (ex : Exn) (cls : Value) (d : Option Addr) : Prop := cls = .ref ex.C ∧ ∃ dd w, d = some dd ∧ F dd = some (.xd [(ex.f, w)]) ∧ De K F w ex.x
abbrev ErP := Exn → Dl → Cells → Prop
def ErB (K : PySem.W.Frag) (W : WX) (F H : Hp) (μ : Cells) (er : ErP) : Prop := ∀ ex cls d F' H' σ' δ' μ', Fw (ks μ) (ks μ') F H F' H' → Rp K F' H' σ' δ' μ' → ExOk K F' ex cls d → er ex δ' μ' → W cls d σ' H'
theorem ErB.next {K : PySem.W.Frag} {W : WX} {F H F' H' : Hp} {μ μ' : Cells} {er : ErP} (b : ErB K W F H μ er) (w : Fw (ks μ) (ks μ') F H F' H') : ErB K W F' H' μ' er := fun ex cls d F2 H2 σ2 δ2 μ2 w2 => b ex cls d F2 H2 σ2 δ2 μ2 (w.trans w2)
def WEx (X : Cx) (W : WX) (er : ErP) (e : Expr) (δ : Dl) (μ : Cells) (Q : Vd → Cells → Prop) : Prop := ∀ F H σ, Rp X.K F H σ δ μ → ErB X.K W F H μ er → ∀ QV : VK,
  (∀ v x F' H' μ', Fw (ks μ) (ks μ') F H F' H' → Rp X.K F' H' σ δ μ' → VOk X.K F' x v → Q x μ' → QV v H') → cE X e σ H QV
def WSx (X : Cx) (W : WX) (er : ErP) (st : Stmt) (δ : Dl) (μ : Cells) (D : Dn) : Prop := ∀ F H σ, Rp X.K F H σ δ μ → ErB X.K W F H μ er → ∀ De, Bears X.K F H μ D De → cS X st De σ H
def WBx (X : Cx) (W : WX) (er : ErP) (st : List Stmt) (δ : Dl) (μ : Cells) (D : Dn) : Prop := ∀ F H σ, Rp X.K F H σ δ μ → ErB X.K W F H μ er → ∀ De, Bears X.K F H μ D De → cB X st De σ H
section
variable {X : Cx} {W : WX} {er : ErP} {δ : Dl} {μ : Cells} {e a b : Expr} {es : List Expr} {pos p : Pos} {Q : Vd → Cells → Prop} {D : Dn} {st : Stmt} {rest : List Stmt}
theorem wex_of (h : WE X e δ μ Q) : WEx X W er e δ μ Q := fun F H σ R _ => h F H σ R
theorem wex_if {t : Expr} (h : WT X t δ μ fun k μ1 => if k = true then WEx X W er a δ μ1 Q else WEx X W er b δ μ1 Q) : WEx X W er (.IfExp t a b pos) δ μ Q := fun F H σ R eb QV c =>
  toE (pe_ifExp (pcT X t) (pcE X a) (pcE X b)) (h F H σ R _ fun k F1 H1 μ1 w1 R1 q => by
    cases k with
    | true => exact (show WEx X W er a δ μ1 Q from q) F1 H1 σ R1 (eb.next w1) QV fun k2 x2 F2 H2 μ2 w2 R2 o2 q2 => c k2 x2 F2 H2 μ2 (w1.trans w2) R2 o2 q2
    | false => exact (show WEx X W er b δ μ1 Q from q) F1 H1 σ R1 (eb.next w1) QV fun k2 x2 F2 H2 μ2 w2 R2 o2 q2 => c k2 x2 F2 H2 μ2 (w1.trans w2) R2 o2 q2)
/-- x[i], x may raise -/
theorem wex_ix {r : R2} (ho : IxR X r) (hs : PlainIx b) (h : WEx X W er a δ μ fun x μ1 => WE X b δ μ1 fun y μ2 => OpW X.K r x y μ2 Q) : WEx X W er (.Subscript a b pos) δ μ Q := fun F H σ R eb QV c =>
  toE (pe_ix ho (pcE X a) (pcE X b) hs) (h F H σ R eb _ fun v x F1 H1 μ1 w1 R1 o1 q1 => q1 F1 H1 σ R1 _ fun u y F2 H2 μ2 w2 R2 o2 q2 => q2 F2 H2 v u R2.m (o1.up w2.f) o2 _ fun z w F3 H3 μ3 w3 m3 o3 q3 =>
    c w z F3 H3 μ3 ((w1.trans w2).trans w3) (R2.to w3.f m3) o3 q3)
/-! ### statements -/
theorem wbx_nil (h : D.nx δ μ) : WBx X W er [] δ μ D := fun F H σ R _ De b => toB pss_nil (b.nx F H σ δ μ Fw.refl R h)
theorem wbx_nilK (h : Keep μ fun μ' => D.nx δ μ') : WBx X W er [] δ μ D := fun F H σ R _ De b => wb_nilK h F H σ R De b
theorem wbx_of {sts : List Stmt} (h : WB X sts δ μ D) : WBx X W er sts δ μ D := fun F H σ R _ De b => h F H σ R De b
theorem wsx_of (h : WS X st δ μ D) : WSx X W er st δ μ D := fun F H σ R _ De b => h F H σ R De b
theorem wbx_cons (h : WSx X W er st δ μ { D with nx := fun δ' μ' => WBx X W er rest δ' μ' D }) : WBx X W er (st :: rest) δ μ D := fun F H σ R eb De b =>
  toB (pss_cons (pcS X st) (pcB X rest)) (show cS X st { De with nx := cB X rest De } σ H from
    h F H σ R eb _ (b.seq fun F' H' σ' δ' μ' w R' q => q F' H' σ' R' (eb.next w) De (b.next w)))
theorem wbx_ws (h : WS X st δ μ { D with nx := fun δ' μ' => WBx X W er rest δ' μ' D }) : WBx X W er (st :: rest) δ μ D := fun F H σ R eb De b =>
  toB (pss_cons (pcS X st) (pcB X rest)) (show cS X st { De with nx := cB X rest De } σ H from
    h F H σ R _ (b.seq fun F' H' σ' δ' μ' w R' q => q F' H' σ' R' (eb.next w) De (b.next w)))
theorem wbx_one (h : WSx X W er st δ μ D) : WBx X W er [st] δ μ D := fun F H σ R eb De b => toB (pss_one (pcS X st)) (h F H σ R eb De b)
theorem wsx_if {c : Expr} {s1 s2 : List Stmt} (h : WT X c δ μ fun k μ1 => if k = true then WBx X W er s1 δ μ1 D else WBx X W er s2 δ μ1 D) : WSx X W er (.If c s1 s2 pos) δ μ D := fun F H σ R eb De b =>
  toS (ps_if (pcT X c) (pcB X s1) (pcB X s2)) (h F H σ R _ fun k F1 H1 μ1 w1 R1 q => by
    cases k with
    | true => exact (show WBx X W er s1 δ μ1 D from q) F1 H1 σ R1 (eb.next w1) De (b.next w1)
    | false => exact (show WBx X W er s2 δ μ1 D from q) F1 H1 σ R1 (eb.next w1) De (b.next w1))
theorem wsx_expr (h : WEx X W er e δ μ fun _ μ1 => D.nx δ μ1) (hs : swapsWith e none pos.line X.env = pure false := by rfl) : WSx X W er (.Expr e pos) δ μ D := fun F H σ R eb De b =>
  toS (ps_expr (pcE X e) hs) (h F H σ R eb _ fun v x F1 H1 μ1 w1 R1 o1 q => b.nx F1 H1 σ δ μ1 w1 R1 q)
theorem wsx_ret (h : WEx X W er e δ μ D.rt) : WSx X W er (.Return (some e) pos) δ μ D := fun F H σ R eb De b =>
  toS (ps_ret (pcE X e)) (h F H σ R eb _ fun v x F1 H1 μ1 w1 R1 o1 q => b.rt v x F1 H1 μ1 w1 R1.m o1 q)
theorem wsx_set (i : Nat) {x : Str} {pos' : Pos} (hN : X.N.Nodup) (hi : X.N[i]? = some x) (hx : Loc X.env.scope x) (hf : X.fn x = true ∨ X.env.scope.names.lookup x = some .local) (h : WEx X W er e δ μ fun y μ1 => D.nx (δ.set i (some y)) μ1)
    (hs : swapsWith e (some (.Name x pos')) pos.line X.env = pure false := by rfl) : WSx X W er (.Assign [.Name x pos'] e pos) δ μ D := fun F H σ R eb De b =>
  toS (ps_set hN hi hx (pcE X e) hs hf) (h F H σ R eb _ fun v y F1 H1 μ1 w1 R1 o1 q => b.nx F1 H1 _ _ μ1 w1 (R1.put i o1) q)
theorem wsx_asg {tg : Expr} (is : List Nat) (h : WEx X W er e δ μ fun x μ1 => WGo X is tg x δ μ1 D.nx) (hs : swapsWithSole [tg] e pos.line X.env = pure false := by rfl) (hw : swappedStores [tg] e X.env = pure none := by rfl)
    (h1 : (assignEach [tg] X.env).map (·.2) = [assign tg X.env] := by rfl) : WSx X W er (.Assign [tg] e pos) δ μ D := fun F H σ R eb De b =>
  toS (ps_asg (pcE X e) (pcG X tg) hs hw h1) (h F H σ R eb _ fun v x F1 H1 μ1 w1 R1 o1 q => q F1 H1 σ R1 v o1 _ fun F2 H2 σ2 δ2 μ2 w2 R2 _ q2 => b.nx F2 H2 σ2 δ2 μ2 (w1.trans w2) R2 q2)
theorem wsx_forG {iv : PyData → Vd} {tg iter : Expr} {body : List Stmt} (is : List Nat) (hp : PassesOwn (model X.prog X.w) X.A X.env X.xe) (hc : X.calm = true)
    (h : WI X tg iter δ μ fun ds μ1 => ∃ I : Nat → Dl → Cells → Prop, I 0 δ μ1 ∧ (∀ i d δ' μ', ds[i]? = some d → I i δ' μ' → WGo X is tg (iv d) δ' μ' fun δ2 μ2 => WBx X W er body δ2 μ2 { nx := I (i + 1), rt := D.rt, bk := D.nx, ct := I (i + 1) }) ∧ ∀ δ' μ', I ds.length δ' μ' → D.nx δ' μ')
    (hw : itV iter = iv)
    (hs : ∀ x, foldedSetIterable iter X.env x = pure x := by intro _; rfl) : WSx X W er (.For tg iter body [] pos) δ μ D := fun F H σ R eb De b =>
  toS (ps_for hp hc (pcI X tg iter) (pcG X tg) (pcB X body) hs) (h F H σ R _ fun J ds F1 H1 μ1 w1 R1 wk q => by
    subst hw
    obtain ⟨I, h0, hturn, hend⟩ := q
    refine ⟨fun i m σ' H' => m = ds.length - i ∧ i ≤ ds.length ∧ ∃ F' δ' μ', Fw (ks μ1) (ks μ') F1 H1 F' H' ∧ Rp X.K F' H' σ' δ' μ' ∧ I i δ' μ', ⟨_, rfl, Nat.zero_le _, F1, δ, μ1, Fw.refl, R1, h0⟩, ?_⟩
    rintro i m σ' H' ⟨rfl, hi, F', δ', μ', w', R', hI⟩
    by_cases hlt : i < ds.length
    · refine .inr ⟨wk.go i F' H' hlt w'.f R'.m.ex, _, fun _ _ z => z, fun x H2 y => ?_⟩
      obtain ⟨F2, f1, f2, f3, f4, f5⟩ := wk.yld i F' H' x H2 _ (List.getElem?_eq_getElem hlt) w'.f R'.m.ex y
      obtain ⟨m2, w2⟩ := R'.m.nil_up f1 f2 f3 f4
      refine hturn i _ δ' μ' (List.getElem?_eq_getElem hlt) hI F2 H2 σ' (R'.to f1 m2) x f5 _ fun F3 H3 σ3 δ3 μ3 w3 R3 _ q3 => ?_
      have wa := (w'.trans w2).trans w3
      have back : ∀ F4 H4 σ4 δ4 μ4, Fw (ks μ3) (ks μ4) F3 H3 F4 H4 → Rp X.K F4 H4 σ4 δ4 μ4 → I (i + 1) δ4 μ4 → ∃ m', m' < ds.length - i ∧ (m' = ds.length - (i + 1) ∧ i + 1 ≤ ds.length ∧ ∃ F' δ' μ', Fw (ks μ1) (ks μ') F1 H1 F' H4 ∧ Rp X.K F' H4 σ4 δ' μ' ∧ I (i + 1) δ' μ') :=
        fun F4 H4 σ4 δ4 μ4 w4 R4 q4 => ⟨_, by omega, rfl, hlt, F4, δ4, μ4, wa.trans w4, R4, q4⟩
      have bb := (b.next w1).next wa
      exact q3 F3 H3 σ3 R3 ((eb.next w1).next wa) _ ⟨back, bb.rt, bb.nx, back⟩
    · have e : i = ds.length := by omega
      subst e
      exact .inl ⟨wk.stop F' H' w'.f R'.m.ex, b.nx F' H' σ' δ' μ' (w1.trans w') R' (hend δ' μ' hI)⟩)
theorem wsx_for {tg iter : Expr} {body : List Stmt} (is : List Nat) (hp : PassesOwn (model X.prog X.w) X.A X.env X.xe) (hc : X.calm = true)
    (h : WI X tg iter δ μ fun ds μ1 => ∃ I : Nat → Dl → Cells → Prop, I 0 δ μ1 ∧ (∀ i d δ' μ', ds[i]? = some d → I i δ' μ' → WGo X is tg (.d d) δ' μ' fun δ2 μ2 => WBx X W er body δ2 μ2 { nx := I (i + 1), rt := D.rt, bk := D.nx, ct := I (i + 1) }) ∧ ∀ δ' μ', I ds.length δ' μ' → D.nx δ' μ')
    (hs : ∀ x, foldedSetIterable iter X.env x = pure x := by intro _; rfl) (hw : itV iter = Vd.d := by rfl) : WSx X W er (.For tg iter body [] pos) δ μ D := wsx_forG is hp hc h hw hs
theorem wbx_names {N : List Str} {sts : List Stmt} (hN : X.N = N) (k : (∀ (i : Nat) x, N[i]? = some x → X.N[i]? = some x) → WBx X W er sts δ μ D) : WBx X W er sts δ μ D := k (by rw [hN]; exact fun _ _ h => h)
theorem wbx_drop {y : Addr × Cont} {sts : List Stmt} (h : WBx X W er sts δ μ D) : WBx X W er sts δ (y :: μ) D := fun F H σ R eb De b => by
  have R' : Rp X.K F H σ δ μ := ⟨⟨R.m.ex, (List.nodup_cons.mp R.m.nd).2, fun b ds m => R.m.cel b ds (List.mem_cons_of_mem _ m)⟩, R.len, R.env⟩
  have w : Fw (ks (y :: μ)) (ks μ) F H F H := Fw.refl.sub (fun _ h => h) fun x m => .inl (List.mem_cons_of_mem _ m)
  exact h F H σ R' (eb.next w) De (b.next w)
theorem wbx_frz {p : Addr} {ds : List PyData} {sts : List Stmt} (i : Nat) (js : List Nat) (hi : μ[i]? = some (p, (ds : Cont))) (hj : ∀ j ∈ js, δ[j]? = some (some (.a p))) (h : WBx X W er sts (js.foldl (fun d j => d.set j (some (.d (.list ds)))) δ) (μ.eraseIdx i) D) (pl : plS ds := by repeat' first | exact plS_nil | exact plS_map (fun _ => rfl) | refine plS_app ?_ ?_ | refine plS_cons rfl ?_ | assumption) : WBx X W er sts δ μ D := fun F H σ R eb De b => by
  have pm : μ.Perm ((p, ds) :: μ.eraseIdx i) := by
    obtain ⟨hl, e⟩ := List.getElem?_eq_some_iff.mp hi
    rw [← e]
    exact perm_erase hl
  obtain ⟨F', R', w⟩ := (R.perm pm).frz pl js hj
  have w' : Fw (ks μ) (ks (μ.eraseIdx i)) F H F' H := w.sub (fun x m => (pm.map Prod.fst).mem_iff.mpr m) fun x m => .inl m
  exact h F' H σ R' (eb.next w') De (b.next w')
end
/-! ### raise -/
/-- a class of the program's own errors: what its making needs -/
def ExcM (P : Program) (w : World) (K : PySem.W.Frag) (mg : Str → Option Value) (base : Heap) (k : Nat) (x f : Str) (C : Addr) : Prop :=
  ∃ (B newId initId : String) (bmB : List Value) (fI : Addr) (fd : FuncData) (ps : List Str), Bas B newId initId bmB ∧ Oxg K C newId bmB ∧ PySem.W.findIn K (.ref C) "__init__" = some (some (.ref fI)) ∧ PySem.W.typeIn K (.ref fI) = some (.type "function") ∧
    FnOk P w K mg base CX0 k fI fd ps (spIni C f (Fm K)) ∧ Binds K fd ps [] ∧ mg x = some (.ref C)
/-- what may be shown -/
def FmD : PyData → Prop
  | .int i => i.natAbs.log2 < 1920
  | .tuple ds => ∃ ns : List Int, ds = intsD ns ∧ ns.length ≤ 1000 ∧ ∀ i ∈ ns, i.natAbs.log2 < 1920
  | _ => False
theorem fm_of {K : PySem.W.Frag} {F H : Hp} {d : PyData} {v : V} (e : Same F H) (h : De K F v d) (f : FmD d) : Fm K H v := by
  cases h with
  | int i => exact .int i f
  | tup h1 h2 h3 =>
    obtain ⟨ns, rfl, hl, hb⟩ := f
    have hv := dps_ints h3
    subst hv
    exact .tup (.inl (.inr ⟨_, e _ _ h1⟩)) hl hb
  | non => exact f.elim
  | bl b => exact f.elim
  | str x => exact f.elim
  | lst h1 h2 => exact f.elim
section
variable {X : Cx} {W : WX} {er : ErP} {δ : Dl} {μ : Cells} {e : Expr} {pos p pos' : Pos} {D : Dn}
theorem wsx_raise {P : Program} {w : World} {K : PySem.W.Frag} {mg : Str → Option Value} {base : Heap} {k : Nat} {x f : Str} {C : Addr} (m : ExcM P w K mg base k x f C) (tk : Takes X W) (hc : X.calm = true) (hr : Room (k + 1) X.A) (hg : Gl X x)
    (h : WE X e δ μ fun z μ1 => ∃ d, z = .d d ∧ FmD d ∧ er ⟨C, f, d⟩ δ μ1) (hX : (X.prog, X.w, X.K, X.mg, X.base) = (P, w, K, mg, base) := by rfl)
    (hdb : (x == ("__debug__" : Str)) = false := by decide) (he : starEach (e :: []) X.env = (false, eval e X.env) :: starEach [] X.env := by rfl) (hpl : (backTo pos (starEach [] X.env)).any (·.1) = false := by rfl) :
    WSx X W er (.Raise (some (.Call (.Name x p) [e] [] pos)) none pos') δ μ D := fun F H σ R eb De b => by
  obtain ⟨B, newId, initId, bmB, fI, fd, ps, Z, T, iC, tI, F1, hb, hm⟩ := m
  cases hX
  refine toS (ps_raise hc tk (pmk_own Z T iC tI F1 hr hb hg hm (pa_cons (pcE X e) pa_nil he) hdb he hpl)) ?_
  refine h F H σ R _ fun v z F1 H1 μ1 w1 R1 o1 q => ?_
  obtain ⟨d, rfl, hf, q⟩ := q
  refine ⟨v, rfl, fun a na => fm_of (Same.trans R1.m.ex (same_new na)) o1 hf, fun dd nd => ?_⟩
  obtain ⟨m2, w2⟩ := R1.m.new (o := .xd [(f, v)]) nd
  exact eb ⟨C, f, d⟩ _ _ _ _ σ δ μ1 (w1.trans w2) (R1.to w2.f m2) ⟨rfl, dd, v, rfl, upd_same, dp_up w2.f _ _ o1⟩ q
end
/-! ### calls of defs that may raise -/
abbrev TrX := List Vd → Cells → (Vd → Cells → Prop) → (Exn → Cells → Prop) → Prop
def spX (K : PySem.W.Frag) (T : TrX) : Sp := fun vs H Q E => ∃ F xs μ R RE, RpM K F H μ ∧ VAll K F xs vs ∧ T xs μ R RE ∧ (∀ v x F' H' μ', Fw (ks μ) (ks μ') F H F' H' → RpM K F' H' μ' → VOk K F' x v → R x μ' → Q v H') ∧
  ∀ ex cls d F' H' μ', Fw (ks μ) (ks μ') F H F' H' → RpM K F' H' μ' → ExOk K F' ex cls d → RE ex μ' → E cls d H'
def CalX (P : Program) (w : World) (K : PySem.W.Frag) (mg : Str → Option Value) (base : Heap) (k : Nat) (x : Str) (T : TrX) : Prop :=
  ∃ f fd ps, FnG P w K mg base (L2.CX P w) k f fd ps (spX K T) ∧ mg x = some (.ref f) ∧ PySem.W.keepIn K (.ref f) = true ∧ Binds K fd ps []
def CalKX (P : Program) (w : World) (K : PySem.W.Frag) (mg : Str → Option Value) (base : Heap) (k : Nat) (x : Str) (ks : List Str) (is : List Nat) (T : TrX) : Prop :=
  ∃ f fd ps, FnG P w K mg base (L2.CX P w) k f fd ps (spX K T) ∧ mg x = some (.ref f) ∧ PySem.W.keepIn K (.ref f) = true ∧ KBinds K fd ps ks (gK ks.length is) (gK ks.length is)
def WCx (X : Cx) (W : WX) (E : Expr) (T : TrX) (δ : Dl) (μ : Cells) (QA : List Vd → Cells → Prop) : Prop := ∀ F H σ, Rp X.K F H σ δ μ → ∀ QV : VK,
  (∀ vs xs F' H' μ', Fw (ks μ) (ks μ') F H F' H' → Rp X.K F' H' σ δ μ' → VAll X.K F' xs vs → QA xs μ' → spX X.K T vs H' QV (fun cls d H2 => W cls d σ H2)) → cE X E σ H QV
section
variable {X : Cx} {W : WX} {er : ErP} {δ : Dl} {μ : Cells} {e E : Expr} {es : List Expr} {kws : List Keyword} {pos p : Pos} {Q : Vd → Cells → Prop}
theorem wcx_pos {P : Program} {w : World} {K : PySem.W.Frag} {mg : Str → Option Value} {base : Heap} {T : TrX} {k : Nat} {x : Str} {QA : List Vd → Cells → Prop} (c : CalX P w K mg base k x T) (tk : Takes X W) (hr : Room k X.A) (hg : Gl X x) (h : WA X (e :: es) δ μ QA)
    (hgd : X.A.guards = some [] := by assumption) (hX : (X.prog, X.w, X.K, X.mg, X.base) = (P, w, K, mg, base) := by rfl)
    (hdb : (x == ("__debug__" : Str)) = false := by decide) (he : starEach (e :: es) X.env = (false, eval e X.env) :: starEach es X.env := by rfl) (hpl : (backTo pos (starEach es X.env)).any (·.1) = false := by rfl) :
    WCx X W (.Call (.Name x p) (e :: es) [] pos) T δ μ QA := fun F H σ R QV kk => by
  obtain ⟨f, fd, ps, ok, hm, hk, hb⟩ := c
  cases hX
  exact toE (pe_callSg (E := L2.WE W) ok hr hgd hg hm hk hb (passAt tk) (pcA X (e :: es)) hdb he hpl) (h F H σ R _ fun vs xs F1 H1 μ1 w1 R1 o1 q => kk vs xs F1 H1 μ1 w1 R1 o1 q)
theorem wcx_kw {P : Program} {w : World} {K : PySem.W.Frag} {mg : Str → Option Value} {base : Heap} {T : TrX} {k : Nat} {x : Str} {ks : List Str} {is : List Nat} {QA : List Vd → Cells → Prop} (c : CalKX P w K mg base k x ks is T) (tk : Takes X W) (hr : Room k X.A) (hg : Gl X x) (h : WK X kws δ μ fun xs μ1 => QA (gK ks.length is [] xs) μ1)
    (hgd : X.A.guards = some [] := by assumption) (hX : (X.prog, X.w, X.K, X.mg, X.base) = (P, w, K, mg, base) := by rfl) (hall : (backToKw pos (keywordEach kws X.env)).all (·.1.isSome) = true := by rfl) (hks : (backToKw pos (keywordEach kws X.env)).filterMap (·.1) = ks := by rfl)
    (hdb : (x == ("__debug__" : Str)) = false := by decide)
    (hpl : ((backTo pos (starEach [] X.env)).any (·.1) || (backToKw pos (keywordEach kws X.env)).any (·.1.isNone)) = false := by rfl) :
    WCx X W (.Call (.Name x p) [] kws pos) T δ μ QA := fun F H σ R QV kk => by
  obtain ⟨f, fd, ps, ok, hm, hk, hb⟩ := c
  cases hX
  refine toE (pe_callKg (E := L2.WE W) ok hr hgd hg hm hk hb (passAt tk) (pcK X kws) hall hks hdb hpl) (h F H σ R _ fun vs xs F1 H1 μ1 w1 R1 o1 q => ?_)
  exact kk (gK ks.length is [] vs) _ F1 H1 μ1 w1 R1 (paired_gK .nil o1) q
theorem wex_clP {T : TrX} (h : WCx X W E T δ μ fun xs μ1 => T xs [] (fun z μ' => Q z (μ' ++ μ1)) fun ex μ' => er ex δ (μ' ++ μ1)) : WEx X W er E δ μ Q := fun F H σ R eb QV kk =>
  h F H σ R QV fun vs xs F1 H1 μ1 w1 R1 o1 q => by
    have m0 : RpM X.K F1 H1 [] := ⟨R1.m.ex, List.nodup_nil, fun _ _ z => by cases z⟩
    refine ⟨F1, xs, [], _, _, m0, o1, q, fun v z F2 H2 μ2 w2 m2 o2 q2 => ?_, fun ex cls d F2 H2 μ2 w2 m2 o2 q2 => ?_⟩
    · obtain ⟨m3, w3⟩ := (R1.m : RpM X.K F1 H1 ([] ++ μ1)).frame w2 m2
      exact kk v z F2 H2 _ (w1.trans w3) (R1.to w2.f m3) o2 q2
    · obtain ⟨m3, w3⟩ := (R1.m : RpM X.K F1 H1 ([] ++ μ1)).frame w2 m2
      exact eb ex cls d F2 H2 σ δ _ (w1.trans w3) (R1.to w2.f m3) o2 q2
end
/-- a def's body that may raise runs here -/
def bXx (P : Program) (w : World) (K : PySem.W.Frag) (mg : Str → Option Value) (base : Heap) (N : List Str) (qual : Str) (sc : Scope) (f : Addr) (cdv : Value) (A : Around) (outer : List Env) (s : Shared) (H : Hp) (E : XK) : Cx := cxOf (L2.CX P w) P w K mg base N qual sc f cdv A outer s H E
theorem bXx_takes {P : Program} {w : World} {K : PySem.W.Frag} {mg : Str → Option Value} {base : Heap} {N : List Str} {qual : Str} {sc : Scope} {f : Addr} {cdv : Value} {A : Around} {outer : List Env} {s : Shared} {H : Hp} {E : XK} : Takes (bXx P w K mg base N qual sc f cdv A outer s H E) (fun cls d _ H => E cls d H) := takes_of rfl rfl rfl rfl
theorem bXx_passes {P : Program} {w : World} {K : PySem.W.Frag} {mg : Str → Option Value} {base : Heap} {N : List Str} {qual : Str} {sc : Scope} {f : Addr} {cdv : Value} {A : Around} {outer : List Env} {s : Shared} {H : Hp} {E : XK} : PassesOwn (model P w) (bXx P w K mg base N qual sc f cdv A outer s H E).A (bXx P w K mg base N qual sc f cdv A outer s H E).env (bXx P w K mg base N qual sc f cdv A outer s H E).xe := passes_of (X := bXx P w K mg base N qual sc f cdv A outer s H E) rfl
theorem start_get {K : PySem.W.Frag} {G : Hp} {N : List Str} {xs : List Vd} {vs : List V} (ha : VAll K G xs vs) (el : xs.length = vs.length) {i : Nat} {y : Vd} (hy : (startD N xs)[i]? = some (some y)) : ∃ v, (L2.start N vs)[i]? = some (some v) ∧ VOk K G y v := by
  unfold startD at hy
  unfold L2.start
  by_cases hi : i < xs.length
  · rw [List.getElem?_append_left (by simpa using hi), List.getElem?_map] at hy
    rcases paired_get i ha with ⟨z, _⟩ | ⟨x, v, e1, e2, e3⟩
    · rw [z] at hy
      cases hy
    · rw [e1] at hy
      cases hy
      exact ⟨v, by rw [List.getElem?_append_left (by simp; omega), List.getElem?_map, e2]; rfl, e3⟩
  · rw [List.getElem?_append_right (by simp; omega)] at hy
    have := List.mem_of_getElem? hy
    rw [List.mem_replicate] at this
    cases this.2
theorem fn_wx {P : Program} {w : World} {K : PySem.W.Frag} {mg : Str → Option Value} {base : Heap} {x qual : Str} {st : Stmt} {f : Addr} {fd : FuncData} {N ps : List Str} {k : Nat} {T : TrX} (F : Fun K x qual st f fd) (S : FnScope N ps (defScope st))
    (hN : ps.length ≤ N.length) (len : ∀ xs μ R RE, T xs μ R RE → xs.length = ps.length)
    (body : ∀ (cdv : Value) (A : Around) (outer : List Env) (s : Shared) (H : Hp) (E : XK), Room k (bXx P w K mg base N qual (defScope st) f cdv A outer s H E).A → (bXx P w K mg base N qual (defScope st) f cdv A outer s H E).A.guards = some [] → ∀ xs μ R RE, T xs μ R RE →
      WBx (bXx P w K mg base N qual (defScope st) f cdv A outer s H E) (fun cls d _ H => E cls d H) (fun ex _ μ' => Keep μ' (RE ex)) (defBody st) (startD N xs) μ { nx := fun _ μ' => Keep μ' (R (.d .none)), rt := fun z μ' => Keep μ' (R z) }) : FnG P w K mg base (L2.CX P w) (k + 1) f fd ps (spX K T) := by
  refine FnG.body F S (fun vs H Q E h => ?_) (fun cdv A outer s H vs Q E hr hgd h => ?_)
  · obtain ⟨G, xs, μ, R, RE, _, ha, hT, _⟩ := h
    rw [← Paired.length ha]
    exact len _ _ _ _ hT
  · obtain ⟨G, xs, μ, R, RE, m, ha, hT, c, cx⟩ := h
    have el : xs.length = vs.length := Paired.length ha
    refine ⟨_, pcB (bXx P w K mg base N qual (defScope st) f cdv A outer s H E) _, body cdv A outer s H E hr hgd xs μ R RE hT G H (start N vs) ⟨m, ?_, fun i y hy => ?_⟩ (fun ex cls d F' H' σ' δ' μ' w' R' o' q => by
      obtain ⟨k', w2, m2, q⟩ := RpM.kept w' R'.m q
      exact cx ex cls d F' H' k' w2 m2 o' q) _ ⟨fun F' H' σ' δ' μ' w' R' q => by
      obtain ⟨k', w2, m2, q⟩ := RpM.kept w' R'.m q
      exact c _ (.d .none) F' H' k' w2 m2 .non q, fun v z F' H' μ' w' m' o' q => by
      obtain ⟨k', w2, m2, q⟩ := RpM.kept w' m' q
      exact c v z F' H' k' w2 m2 o' q, fun _ _ _ _ _ _ _ q => q.elim, fun _ _ _ _ _ _ _ q => q.elim⟩⟩
    · show (L2.start N vs).length = (startD N xs).length
      simp [L2.start, startD, el]
    · exact start_get ha el hy
theorem calx_of {P : Program} {w : World} {K : PySem.W.Frag} {mg : Str → Option Value} {base : Heap} {x : Str} {f : Addr} {fd : FuncData} {ps : List Str} {k : Nat} {T : TrX} (ok : FnG P w K mg base (L2.CX P w) k f fd ps (spX K T)) (g : mg x = some (.ref f)) (kp : PySem.W.keepIn K (.ref f) = true) (b : Binds K fd ps []) :
    CalX P w K mg base k x T := ⟨f, fd, ps, ok, g, kp, b⟩
/-! ### try -/
section
variable {X : Cx} {W : WX} {er : ErP} {δ : Dl} {μ : Cells} {D : Dn} {n y : Str} {i j : Nat} {body : List Stmt} {t : Expr} {cs : List Value} {p1 p2 p3 hpos pos : Pos}
/-- what becomes of an exception of the body -/
def erT (K : PySem.W.Frag) (cs : List Value) (i j : Nat) (D : Dn) (er : ErP) : ErP := fun ex δ' μ' => ∃ b, PySem.W.exmAny K (.ref ex.C) cs = some b ∧
  (b = true → ∀ a, D.nx (((δ'.set i (some (.e a ex.C ex.f ex.x))).set j (some (.e a ex.C ex.f ex.x))).set i none) μ') ∧ (b = false → er ex δ' μ')
theorem wsx_tryC (hs : X.stack = X.env :: X.outer) (hf : X.env.frame = some X.env.locals) (hex : X.ex = []) (hN : X.N.Nodup) (hi : X.N[i]? = some n) (hj : X.N[j]? = some y)
    (hln : X.env.kindOf n = some .local) (hly : Loc X.env.scope y) (hlf : X.fn y = true ∨ X.env.scope.names.lookup y = some .local) (T : Tst X t cs) (tk : Takes X W) (hnd : (n == ("__debug__" : Str)) = false) (hnc : (n == ("__classdict__" : Str)) = false)
    (h : ∀ (W' : WX) (pn : List (Addr × Obj)) (xe : Value → Shared → Prop), Takes (X.tr pn xe) W' → PassesOwn (model X.prog X.w) X.A X.env xe → WBx (X.tr pn xe) W' (erT X.K cs i j D er) body δ μ D)
    (hsw : swapsWith (.Name n p2) (some (.Name y p1)) p3.line X.env = pure false := by rfl) :
    WSx X W er (.Try body [.ExceptHandler (some t) (some n) [.Assign [.Name y p1] (.Name n p2) p3] hpos] [] [] pos) δ μ D := fun F H σ R eb De b =>
  toS (ps_try_keepG (tb := fun W' D' σ' H' => ∀ (pn : List (Addr × Obj)) (xe : Value → Shared → Prop), Takes (X.tr pn xe) W' → PassesOwn (model X.prog X.w) X.A X.env xe → cB (X.tr pn xe) body D' σ' H') hs hf hex hN hi hj hln hly hlf T tk hnd hnc
    (fun W' pn xe tk' po => ⟨fun pins s σ' H' D' I hh => hh pn xe tk' po pins s I⟩) hsw) (fun pn xe tk' po => h _ pn xe tk' po F H σ R (fun ex cls d F' H' σ' δ' μ' w' R' o' q => by
      obtain ⟨k, q1, q2, q3⟩ := q
      obtain ⟨rfl, dd, wv, rfl, e1, e2⟩ := o'
      refine ⟨k, q1, fun hk a na => ?_, fun hk => eb ex _ _ F' H' σ' δ' μ' w' R' ⟨rfl, dd, wv, rfl, e1, e2⟩ (q3 hk)⟩
      obtain ⟨m2, w2⟩ := R'.m.new (o := exv a (.ref ex.C) (some dd)) na
      have ov : VOk X.K (upd F' a (exv a (.ref ex.C) (some dd))) (.e a ex.C ex.f ex.x) (.ref a) := ⟨rfl, dd, wv, upd_same, w2.f _ _ e1, dp_up w2.f _ _ e2⟩
      exact b.nx _ _ _ _ μ' (w'.trans w2) ((((R'.to w2.f m2).put i ov).put j ov).out i) (q2 hk a)) De b)
theorem wsx_try (hs : X.stack = X.env :: X.outer) (hf : X.env.frame = some X.env.locals) (hex : X.ex = []) (hN : X.N.Nodup) (hi : X.N[i]? = some n) (hj : X.N[j]? = some y)
    (hln : X.env.kindOf n = some .local) (hly : X.env.kindOf y = some .local) (T : Tst X t cs) (tk : Takes X W) (hnd : (n == ("__debug__" : Str)) = false) (hnc : (n == ("__classdict__" : Str)) = false)
    (h : ∀ (W' : WX) (pn : List (Addr × Obj)) (xe : Value → Shared → Prop), Takes (X.tr pn xe) W' → PassesOwn (model X.prog X.w) X.A X.env xe → WBx (X.tr pn xe) W' (erT X.K cs i j D er) body δ μ D)
    (hsw : swapsWith (.Name n p2) (some (.Name y p1)) p3.line X.env = pure false := by rfl) :
    WSx X W er (.Try body [.ExceptHandler (some t) (some n) [.Assign [.Name y p1] (.Name n p2) p3] hpos] [] [] pos) δ μ D := wsx_tryC hs hf hex hN hi hj hln (.inl hly) (.inr hly) T tk hnd hnc h hsw
/-- a try that lets nothing out -/
theorem ws_tryC (hs : X.stack = X.env :: X.outer) (hf : X.env.frame = some X.env.locals) (hex : X.ex = []) (hN : X.N.Nodup) (hi : X.N[i]? = some n) (hj : X.N[j]? = some y)
    (hln : X.env.kindOf n = some .local) (hly : Loc X.env.scope y) (hlf : X.fn y = true ∨ X.env.scope.names.lookup y = some .local) (T : Tst X t cs) (hnd : (n == ("__debug__" : Str)) = false) (hnc : (n == ("__classdict__" : Str)) = false)
    (h : ∀ (W' : WX) (pn : List (Addr × Obj)) (xe : Value → Shared → Prop), Takes (X.tr pn xe) W' → PassesOwn (model X.prog X.w) X.A X.env xe → WBx (X.tr pn xe) W' (erT X.K cs i j D fun _ _ _ => False) body δ μ D)
    (hsw : swapsWith (.Name n p2) (some (.Name y p1)) p3.line X.env = pure false := by rfl) :
    WS X (.Try body [.ExceptHandler (some t) (some n) [.Assign [.Name y p1] (.Name n p2) p3] hpos] [] [] pos) δ μ D := fun F H σ R De b =>
  wsx_tryC (W := fun _ _ _ _ => False) hs hf hex hN hi hj hln hly hlf T takes0 hnd hnc h hsw F H σ R (fun _ _ _ _ _ _ _ _ _ _ _ q => q) De b
/-- a try that lets nothing out -/
theorem ws_try (hs : X.stack = X.env :: X.outer) (hf : X.env.frame = some X.env.locals) (hex : X.ex = []) (hN : X.N.Nodup) (hi : X.N[i]? = some n) (hj : X.N[j]? = some y)
    (hln : X.env.kindOf n = some .local) (hly : X.env.kindOf y = some .local) (T : Tst X t cs) (hnd : (n == ("__debug__" : Str)) = false) (hnc : (n == ("__classdict__" : Str)) = false)
    (h : ∀ (W' : WX) (pn : List (Addr × Obj)) (xe : Value → Shared → Prop), Takes (X.tr pn xe) W' → PassesOwn (model X.prog X.w) X.A X.env xe → WBx (X.tr pn xe) W' (erT X.K cs i j D fun _ _ _ => False) body δ μ D)
    (hsw : swapsWith (.Name n p2) (some (.Name y p1)) p3.line X.env = pure false := by rfl) :
    WS X (.Try body [.ExceptHandler (some t) (some n) [.Assign [.Name y p1] (.Name n p2) p3] hpos] [] [] pos) δ μ D := ws_tryC hs hf hex hN hi hj hln (.inl hly) (.inr hly) T hnd hnc h hsw
end
/-! ### a caught exception, looked at -/
/-- what the written part says of a class, so that its instances can be asked -/
structure XCls (K : PySem.W.Frag) (C : Addr) (B : String) : Prop where
  cl : (PySem.W.clsIn K C).isSome = true
  ty : PySem.W.typeIn K (.ref C) = some (.type "type")
  ga : PySem.W.findIn K (.ref C) "__getattribute__" = some (some (.builtin "BaseException.__getattribute__"))
  gg : PySem.W.findIn K (.ref C) "__getattr__" = some none
  be : PySem.W.subIn K (.ref C) (.type "BaseException") = some true
  hd : PySem.W.hasDictIn K C = true
  ca : PySem.W.findIn K (.ref C) "__class__" = some (some (.builtin "object.__class__"))
  sp : PySem.W.specialIn K (.builtin "object.__class__") "__get__" = some (some (.builtin "getset_descriptor.__get__"))
  tk : PySem.W.takesIn K (.builtin "object.__class__") = some true
  mo : PySem.W.mroIn K C (.type "object") = some true
  me : PySem.W.subIn K (.ref C) (.ref C) = some true
  sb : ∀ T ∈ ["ValueError", "LookupError", "RuntimeError", "OverflowError", "KeyError", "IndexError"], PySem.W.subIn K (.ref C) (.type T) = some (T == B)
theorem exm_me {K : PySem.W.Frag} {C : Addr} {B : String} (x : XCls K C B) : PySem.W.exmOne K (.ref C) (.ref C) = some true := PySem.W.exm_ref x.be x.hd x.ty x.me
theorem exm_sub {K : PySem.W.Frag} {C D : Addr} {B : String} {b : Bool} (x : XCls K D B) (h : PySem.W.subIn K (.ref C) (.ref D) = some b) : PySem.W.exmOne K (.ref C) (.ref D) = some b := PySem.W.exm_ref x.be x.hd x.ty h
theorem kit_sub {K : PySem.W.Frag} {C D : Addr} {B B' : String} {b : Bool} (y : XCls K C B') (x : XCls K D B) (h : PySem.W.subIn K (.ref C) (.ref D) = some b) : PySem.W.kitOne K (.ref C) (.ref D) = some b := by
  unfold PySem.W.kitOne
  by_cases e : C = D
  · subst e
    have z := h.symm.trans y.me
    rw [if_pos (beq_self_eq_true _)]
    exact z.symm
  · rw [if_neg (by
      intro z
      exact e (Value.ref.inj (beq_iff_eq.mp z)))]
    unfold PySem.W.kitCls
    dsimp only
    rw [if_pos (show ((PySem.W.clsIn K D).isSome && PySem.W.typeIn K (.ref D) == some (.type "type")) = true by rw [x.cl, x.ty]; rfl)]
    exact h
theorem kit_blt {K : PySem.W.Frag} {C : Addr} {B T : String} (x : XCls K C B) (hT : T ∈ ["ValueError", "LookupError", "RuntimeError", "OverflowError", "KeyError", "IndexError"]) (hm : PySem.W.kitMeta T = true) : PySem.W.kitOne K (.ref C) (.type T) = some (T == B) := by
  unfold PySem.W.kitOne
  rw [if_neg (by intro z; cases beq_iff_eq.mp z)]
  unfold PySem.W.kitCls
  dsimp only
  rw [if_pos hm]
  exact x.sb T hT
/-- a class's name -/
inductive ClsN (X : Cx) : Expr → V → Value → Prop
  | own {x : Str} {p : Pos} {C : Addr} (hg : Gl X x) (hm : X.mg x = some (.ref C)) (hd : (x == ("__debug__" : Str)) = false) : ClsN X (.Name x p) (.ref C) (.ref C)
  | blt {x : Str} {p : Pos} {T : String} (hg : Gl X x) (hm : X.mg x = none) (hv : bootBuiltins x = some (.type T)) (hn : x ≠ "__name__") (hd : (x == ("__debug__" : Str)) = false) : ClsN X (.Name x p) (.ty T) (.type T)
theorem ClsN.pe {X : Cx} {e : Expr} {c : V} {cv : Value} (h : ClsN X e c cv) : PE X e (tC c) := by
  cases h with
  | own hg hm hd => exact ⟨fun pins s σ H Q I q => ld_glob I hg hm ⟨.ref _, H, I, (rfl : _ = _), q⟩ hd⟩
  | blt hg hm hv hn hd => exact pe_bltn (v := .ty _) hg hm hv rfl hn hd
theorem ClsN.rel {X : Cx} {e : Expr} {c : V} {cv : Value} (h : ClsN X e c cv) {u : Value} (r : RelV c u) : u = cv := by
  cases h with
  | own hg hm hd => exact r
  | blt hg hm hv hn hd => exact r
/-- isinstance(e, c) -/
def rIsX (K : PySem.W.Frag) : List V → Hp → VK → Prop := fun xs H Q => ∃ (a C dd : Addr) (fs : List (Str × V)) (c : V) (B : String), xs = [.ref a, c] ∧ XCls K C B ∧ H a = some (exv a (.ref C) (some dd)) ∧ H dd = some (.xd fs) ∧
  ((∃ (cv : Value) (b : Bool), (∀ u, RelV c u → u = cv) ∧ PySem.W.kitOne K (.ref C) cv = some b ∧ Q (.bl b) H) ∨
    ∃ (tp : Addr) (vs : List V) (cvs : List Value) (b : Bool), c = .ref tp ∧ SqT K H tp vs ∧ (∀ us, Vals vs us → us = cvs) ∧ PySem.W.kitAny K (.ref C) cvs = some b ∧ Q (.bl b) H)
theorem exv_inst {X : Cx} {pins : List (Addr × Obj)} {σ : L2.St} {H : Hp} {s : Shared} (I : Inv X pins σ H s) {a C dd : Addr} {fs : List (Str × V)} (ha : H a = some (exv a (.ref C) (some dd))) (hd : H dd = some (.xd fs)) :
    ∃ oe od mA, PySem.W.InstAt s.heap a oe C (some od) ∧ s.heap.Ns1 dd mA ∧ s.heap.get? dd = some od ∧ ∀ f, RelO (fs.lookup f) (mA f) := by
  obtain ⟨oe, vs, h1, h2, h3, h4⟩ := exv_at I.hok ha
  have hx : ObjOk X.prog X.w H s.heap dd (.xd fs) := I.hok dd _ hd
  obtain ⟨mA, hns, hr⟩ := hx
  obtain ⟨od, ho, hl⟩ := lookIn_ns hns
  exact ⟨oe, od, mA, ⟨h1, h2, by unfold PySem.W.notCls; rw [h4], by rw [h3]; exact ho⟩, hns, ho, hr⟩
theorem call_isX {X : Cx} : CallR X (.builtin "isinstance") (rIsX X.K) := fun pins s σ H xs us Q I r h => by
  obtain ⟨a, C, dd, fs, c, B, rfl, x, ha, hd, q⟩ := h
  cases r with
  | cons rx rr =>
    cases rr with
    | cons rt rr =>
      cases rr
      cases rx
      obtain ⟨oe, od, mA, J, _⟩ := exv_inst I ha hd
      have Z := PySem.W.kitx_exc (x := a) (ox := oe) (od := some od) x.cl x.ga x.gg x.be x.ca x.sp x.tk x.mo
      rcases q with ⟨cv, b, hcv, e, q⟩ | ⟨tp, vs, cvs, b, rfl, ht, hcv, e, q⟩
      · have ec := hcv _ rt
        subst ec
        exact PySem.W.kia_one Z I.kIn J e (fun z => nomatch z) fun tk => ⟨.bl b, H, I.kept (t' := tk) fun _ _ z => z, rfl, q⟩
      · cases rt
        obtain ⟨its, rv, ⟨ot, g1, g2, n, g3⟩, _⟩ := I.tuple ht
        have ec := hcv _ rv
        subst ec
        obtain ⟨oc, odd, odt, osl⟩ := ot
        dsimp only at g2 g3
        subst g2 g3
        exact PySem.W.kia_tup Z I.kIn J g1 e (fun z => nomatch z) fun tk => ⟨.bl b, H, I.kept (t' := tk) fun _ _ z => z, rfl, q⟩
/-- names of classes, one behind the other -/
inductive ClsA (X : Cx) : List Expr → List V → List Value → Prop
  | nil : ClsA X [] [] []
  | cons {e : Expr} {es : List Expr} {c : V} {cs : List V} {v : Value} {vs : List Value} (h : ClsN X e c v) (hs : starEach (e :: es) X.env = (false, eval e X.env) :: starEach es X.env) (r : ClsA X es cs vs) : ClsA X (e :: es) (c :: cs) (v :: vs)
def tCs : List V → TA
  | [] => tNil
  | c :: cs => tCons (tC c) (tCs cs)
theorem ClsA.pa {X : Cx} {es : List Expr} {cs : List V} {vs : List Value} (h : ClsA X es cs vs) : PA X es (tCs cs) := by
  induction h with
  | nil => exact pa_nil
  | cons h hs r ih => exact pa_cons h.pe ih hs
theorem ClsA.rel {X : Cx} {es : List Expr} {cs : List V} {vs : List Value} (h : ClsA X es cs vs) : ∀ us, Vals cs us → us = vs := by
  induction h with
  | nil =>
    intro us r
    cases r
    rfl
  | cons h hs r ih =>
    intro us q
    cases q with
    | cons q1 q2 => rw [h.rel q1, ih _ q2]
theorem tCs_run : ∀ (cs acc : List V) {σ : L2.St} {H : Hp} {Q : List V → Hp → Prop}, Q cs H → tCs cs σ H Q
  | [], _, _, _, _, q => q
  | c :: cs, acc, σ, H, Q, q => tCs_run cs acc (Q := fun xs H2 => Q (c :: xs) H2) q
section
variable {X : Cx} {δ : Dl} {μ : Cells} {e : Expr} {pos p : Pos} {Q : Vd → Cells → Prop} {mg : Str → Option Value}
theorem we_isX {c : Expr} {cv : V} {v : Value} (B : Bl mg) (hg : Gl X "isinstance") (hc : ClsN X c cv v) (h : WE X e δ μ fun x μ1 => ∃ (a C : Addr) (f : Str) (d : PyData) (N : String) (b : Bool), x = .e a C f d ∧ XCls X.K C N ∧ PySem.W.kitOne X.K (.ref C) v = some b ∧ Q (.d (.bool b)) μ1) (hm : X.mg = mg := by rfl)
    (s1 : starEach [e, c] X.env = (false, eval e X.env) :: starEach [c] X.env := by rfl) (s2 : starEach [c] X.env = (false, eval c X.env) :: starEach [] X.env := by rfl) (s3 : (backTo pos (starEach [c] X.env)).any (·.1) = false := by rfl) :
    WE X (.Call (.Name "isinstance" p) [e, c] [] pos) δ μ Q := fun F H σ R QV k =>
  toE (pe_callB call_isX hg (hm ▸ B.isi) PyProof.Rows.boot_isinstance (pa_cons (pcE X e) (pa_cons hc.pe pa_nil s2) s1) (by decide) (by decide) s1 s3)
    (h F H σ R _ fun u x F1 H1 μ1 w1 R1 o1 q => by
      obtain ⟨a, C, f, d, N, b, rfl, x, e1, q⟩ := q
      obtain ⟨rfl, dd, w, g1, g2, _⟩ := o1
      exact ⟨a, C, dd, _, cv, N, rfl, x, R1.m.ex _ _ g1, R1.m.ex _ _ g2, .inl ⟨v, b, fun u r => hc.rel r, e1, k _ (.d (.bool b)) F1 H1 μ1 w1 R1 (.bl b) q⟩⟩)
theorem we_isXs {es : List Expr} {cs : List V} {vs : List Value} {kk : Nat} {tp : Pos} (B : Bl mg) (hg : Gl X "isinstance") (hc : ClsA X es cs vs) (hl : cs.length ≤ 100) (h : WE X e δ μ fun x μ1 => ∃ (a C : Addr) (f : Str) (d : PyData) (N : String) (b : Bool), x = .e a C f d ∧ XCls X.K C N ∧ PySem.W.kitAny X.K (.ref C) vs = some b ∧ Q (.d (.bool b)) μ1) (hm : X.mg = mg := by rfl)
    (s1 : starEach [e, .Tuple es kk tp] X.env = (false, eval e X.env) :: starEach [.Tuple es kk tp] X.env := by rfl) (s2 : starEach [.Tuple es kk tp] X.env = (false, eval (.Tuple es kk tp) X.env) :: starEach [] X.env := by rfl) (s3 : (backTo pos (starEach [.Tuple es kk tp] X.env)).any (·.1) = false := by rfl) :
    WE X (.Call (.Name "isinstance" p) [e, .Tuple es kk tp] [] pos) δ μ Q := fun F H σ R QV k =>
  toE (pe_callB call_isX hg (hm ▸ B.isi) PyProof.Rows.boot_isinstance (pa_cons (pcE X e) (pa_cons (pe_tup hc.pa) pa_nil s2) s1) (by decide) (by decide) s1 s3)
    (h F H σ R _ fun u x F1 H1 μ1 w1 R1 o1 q => tCs_run cs cs ⟨by rw [sizeLine_eq]; omega, fun q0 nq => by
      obtain ⟨a, C, f, d, N, b, rfl, x, e1, q⟩ := q
      obtain ⟨rfl, dd, w, g1, g2, _⟩ := o1
      obtain ⟨m2, w2⟩ := R1.m.new (o := .tup cs) nq
      exact ⟨a, C, dd, _, .ref q0, N, rfl, x, m2.ex _ _ (w2.f _ _ g1), m2.ex _ _ (w2.f _ _ g2), .inr ⟨q0, cs, vs, b, rfl, .inl (.inl upd_same), hc.rel, e1, k _ (.d (.bool b)) _ _ μ1 (w1.trans w2) (R1.to w2.f m2) (.bl b) q⟩⟩⟩)
/-- e.f -/
theorem we_xf {n : Str} (h : WE X e δ μ fun x μ1 => ∃ (a C : Addr) (d : PyData) (N : String), x = .e a C n d ∧ XCls X.K C N ∧ PySem.W.findIn X.K (.ref C) n = some none ∧ Q (.d d) μ1) (hb : attributeBase e n X.env (eval e X.env) = eval e X.env := by rfl) :
    WE X (.Attribute e n pos) δ μ Q := fun F H σ R QV k =>
  toE (t := fun σ H Q => cE X e σ H fun x H1 => ∃ (a C dd : Addr) (w : V) (N : String), x = .ref a ∧ XCls X.K C N ∧ PySem.W.findIn X.K (.ref C) n = some none ∧ H1 a = some (exv a (.ref C) (some dd)) ∧ H1 dd = some (.xd [(n, w)]) ∧ Q w H1) ⟨fun pins s σ H Q I hq => attr_of hb (thn ((pcE X e).run pins s σ H _ I hq) fun u s1 hh => by
      obtain ⟨x, H1, I1, rx, a, C, dd, w, N, rfl, c, hno, ha, hd, q⟩ := hh
      cases rx
      obtain ⟨oe, od, mA, J, hns, ho, hr⟩ := exv_inst I1 ha hd
      obtain ⟨od', ho', hl⟩ := lookIn_ns hns
      rw [ho] at ho'
      cases ho'
      have l : List.lookup n [(n, w)] = some w := by simp [List.lookup]
      obtain ⟨u, hu, ru⟩ := RelO.some_of (v := w) (o := mA n) (by rw [← l]; exact hr n)
      exact HandSPX.exc_get I1.kIn J c.ga c.gg c.be (PySem.W.findObj_own c.hd hno rfl (by rw [hl, hu])) (handed_of ru) ⟨w, H1, I1.tok _, ru, q⟩)⟩
    (h F H σ R _ fun v x F1 H1 μ1 w1 R1 o1 q => by
      obtain ⟨a, C, d, N, rfl, c, hno, q⟩ := q
      obtain ⟨rfl, dd, w, g1, g2, g3⟩ := o1
      exact ⟨a, C, dd, w, N, rfl, c, hno, R1.m.ex _ _ g1, R1.m.ex _ _ g2, k w (.d d) F1 H1 μ1 w1 R1 g3 q⟩)
theorem ow_isNE {K : PySem.W.Frag} {a C : Addr} {f : Str} {d : PyData} (h : Q (.d (.bool false)) μ) : OpW K (fun x y H Q => y = .non ∧ Q (.bl (decide (x = .non))) H) (.e a C f d) (.d .none) μ Q := fun F H v u m o1 o2 QV c => by
  obtain ⟨rfl, _⟩ := o1
  exact ⟨dp_non o2, c (.d (.bool false)) _ F H μ Fw.refl m (.bl _) h⟩
theorem ow_notNE {K : PySem.W.Frag} {a C : Addr} {f : Str} {d : PyData} (h : Q (.d (.bool true)) μ) : OpW K (fun x y H Q => y = .non ∧ Q (.bl (!decide (x = .non))) H) (.e a C f d) (.d .none) μ Q := fun F H v u m o1 o2 QV c => by
  obtain ⟨rfl, _⟩ := o1
  exact ⟨dp_non o2, c (.d (.bool true)) _ F H μ Fw.refl m (.bl _) h⟩
end
/-! ### __init__ of an own error -/
/-- a statement of a class's body -/
def clsS (st : Stmt) (j : Nat) : Stmt := match st with
  | .ClassDef _ _ _ body _ _ _ _ _ _ _ => body.getD j (.Pass ⟨0, 0, 0, 0⟩)
  | _ => .Pass ⟨0, 0, 0, 0⟩
/-- an expression that gives some text of slot 1's value -/
def Txt (X : Cx) (e : Expr) (n : Nat) : Prop := ∃ t, PE X e t ∧ ∀ σ H Q v, σ[1]? = some (some v) → Fm X.K H v → (∀ m : Str, m.length ≤ n → Q (.str m) H) → t σ H Q
theorem txt_c {X : Cx} {x : Str} {j : Nat} {pos : Pos} (n : Nat) (h : x.length ≤ n) : Txt X (.Constant (.str x) j pos) n := ⟨_, pe_str, fun _ _ _ _ _ _ q => q x h⟩
theorem txt_v {X : Cx} {x : Str} {k : Nat} {pos p : Pos} (hr : Room k X.A) (hN : X.N[1]? = some x) (hv : Vis X.env.scope x) (hd : (x == ("__debug__" : Str)) = false) (hcd : (x == ("__classdict__" : Str)) = false) : Txt X (.FormattedValue (.Name x p) (-1) none pos) 2000000 :=
  ⟨_, pe_fmD hr (pe_var hN hv hd hcd), fun σ H Q v e f q => ⟨v, e, f, q⟩⟩
inductive Parts (X : Cx) : List Expr → Nat → Prop
  | nil : Parts X [] 0
  | cons {e : Expr} {es : List Expr} {n m : Nat} (h : Txt X e n) (r : Parts X es m) : Parts X (e :: es) (n + m)
theorem Parts.run {X : Cx} {es : List Expr} {n : Nat} (h : Parts X es n) : ∃ ts, PJ X es ts ∧ ∀ (acc : Str) σ H (Q : Str → Hp → Prop) v, σ[1]? = some (some v) → Fm X.K H v → acc.length + n ≤ sizeLine → (∀ out, Q out H) → tJs ts acc σ H Q := by
  induction h with
  | nil => exact ⟨[], .nil, fun acc σ H Q v _ _ _ q => q acc⟩
  | @cons e es n m h r ih =>
    obtain ⟨ts, h1, h2⟩ := ih
    obtain ⟨t, g1, g2⟩ := h
    refine ⟨t :: ts, .cons g1 h1, fun acc σ H Q v e1 e2 hz q => g2 σ H _ v e1 e2 fun y hy => ⟨y, rfl, ?_, h2 _ σ H Q v e1 e2 ?_ q⟩⟩
    · rw [strLen_append]
      omega
    · rw [strLen_append]
      omega
theorem ini_fn {P : Program} {w : World} {K : PySem.W.Frag} {mg : Str → Option Value} {base : Heap} {qual : Str} {st : Stmt} {f : Addr} {fd : FuncData} {k : Nat} {B newId initId : String} {bmB : List Value} {bx arg fld : Str} {C : Addr} {v1 v2 : Expr} {vs : List Expr} {p1 p2 p3 p4 p5 p6 p7 p8 p9 pj : Pos}
    (F : Fun K "__init__" qual st f fd) (S : FnScope ["self", arg] ["self", arg] (defScope st)) (Z : Bas B newId initId bmB) (T : Oxg K C newId bmB) (hno : PySem.W.findIn K (.ref C) fld = some none) (hm : mg bx = none) (hv : bootBuiltins bx = some (.type B))
    (vV : PySem.W.findCls K (.type B) (.type "type") "__init__" = some (.val (.builtin initId))) (hst : Manifest.isStub B = false) (hh : PySem.W.handedIn (.builtin initId) = true) (hn : bx ≠ "__name__") (hdb : (bx == ("__debug__" : Str)) = false)
    (hb : defBody st = [.Expr (.Call (.Attribute (.Name bx p1) "__init__" p2) [.Name "self" p3, .JoinedStr (v1 :: v2 :: vs) pj] [] p4) p5, .Assign [.Attribute (.Name "self" p6) fld p7] (.Name arg p8) p9])
    (h0 : (defScope st).names.lookup ("self" : Str) = some .local) (h1 : (defScope st).names.lookup arg = some .local) (ha1 : (arg == ("__debug__" : Str)) = false) (ha2 : (arg == ("__classdict__" : Str)) = false)
    (hg : ∀ X : Cx, X.env.scope = defScope st → Gl X bx) (pl : Cx → Sem Bool)
    (hc : ∀ X : Cx, X.env.scope = defScope st → eval (.Call (.Attribute (.Name bx p1) "__init__" p2) [.Name "self" p3, .JoinedStr (v1 :: v2 :: vs) pj] [] p4) X.env = (do
      let ov ← eval (.Name bx p1) X.env
      standAt p2.atName
      let (g, first) ← holding [ov] (getMethod ov "__init__" (pl X))
      callWith p4 g first (backTo p4 (starEach [.Name "self" p3, .JoinedStr (v1 :: v2 :: vs) pj] X.env)) (backToKw p4 (keywordEach [] X.env))))
    (hp : ∀ X : Cx, Room k X.A → X.N[1]? = some arg → X.env.scope = defScope st → ∃ n, Parts X (v1 :: v2 :: vs) n ∧ n ≤ 16000000)
    (q1 : ∀ X : Cx, X.env.scope = defScope st → swapsWith (.Call (.Attribute (.Name bx p1) "__init__" p2) [.Name "self" p3, .JoinedStr (v1 :: v2 :: vs) pj] [] p4) none p5.line X.env = pure false)
    (q2 : ∀ X : Cx, X.env.scope = defScope st → swapsWith (.Name arg p8) (some (.Attribute (.Name "self" p6) fld p7)) p9.line X.env = pure false) : FnOk P w K mg base CX0 (k + 1) f fd ["self", arg] (spIni C fld (Fm K)) := by
  refine F.ok S (fun vs H Q E h => ?_) fun cdv A outer s H vs' Q E hr h => ?_
  · obtain ⟨a, y, rfl, _⟩ := h
    rfl
  · obtain ⟨a, y, rfl, ea, hf, hq⟩ := h
    rw [hb]
    obtain ⟨n, hpn, hle⟩ := hp (cxOf CX0 P w K mg base ["self", arg] qual (defScope st) f cdv A outer s H E).nox hr rfl rfl
    obtain ⟨ts, hj, hrun⟩ := hpn.run
    refine ⟨_, pss_cons (ps_expr (pe_ini Z (hg _ rfl) hm hv vV hst hh hn hdb (pa_cons (pe_var (i := 0) rfl (.inl h0)) (pa_cons (pe_joined hj) pa_nil)) (hc _ rfl)) (q1 _ rfl)) (pss_one (ps_sto Z (pe_var (i := 0) rfl (.inl h0)) (pe_var (i := 1) rfl (.inl h1) ha1 ha2) (q2 _ rfl))), ?_⟩
    refine ⟨.ref a, rfl, hrun Str.empty _ H _ y rfl hf (by rw [sizeLine_eq]; exact Nat.le_trans (Nat.add_le_add_left hle _) (by decide)) fun out => ?_⟩
    refine ⟨a, C, [.str out], rfl, (by decide : 1 ≤ 1000), T, ea, ?_⟩
    exact ⟨y, rfl, .ref a, rfl, a, C, rfl, T, hno, ea, fun dx hdx ne => hq dx hdx ne⟩
end Ec

set_option Elab.async false
set_option linter.all false
set_option maxRecDepth 100000
set_option maxHeartbeats 4000000
/-! promises of the program's functions that may raise -/
namespace Ec
open PySem PySem.Spec PyProof.Rows L2
/-- either the promise without errors, or one with -/
def orX (T0 : TrD) (T1 : TrX) : TrX := fun xs μ R RE => T0 xs μ R ∨ T1 xs μ R RE
theorem fn_or {P : Program} {w : World} {K : PySem.W.Frag} {mg : Str → Option Value} {base : Heap} {k : Nat} {f : Addr} {fd : FuncData} {ps : List Str} {T0 : TrD} {T1 : TrX} (F0 : FnG P w K mg base CX0 k f fd ps (spW K T0)) (F1 : FnG P w K mg base (L2.CX P w) k f fd ps (spX K T1)) :
    FnG P w K mg base (L2.CX P w) k f fd ps (spX K (orX T0 T1)) := by
  refine ⟨fun vs H Q E h => ?_, fun A outer s H args us vs Q E hr hgd he hb hv h => ?_⟩
  · obtain ⟨F, xs, μ, R, RE, m, o, t, c, cx⟩ := h
    rcases t with t | t
    · exact F0.len vs H Q E ⟨F, xs, μ, R, m, o, t, c⟩
    · exact F1.len vs H Q E ⟨F, xs, μ, R, RE, m, o, t, c, cx⟩
  · obtain ⟨F, xs, μ, R, RE, m, o, t, c, cx⟩ := h
    rcases t with t | t
    · refine codeAny_mono (F0.run A outer s H args us vs Q E hr hgd he hb hv ⟨F, xs, μ, R, m, o, t, c⟩) fun r s' hq => ?_
      match r, hq with
      | .error e, hq => exact hq.elim
      | .ok (.ret u), hq => exact hq
      | .ok .next, hq => exact hq.elim
      | .ok .brk, hq => exact hq.elim
      | .ok .cont, hq => exact hq.elim
    · exact F1.run A outer s H args us vs Q E hr hgd he hb hv ⟨F, xs, μ, R, RE, m, o, t, c, cx⟩
theorem log2_ok {i : Int} (h : i.natAbs < 2 ^ 100) : i.natAbs.log2 < 1920 := by
  by_cases h0 : i.natAbs = 0
  · rw [h0]
    decide
  · exact (Nat.log2_lt h0).mpr (Nat.lt_of_lt_of_le h (Nat.pow_le_pow_right (by decide) (by decide)))
theorem fmd_ints {ns : List Int} (hl : ns.length ≤ 1000) (h : ∀ i ∈ ns, -1000000 ≤ i ∧ i ≤ 1000000) : FmD (.tuple (intsD ns)) := ⟨ns, rfl, hl, fun i m => by
  obtain ⟨h1, h2⟩ := h i m
  have : i.natAbs < 2 ^ 100 := Nat.lt_of_le_of_lt (by omega : i.natAbs ≤ 1000000) (by decide)
  exact log2_ok this⟩
abbrev T_lookwX (C : Addr) : TrX := fun xs μ _ RE => ∃ dc c, xs = [.d dc] ∧ CoD dc c ∧ c.length < 64 ∧ nev c ≠ [] ∧ RE ⟨C, "people", .tuple (intsD (nev c))⟩ μ
abbrev T_lookwE (C : Addr) : TrX := orX T_lookw (T_lookwX C)
theorem fmd_nev {c : Co} (h : c.length < 64) : FmD (.tuple (intsD (nev c))) := fmd_ints (Nat.le_trans (nev_len' c) (by omega)) fun i m => by
  have := (mem_nev.mp m).1
  omega
abbrev T_foX (C : Addr) : TrX := fun xs μ _ RE => ∃ dc c, xs = [.d dc] ∧ CoD dc c ∧ c.length < 64 ∧ nev c ≠ [] ∧ RE ⟨C, "people", .tuple (intsD (nev c))⟩ μ
abbrev T_foE (C : Addr) : TrX := orX T_fo (T_foX C)
theorem exm_cons {K : PySem.W.Frag} {cls c : Value} {r : List Value} {b d : Bool} (h : PySem.W.exmOne K cls c = some b) (g : PySem.W.exmAny K cls r = some d) : PySem.W.exmAny K cls (c :: r) = some (b || d) := by
  unfold PySem.W.exmAny
  rw [h, g]
theorem exm_nil {K : PySem.W.Frag} {cls : Value} : PySem.W.exmAny K cls [] = some false := rfl
theorem kit_cons {K : PySem.W.Frag} {cls c : Value} {r : List Value} {b d : Bool} (h : PySem.W.kitOne K cls c = some b) (g : PySem.W.kitAny K cls r = some d) : PySem.W.kitAny K cls (c :: r) = some (b || d) := by
  unfold PySem.W.kitAny
  rw [h]
  cases b with
  | true => rfl
  | false => exact g
theorem kit_nil {K : PySem.W.Frag} {cls : Value} : PySem.W.kitAny K cls [] = some false := rfl
abbrev T_lfirst : TrD := fun xs μ R => ∃ c, xs = [.d (coD c)] ∧ CoD (coD c) c ∧ c.length < 64 ∧ R (.d (.tuple [.str (if nev c = [] then "order" else "stuck"), .tuple (intsD (if nev c = [] then fo c else nev c))])) μ
theorem Ps.len {c : Co} {t : List Int} (h : Ps c t) : t.length ≤ c.length := by
  have := nodup_le (h.up.imp fun z => by omega) (rng_nodup c.length) fun x m => mem_rng.mpr (h.rg x m)
  rwa [rng_len] at this
abbrev T_begun : TrD := fun xs μ R => ∃ (b : Addr) (bs : List PyData) (c : Co) (m : Nat), xs = [.a b, .d (coD c)] ∧ μ = ([(b, bs)] : Cells) ∧ BoxOk m bs ∧ c.length ≤ 40 ∧ CoD (coD c) c ∧ m + 100 ≤ 1000000000000 ∧ ∀ t bs', Ps c t → BoxOk (m + 100) bs' → R (.d (.tuple (intsD t))) [(b, bs')]
/-! ### a if t else b, as a test -/
theorem pt_ifx {X : Cx} {t a b : Expr} {pos : Pos} {tt ta tb : TT} (ht : PT X t tt) (ha : PT X a ta) (hb : PT X b tb) : PT X (.IfExp t a b pos) (fun σ H Q => tt σ H fun k H1 => if k = true then ta σ H1 Q else tb σ H1 Q) := ⟨fun pins s σ H Q I h => by
  have e : ∀ whole, isTrue (.IfExp t a b pos) X.env whole = (do if ← isTrue t X.env (eval t X.env) then isTrue a X.env (eval a X.env) else isTrue b X.env (eval b X.env)) := fun whole => by
    first
      | rfl
      | rw [isTrue]
  rw [e]
  refine wpAny_bind (thn (ht.run pins s σ H _ I h) fun k s1 hk => ?_)
  obtain ⟨H1, I1, q⟩ := hk
  cases k with
  | true =>
    simp only [if_true] at q ⊢
    exact ha.run pins s1 σ H1 Q I1 q
  | false =>
    simp only [Bool.false_eq_true, if_false] at q ⊢
    exact hb.run pins s1 σ H1 Q I1 q⟩
theorem wt_ifx {X : Cx} {δ : Dl} {μ : Cells} {t a b : Expr} {pos : Pos} {T : Bool → Cells → Prop} (h : WT X t δ μ fun k μ1 => if k = true then WT X a δ μ1 T else WT X b δ μ1 T) : WT X (.IfExp t a b pos) δ μ T := fun F H σ R QV c =>
  toT (pt_ifx (pcT X t) (pcT X a) (pcT X b)) (h F H σ R _ fun k F1 H1 μ1 w1 R1 q => by
    cases k with
    | true => exact (show WT X a δ μ1 T from q) F1 H1 σ R1 QV fun k2 F2 H2 μ2 w2 R2 q2 => c k2 F2 H2 μ2 (w1.trans w2) R2 q2
    | false => exact (show WT X b δ μ1 T from q) F1 H1 σ R1 QV fun k2 F2 H2 μ2 w2 R2 q2 => c k2 F2 H2 μ2 (w1.trans w2) R2 q2)
theorem cls_some {K : PySem.W.Frag} {C N : Addr} {nm q : Str} {bs bm : List Value} {hdct : Bool} {sn : List Str} {sub : List Value} {ab : Bool} {col : Option Bool} {dd : Option Addr} {k0 k1 k2 k3 k5 : Option Value} {newId : String}
    (h : K.lookup C = some (excClassObj nm q C N bs bm hdct sn sub ab col dd k0 k1 k2 k3 k5 newId)) : (PySem.W.clsIn K C).isSome = true := by
  unfold PySem.W.clsIn
  rw [h]
  rfl
end Ec

set_option Elab.async false
set_option linter.all false
namespace Ec
open PySem PySem.Spec PyProof.Rows L2
/-! ### another need; people invited -/
def wn (c : Co) (p v : Int) : Co := c.set p.toNat ((c.getD p.toNat ([], 0)).1, v)
theorem wn_len (c : Co) (p v : Int) : (wn c p v).length = c.length := List.length_set
theorem wn_at {c : Co} {p : Int} (h0 : 0 ≤ p) (h1 : p < c.length) : c[p.toNat]? = some (c.getD p.toNat ([], 0)) := by
  have hl : p.toNat < c.length := by omega
  rw [List.getD_eq_getElem?_getD, List.getElem?_eq_getElem hl]
  rfl
theorem wn_mem {c : Co} {p : Int} (h0 : 0 ≤ p) (h1 : p < c.length) : c.getD p.toNat ([], 0) ∈ c := List.mem_of_getElem? (wn_at h0 h1)
theorem wn_fr {c : Co} {p v : Int} (h0 : 0 ≤ p) (h1 : p < c.length) (q : Int) : fr (wn c p v) q = fr c q := fr_set (wn_at h0 h1) q
theorem wn_nd {c : Co} {p v : Int} (h0 : 0 ≤ p) (h1 : p < c.length) (q : Int) : nd (wn c p v) q = if p.toNat = q.toNat then v else nd c q := nd_set (wn_at h0 h1) q
theorem wn_cnt {c : Co} {p v : Int} (h0 : 0 ≤ p) (h1 : p < c.length) (t : List Int) (q : Int) : cnt (wn c p v) t q = cnt c t q := cnt_set (wn_at h0 h1) t q
theorem wn_frs {c : Co} {p v : Int} (h0 : 0 ≤ p) (h1 : p < c.length) {n : Nat} (h : ∀ e ∈ c, e.1.length ≤ n) : ∀ e ∈ wn c p v, e.1.length ≤ n := fun e he => by
  rcases List.mem_or_eq_of_mem_set he with m | rfl
  · exact h e m
  · exact h (c.getD p.toNat ([], 0)) (wn_mem h0 h1)
theorem wn_cow {c : Co} {p v : Int} (h0 : 0 ≤ p) (h1 : p < c.length) (hv : 0 ≤ v) (hv2 : v ≤ 1000) (w : CoW c) : CoW (wn c p v) where
  up := fun e he => by
    rcases List.mem_or_eq_of_mem_set he with m | rfl
    · exact w.up e m
    · exact w.up (c.getD p.toNat ([], 0)) (wn_mem h0 h1)
  nn := fun e he => by
    rcases List.mem_or_eq_of_mem_set he with m | rfl
    · exact w.nn e m
    · exact hv
  nb := fun e he => by
    rcases List.mem_or_eq_of_mem_set he with m | rfl
    · exact w.nb e m
    · exact hv2
  lt := fun e he => by
    rw [wn_len]
    rcases List.mem_or_eq_of_mem_set he with m | rfl
    · exact w.lt e m
    · exact w.lt (c.getD p.toNat ([], 0)) (wn_mem h0 h1)
  no := fun i e he => by
    unfold wn at he
    by_cases hi : p.toNat = i
    · subst hi
      rw [List.getElem?_set_self (by omega)] at he
      cases he
      exact w.no p.toNat (c.getD p.toNat ([], 0)) (wn_at h0 h1)
    · rw [List.getElem?_set_ne hi] at he
      exact w.no i e he
def inv (c : Co) (t : List Int) : Co := t.foldl (fun c p => wn c p 0) c
theorem inv_len : ∀ (t : List Int) (c : Co), (inv c t).length = c.length
  | [], _ => rfl
  | p :: t, c => (inv_len t (wn c p 0)).trans (wn_len c p 0)
theorem inv_snoc (c : Co) (t : List Int) (p : Int) : inv c (t ++ [p]) = wn (inv c t) p 0 := by
  unfold inv
  rw [List.foldl_append]
  rfl
theorem inv_cow : ∀ (t : List Int) {c : Co}, Rg c.length t → CoW c → CoW (inv c t)
  | [], _, _, w => w
  | p :: t, c, hr, w => inv_cow t (c := wn c p 0) (fun x m => by rw [wn_len]; exact hr x (List.mem_cons_of_mem _ m)) (wn_cow (hr p List.mem_cons_self).1 (hr p List.mem_cons_self).2 (Int.le_refl 0) (by decide) w)
theorem inv_frs : ∀ (t : List Int) {c : Co} {n : Nat}, Rg c.length t → (∀ e ∈ c, e.1.length ≤ n) → ∀ e ∈ inv c t, e.1.length ≤ n
  | [], _, _, _, h => h
  | p :: t, c, n, hr, h => inv_frs t (c := wn c p 0) (fun x m => by rw [wn_len]; exact hr x (List.mem_cons_of_mem _ m)) (wn_frs (hr p List.mem_cons_self).1 (hr p List.mem_cons_self).2 h)
theorem inv_fr : ∀ (t : List Int) {c : Co}, Rg c.length t → ∀ q, fr (inv c t) q = fr c q
  | [], _, _, _ => rfl
  | p :: t, c, hr, q => (inv_fr t (c := wn c p 0) (fun x m => by rw [wn_len]; exact hr x (List.mem_cons_of_mem _ m)) q).trans (wn_fr (hr p List.mem_cons_self).1 (hr p List.mem_cons_self).2 q)
theorem inv_nd : ∀ (t : List Int) {c : Co}, Rg c.length t → ∀ q : Int, 0 ≤ q → nd (inv c t) q = if q ∈ t then 0 else nd c q
  | [], _, _, _, _ => by simp [inv]
  | p :: t, c, hr, q, hq => by
    have hp := hr p List.mem_cons_self
    have e := inv_nd t (c := wn c p 0) (fun x m => by rw [wn_len]; exact hr x (List.mem_cons_of_mem _ m)) q hq
    refine (show nd (inv c (p :: t)) q = nd (inv (wn c p 0) t) q from rfl).trans (e.trans ?_)
    rw [wn_nd hp.1 hp.2]
    by_cases h1 : q ∈ t
    · rw [if_pos h1, if_pos (List.mem_cons_of_mem _ h1)]
    · rw [if_neg h1]
      by_cases h2 : q = p
      · subst h2
        rw [if_pos rfl, if_pos List.mem_cons_self]
      · rw [if_neg (by omega), if_neg (by
          intro z
          rcases List.mem_cons.mp z with z | z
          · exact h2 z
          · exact h1 z)]
theorem Wid.refl (c : Co) : Wid c c := ⟨rfl, fun _ _ _ _ h => h, fun _ _ _ => Int.le_refl _⟩
theorem Wid.trans {a b c : Co} (h : Wid a b) (g : Wid b c) : Wid a c := ⟨g.len.trans h.len, fun p h0 h1 x m => g.fr p h0 (by rw [h.len]; exact h1) x (h.fr p h0 h1 x m), fun p h0 h1 => Int.le_trans (g.nd p h0 (by rw [h.len]; exact h1)) (h.nd p h0 h1)⟩
theorem nd_nn {c : Co} (w : CoW c) {p : Int} (h0 : 0 ≤ p) (h1 : p < c.length) : 0 ≤ nd c p := by
  unfold nd
  exact w.nn _ (List.mem_of_getElem? (wn_at h0 h1))
theorem inv_wid {c : Co} {t : List Int} (w : CoW c) (hr : Rg c.length t) : Wid c (inv c t) := ⟨inv_len t c, fun p _ _ x m => by rw [inv_fr t hr]; exact m, fun p h0 h1 => by
  rw [inv_nd t hr p h0]
  split
  · exact nd_nn w h0 h1
  · exact Int.le_refl _⟩
abbrev T_withn : TrD := fun xs μ R => ∃ (dc : PyData) (c : Co) (p v : Int), xs = [.d dc, .d (.int p), .d (.int v)] ∧ CoD dc c ∧ 0 ≤ p ∧ p < c.length ∧ R (.d (coD (wn c p v))) μ
abbrev T_inv : TrD := fun xs μ R => ∃ (dc : PyData) (c : Co) (dp : PyData) (t : List Int), xs = [.d dc, .d dp] ∧ CoD dc c ∧ SqD dp (intsD t) ∧ Rg c.length t ∧ R (.d (coD (inv c t))) μ
theorem coD_wn {c : Co} {k : Nat} {v : Int} (h : k < c.length) : (c.map enD).set k (.tuple [.tuple (intsD (c.getD k ([], 0)).1), .int v]) = (wn c (k : Int) v).map enD := by
  unfold wn
  rw [List.map_set]
  rfl
theorem atI_enD {c : Co} {k : Nat} (h : k < c.length) : atI (c.map enD) (k : Int) = some (enD (c.getD k ([], 0))) := atI_map _ h
abbrev T_easier : TrD := fun xs μ R => ∃ (b : Addr) (bs : List PyData) (c : Co) (m : Nat), xs = [.a b, .d (coD c)] ∧ μ = ([(b, bs)] : Cells) ∧ BoxOk m bs ∧ c.length ≤ 40 ∧ CoW c ∧ m + 5000 ≤ 1000000000000 ∧ ∀ c' bs', Wid c c' → CoW c' → BoxOk (m + 5000) bs' → R (.d (coD c')) [(b, bs')]
/-! ### an easier company, person by person -/
def Esr (c c2 : Co) : Prop := ∀ (j : Nat) (e : List Int × Int), c2[j]? = some e → e.1.Sublist (rng c.length) ∧ (j : Int) ∉ e.1 ∧ (∀ x ∈ fr c (j : Int), x ∈ e.1) ∧ 0 ≤ e.2 ∧ e.2 ≤ nd c (j : Int)
theorem Esr.nil (c : Co) : Esr c [] := fun j e h => by simp at h
theorem Esr.add {c c2 : Co} {e : List Int × Int} (h : Esr c c2) (h1 : e.1.Sublist (rng c.length)) (h2 : (c2.length : Int) ∉ e.1) (h3 : ∀ x ∈ fr c (c2.length : Int), x ∈ e.1) (h4 : 0 ≤ e.2) (h5 : e.2 ≤ nd c (c2.length : Int)) : Esr c (c2 ++ [e]) := fun j x hj => by
  by_cases hl : j < c2.length
  · rw [List.getElem?_append_left hl] at hj
    exact h j x hj
  · rw [List.getElem?_append_right (by omega)] at hj
    have e0 : j - c2.length = 0 := by
      have := (List.getElem?_eq_some_iff.mp hj).1
      simp at this
      omega
    rw [e0] at hj
    cases hj
    have ej : j = c2.length := by omega
    subst ej
    exact ⟨h1, h2, h3, h4, h5⟩
theorem Esr.all {c c2 : Co} (w : CoW c) (h : Esr c c2) (hl : c2.length = c.length) : Wid c c2 ∧ CoW c2 := by
  have at_ : ∀ p : Int, 0 ≤ p → p < c.length → ∃ e, c2[p.toNat]? = some e ∧ fr c2 p = e.1 ∧ nd c2 p = e.2 ∧ ((p.toNat : Nat) : Int) = p := fun p h0 h1 => by
    have hi : p.toNat < c2.length := by omega
    refine ⟨c2[p.toNat], List.getElem?_eq_getElem hi, ?_, ?_, by omega⟩
    · unfold fr
      rw [List.getD_eq_getElem?_getD, List.getElem?_eq_getElem hi]
      rfl
    · unfold nd
      rw [List.getD_eq_getElem?_getD, List.getElem?_eq_getElem hi]
      rfl
  refine ⟨⟨hl, fun p h0 h1 x m => ?_, fun p h0 h1 => ?_⟩, CoP.whole fun j e hj => ?_⟩
  · obtain ⟨e, e1, e2, e3, e4⟩ := at_ p h0 h1
    rw [e2]
    exact (h _ e e1).2.2.1 x (by rw [e4]; exact m)
  · obtain ⟨e, e1, e2, e3, e4⟩ := at_ p h0 h1
    rw [e3]
    have := (h _ e e1).2.2.2.2
    rwa [e4] at this
  · obtain ⟨g1, g2, _, g4, g5⟩ := h j e hj
    have hj2 := (List.getElem?_eq_some_iff.mp hj).1
    have hnb := w.nb _ (wn_mem (c := c) (p := (j : Int)) (by omega) (by omega))
    rw [hl]
    exact ⟨g1, g2, g4, Int.le_trans g5 hnb⟩
theorem en_at {c : Co} {i : Nat} {x : List Int × Int} (h : c[i]? = some x) : fr c (i : Int) = x.1 ∧ nd c (i : Int) = x.2 := by
  unfold fr nd
  rw [Int.toNat_natCast, List.getD_eq_getElem?_getD, h]
  exact ⟨rfl, rfl⟩
theorem asc_sub {t : List Int} {n k : Nat} (h : t.Sublist (rng n)) : Rg n (t.take k) := fun x m => (asc_lt h).2.1 x (List.mem_of_mem_take m)
/-! ### the rounds as a dict -/
theorem getI_put {k : Int} {d : PyData} {k' : Int} : ∀ {kvs : List (Int × PyData)}, getI (putI kvs k d) k' = if k' = k then some d else getI kvs k'
  | [] => by
    unfold putI getI
    by_cases e : k = k'
    · rw [if_pos e, if_pos e.symm]
    · rw [if_neg e, if_neg fun z => e z.symm]
      rfl
  | p :: r => by
    unfold putI
    by_cases e : p.1 = k
    · rw [if_pos e]
      unfold getI
      by_cases e2 : k = k'
      · rw [if_pos e2, if_pos e2.symm]
      · rw [if_neg e2, if_neg (fun z => e2 z.symm), if_neg (by rw [e]; exact e2)]
    · rw [if_neg e]
      unfold getI
      by_cases e2 : p.1 = k'
      · rw [if_pos e2, if_pos e2, if_neg (by rw [← e2]; exact e)]
      · rw [if_neg e2, if_neg e2, getI_put]
theorem getI_merge {v : PyData} {k' : Int} : ∀ (s : List Int) {kvs : List (Int × PyData)}, getI (mergeI kvs (s.map fun y => (y, v))) k' = if k' ∈ s then some v else getI kvs k'
  | [], _ => by simp [mergeI]
  | y :: s, kvs => by
    refine (show getI (mergeI kvs ((y :: s).map fun y => (y, v))) k' = getI (mergeI (putI kvs y v) (s.map fun y => (y, v))) k' from rfl).trans ?_
    rw [getI_merge s, getI_put]
    by_cases h1 : k' ∈ s
    · rw [if_pos h1, if_pos (List.mem_cons_of_mem _ h1)]
    · rw [if_neg h1]
      by_cases h2 : k' = y
      · rw [if_pos h2, if_pos (by rw [h2]; exact List.mem_cons_self)]
      · rw [if_neg h2, if_neg (by
          intro z
          rcases List.mem_cons.mp z with z | z
          · exact h2 z
          · exact h1 z)]
theorem getI_some {kvs : List (Int × PyData)} {k : Int} (h : k ∈ kvs.map Prod.fst) : ∃ d, getI kvs k = some d := by
  cases e : getI kvs k with
  | none => exact absurd h (getI_none.mp e)
  | some d => exact ⟨d, rfl⟩
theorem getI_mem {kvs : List (Int × PyData)} {k : Int} {d : PyData} (h : getI kvs k = some d) : k ∈ kvs.map Prod.fst := by
  by_cases e : k ∈ kvs.map Prod.fst
  · exact e
  · rw [getI_none.mpr e] at h
    cases h
/-- the dict after i rounds -/
structure Rd (c : Co) (i : Nat) (kvs : List (Int × PyData)) : Prop where
  nd : ndI kvs
  key : ∀ x, x ∈ kvs.map Prod.fst ↔ x ∈ sof c i
  val : ∀ x d, getI kvs x = some d → ∃ (j : Nat) (s : List Int), j < i ∧ d = .int (j : Int) ∧ (AR c [] [])[j]? = some s ∧ x ∈ s
theorem Rd.zero (c : Co) : Rd c 0 [] := ⟨List.nodup_nil, fun x => by rw [sof_zero]; simp, fun x d h => by cases h⟩
theorem Rd.step {c : Co} {i : Nat} {kvs : List (Int × PyData)} {s : List Int} (h : Rd c i kvs) (hs : (AR c [] [])[i]? = some s) : Rd c (i + 1) (mergeI kvs (s.map fun y => (y, .int (i : Int)))) := by
  have hn := mergeI_nd (more := s.map fun y => (y, PyData.int (i : Int))) h.nd
  refine ⟨hn, fun x => ?_, fun x d hd => ?_⟩
  · rw [← sof_succ hs, mem_srt, List.mem_append]
    have k : x ∈ (mergeI kvs (s.map fun y => (y, PyData.int (i : Int)))).map Prod.fst ↔ getI (mergeI kvs (s.map fun y => (y, PyData.int (i : Int)))) x ≠ none :=
      ⟨fun m z => getI_none.mp z m, fun z => by
        by_cases e : x ∈ (mergeI kvs (s.map fun y => (y, PyData.int (i : Int)))).map Prod.fst
        · exact e
        · exact absurd (getI_none.mpr e) z⟩
    rw [k, getI_merge]
    by_cases e : x ∈ s
    · rw [if_pos e]
      simp [e]
    · rw [if_neg e]
      constructor
      · intro z
        refine .inl ((h.key x).mp ?_)
        by_cases e2 : x ∈ kvs.map Prod.fst
        · exact e2
        · exact absurd (getI_none.mpr e2) z
      · rintro (z | z)
        · intro q
          exact getI_none.mp q ((h.key x).mpr z)
        · exact absurd z e
  · rw [getI_merge] at hd
    by_cases e : x ∈ s
    · rw [if_pos e] at hd
      cases hd
      exact ⟨i, s, by omega, rfl, hs, e⟩
    · rw [if_neg e] at hd
      obtain ⟨j, t, h1, h2, h3, h4⟩ := h.val x d hd
      exact ⟨j, t, by omega, h2, h3, h4⟩
theorem sof_mono {c : Co} {x : Int} : ∀ {i j : Nat}, i ≤ j → x ∈ sof c i → x ∈ sof c j := fun {i j} h m => by
  unfold sof at *
  rw [mem_srt] at *
  have e : (AR c [] []).take j = (AR c [] []).take i ++ ((AR c [] []).take j).drop i := by
    have z := List.take_append_drop i ((AR c [] []).take j)
    rw [List.take_take, Nat.min_eq_left h] at z
    exact z.symm
  rw [e, List.flatten_append]
  exact List.mem_append_left _ m
theorem sof_big {c : Co} {i : Nat} (h : (AR c [] []).length ≤ i) : sof c i = gr c := by
  rw [← sof_all]
  unfold sof
  rw [List.take_of_length_le h, List.take_length]
theorem Wid.sof {c c' : Co} (h : Wid c c') (w : CoW c) (w' : CoW c') {x : Int} : ∀ i, x ∈ sof c i → x ∈ Ec.sof c' i
  | 0, m => by
    rw [sof_zero] at m
    cases m
  | i + 1, m => by
    have up : x ∈ Ec.sof c i → x ∈ Ec.sof c' (i + 1) := fun z => sof_mono (Nat.le_succ i) (Wid.sof h w w' i z)
    by_cases hi : i < (AR c [] []).length
    · have e := List.getElem?_eq_getElem hi
      rw [← sof_succ e, mem_srt, List.mem_append] at m
      rcases m with m | m
      · exact up m
      · rw [(AR_at e).1] at m
        obtain ⟨⟨h0, h1⟩, h2, h3⟩ := mem_nexts.mp m
        have hc := h.comes w w' (t := Ec.sof c i) (t' := Ec.sof c' i) (fun y my => Wid.sof h w w' i (x := y) my) h0 h1 h3
        by_cases hx : x ∈ Ec.sof c' i
        · exact sof_mono (Nat.le_succ i) hx
        · have hn : x ∈ Ec.nexts c' (Ec.sof c' i) := mem_nexts.mpr ⟨⟨h0, by rw [h.len]; exact h1⟩, hx, hc⟩
          by_cases hi' : i < (AR c' [] []).length
          · have e' := List.getElem?_eq_getElem hi'
            rw [← sof_succ e', mem_srt, List.mem_append]
            refine .inr ?_
            rw [(AR_at e').1]
            exact hn
          · rw [sof_big (by omega), nexts_gr] at hn
            cases hn
    · have e : Ec.sof c (i + 1) = Ec.sof c i := by rw [sof_big (by omega), sof_big (by omega)]
      rw [e] at m
      exact up m
/-- nobody comes in a later round -/
theorem Wid.round {c c' : Co} (h : Wid c c') (w : CoW c) (w' : CoW c') {x : Int} {j j' : Nat} {s s' : List Int} (hs : (AR c [] [])[j]? = some s) (hx : x ∈ s) (hs' : (AR c' [] [])[j']? = some s') (hx' : x ∈ s') : j' ≤ j := by
  have h1 : x ∈ Ec.sof c (j + 1) := by
    rw [← sof_succ hs, mem_srt]
    exact List.mem_append_right _ hx
  have h2 := h.sof w w' _ h1
  rcases Nat.lt_or_ge j j' with hj | hj
  · have h3 := sof_mono (show j + 1 ≤ j' from hj) h2
    rw [(AR_at hs').1] at hx'
    exact absurd h3 (mem_nexts.mp hx').2.1
  · exact hj
abbrev T_roundof : TrD := fun xs μ R => ∃ c, xs = [.d (coD c)] ∧ CoD (coD c) c ∧ c.length ≤ 40 ∧ ∀ q kvs, Rd c (AR c [] []).length kvs → R (.a q) ((q, Cont.i kvs) :: μ)
/-! ### a need that is too great -/
theorem fr_few {c : Co} (w : CoW c) {p : Int} (h0 : 0 ≤ p) (h1 : p < c.length) : (fr c p).length < c.length := by
  have hn : p ∉ fr c p := by
    have e := wn_at (c := c) h0 h1
    have := w.no p.toNat _ e
    rw [show ((p.toNat : Nat) : Int) = p by omega] at this
    exact this
  have h := nodup_le (List.nodup_cons.mpr ⟨hn, fr_nodup w h0 h1⟩) (rng_nodup c.length) fun x m => by
    rcases List.mem_cons.mp m with rfl | m
    · exact mem_rng.mpr ⟨h0, h1⟩
    · exact mem_rng.mpr (fr_rg w h0 h1 x m)
  rw [rng_len] at h
  exact h
theorem wn_same {c : Co} {p v : Int} (h0 : 0 ≤ p) (h1 : p < c.length) (t : List Int) {q : Int} (hq : 0 ≤ q) (ne : q ≠ p) : comes (wn c p v) t q = comes c t q := by
  unfold comes
  rw [wn_cnt h0 h1, wn_nd h0 h1, if_neg (by omega)]
theorem hard_no {c : Co} (w : CoW c) {p v : Int} (h0 : 0 ≤ p) (h1 : p < c.length) (hv : (c.length : Int) ≤ v) (t : List Int) : comes (wn c p v) t p = false := by
  unfold comes
  rw [wn_cnt h0 h1, wn_nd h0 h1, if_pos rfl, decide_eq_false_iff_not]
  have := fr_few w h0 h1
  have h2 : cnt c t p ≤ ((fr c p).length : Nat) := by
    unfold cnt
    exact Int.ofNat_le.mpr (List.length_filter_le _ _)
  omega
theorem hard_gr {c : Co} (w : CoW c) {p v : Int} (h0 : 0 ≤ p) (h1 : p < c.length) (hv : (c.length : Int) ≤ v) : gr (wn c p v) = cl c [] [p] := by
  refine asc_one (cl_lt _) (cl_lt _) fun x => ⟨fun m => ?_, fun m => ?_⟩
  · refine cl_in (c := wn c p v) (S := fun x => x ∈ cl c [] [p]) (fun q g0 g1 _ ⟨t, ht, hc⟩ => ?_) (fun x m => by cases m) x m
    have ne : q ≠ p := fun z => by
      rw [z, hard_no w h0 h1 hv] at hc
      cases hc
    rw [wn_same h0 h1 t g0 ne] at hc
    rw [wn_len] at g1
    exact cl_shut c [] [p] q g0 g1 (fun z => ne (List.mem_singleton.mp z)) ⟨t, ht, hc⟩
  · refine cl_in (c := c) (S := fun x => x ∈ gr (wn c p v)) (fun q g0 g1 hb ⟨t, ht, hc⟩ => ?_) (fun x m => by cases m) x m
    have ne : q ≠ p := fun z => hb (by rw [z]; exact List.mem_singleton_self p)
    rw [← wn_same (v := v) h0 h1 t g0 ne] at hc
    exact gr_shut g0 (by rw [wn_len]; exact g1) ht hc
theorem hard_stk {c : Co} (w : CoW c) {p v : Int} (h0 : 0 ≤ p) (h1 : p < c.length) (hv : (c.length : Int) ≤ v) : stk (wn c p v) [p] = true := by
  unfold stk
  simp [hard_no w h0 h1 hv]
theorem ws_join {X : Cx} {st : Stmt} {rest : List Stmt} {δ : Dl} {μ : Cells} {D : Dn} (J : Dl → Cells → Prop) (h : WS X st δ μ { D with nx := J }) (k : ∀ δ' μ', J δ' μ' → WB X rest δ' μ' D) : WB X (st :: rest) δ μ D := by
  refine wb_cons fun F H σ R De b => h F H σ R De ⟨fun F' H' σ' δ' μ' w R' q => b.nx F' H' σ' δ' μ' w R' (k δ' μ' q), b.rt, b.bk, b.ct⟩
theorem Wid.fo {c c' : Co} (h : Wid c c') (w : CoW c) (w' : CoW c') (hn : Ec.nev c = []) : ¬ (Ec.fo c < Ec.fo c') := List.not_lt.mpr (fo_le (h.nev w w' hn) (h.ord w w' (fo_ord hn)))
theorem Wid.la {c c' : Co} (h : Wid c c') (w : CoW c) (w' : CoW c') (hn : Ec.nev c = []) : ¬ (Ec.la c' < Ec.la c) := List.not_lt.mpr (le_la (h.nev w w' hn) (h.ord w w' (la_ord hn)))
end Ec

set_option Elab.async false
set_option linter.all false
set_option maxRecDepth 100000
set_option maxHeartbeats 4000000
/-! [f, g, h][i](e, ..): one of some defs by number -/
namespace Ec
open PySem PySem.Spec PyProof.Rows L2
/-- names of objects of the module, one behind the other -/
inductive RefA (X : Cx) : List Expr → List Addr → Prop
  | nil : RefA X [] []
  | cons {x : Str} {p : Pos} {a : Addr} {es : List Expr} {as : List Addr} (hg : Gl X x) (hm : X.mg x = some (.ref a)) (hd : (x == ("__debug__" : Str)) = false) (hs : starEach (.Name x p :: es) X.env = (false, eval (.Name x p) X.env) :: starEach es X.env) (r : RefA X es as) : RefA X (.Name x p :: es) (a :: as)
theorem pe_ref {X : Cx} {x : Str} {p : Pos} {a : Addr} (hg : Gl X x) (hm : X.mg x = some (.ref a)) (hd : (x == ("__debug__" : Str)) = false) : PE X (.Name x p) (tC (.ref a)) :=
  ⟨fun pins s σ H Q I q => ld_glob I hg hm ⟨.ref _, H, I, (rfl : _ = _), q⟩ hd⟩
theorem RefA.pa {X : Cx} {es : List Expr} {as : List Addr} (h : RefA X es as) : PA X es (tCs (as.map V.ref)) := by
  induction h with
  | nil => exact pa_nil
  | cons hg hm hd hs r ih => exact pa_cons (pe_ref hg hm hd) ih hs
/-- a callee that is some expression -/
theorem pe_callF {X : Cx} {CX : CXT} {k : Nat} {f : Addr} {fd : FuncData} {ps : List Str} {sp : Sp} {E : L2.St → XK} {fe e : Expr} {es : List Expr} {pos : Pos} {tf : TE} {t : TA} (hf : PE X fe tf) (F : FnG X.prog X.w X.K X.mg X.base CX k f fd ps sp) (hr : Room k X.A) (hgd : X.A.guards = some []) (hk : PySem.W.keepIn X.K (.ref f) = true) (hb : Binds X.K fd ps []) (hx : ∀ σ, PassesAt CX X σ (E σ))
    (ha : PA X (e :: es) t)
    (ht : eval (.Call fe (e :: es) [] pos) X.env = (do callWith pos (← eval fe X.env) [] (backTo pos (starEach (e :: es) X.env)) (backToKw pos (keywordEach [] X.env))) := by rfl)
    (he : starEach (e :: es) X.env = (false, eval e X.env) :: starEach es X.env := by rfl) (hpl : (backTo pos (starEach es X.env)).any (·.1) = false := by rfl) :
    PE X (.Call fe (e :: es) [] pos) (fun σ H Q => tf σ H fun y H1 => y = .ref f ∧ tCallS sp E t σ H1 Q) := by
  refine ⟨fun pins s σ H Q I h => ?_⟩
  refine Call_ (thn (hf.run pins s σ H _ I h) fun u s1 ⟨y, H1, I1, ry, ey, q⟩ => ?_) ht
  subst ey
  obtain rfl : u = Value.ref f := ry
  refine PySem.W.callWith_K (h₀ := X.base) I1.ok.mod.kin hk (thn (ha.run pos pins s1 σ H1 _ I1 q) fun us s2 ⟨vs, H2, I2, r, q2⟩ => ⟨I2.kIn, ?_⟩) he hpl
  have b := hb s2 us I2.kIn (by rw [List.append_nil, ← r.length]; exact F.len _ _ _ _ q2)
  rw [List.append_nil] at b
  exact run_g F hr hgd b (hx σ) I2 r q2
section
variable {X : Cx} {W : WX} {er : ErP} {δ : Dl} {μ : Cells} {e ix : Expr} {es fs : List Expr} {pos p1 p2 : Pos}
theorem wcx_pick {P : Program} {w : World} {K : PySem.W.Frag} {mg : Str → Option Value} {base : Heap} {T : TrX} {k : Nat} {x : Str} {QA : List Vd → Cells → Prop} {as : List Addr} {i : Int} {f : Addr} (c : CalX P w K mg base k x T) (hf : mg x = some (.ref f)) (hA : RefA X fs as) (hi : atI as i = some f) (hl : as.length ≤ 100) (tk : Takes X W) (hr : Room k X.A)
    (h : WE X ix δ μ fun z μ1 => z = .d (.int i) ∧ WA X (e :: es) δ μ1 QA) (hs : PlainIx ix)
    (hgd : X.A.guards = some [] := by assumption) (hX : (X.prog, X.w, X.K, X.mg, X.base) = (P, w, K, mg, base) := by rfl)
    (ht : eval (.Call (.Subscript (.List fs p1) ix p2) (e :: es) [] pos) X.env = (do callWith pos (← eval (.Subscript (.List fs p1) ix p2) X.env) [] (backTo pos (starEach (e :: es) X.env)) (backToKw pos (keywordEach [] X.env))) := by rfl)
    (he : starEach (e :: es) X.env = (false, eval e X.env) :: starEach es X.env := by rfl) (hpl : (backTo pos (starEach es X.env)).any (·.1) = false := by rfl) :
    WCx X W (.Call (.Subscript (.List fs p1) ix p2) (e :: es) [] pos) T δ μ QA := fun F H σ R QV kk => by
  obtain ⟨f', fd, ps, ok, hm, hk, hb⟩ := c
  cases hX
  rw [hf] at hm
  cases hm
  refine toE (pe_callF (E := L2.WE W) (pe_ix ix_list (pe_lst hA.pa) (pcE X ix) hs) ok hr hgd hk hb (passAt tk) (pcA X (e :: es)) ht he hpl) ?_
  refine tCs_run (as.map V.ref) [] ⟨by rw [List.length_map, sizeLine_eq]; omega, fun q0 nq => ?_⟩
  obtain ⟨m2, w2⟩ := R.m.new (o := .lst (as.map V.ref)) nq
  refine h _ _ σ (R.to w2.f m2) _ fun v z F1 H1 μ1 w1 R1 o1 q => ?_
  obtain ⟨rfl, q⟩ := q
  have ev := dp_int o1
  subst ev
  refine ⟨q0, as.map V.ref, i, .ref f, rfl, rfl, .of (R1.m.ex _ _ (w1.f _ _ upd_same)), ?_, rfl, ?_⟩
  · unfold atI at hi ⊢
    rw [List.length_map]
    cases hq : ixN as.length i with
    | none =>
      rw [hq] at hi
      cases hi
    | some j =>
      rw [hq] at hi
      have hi' : as[j]? = some f := hi
      show (as.map V.ref)[j]? = some (V.ref f)
      rw [List.getElem?_map, hi']
      rfl
  · refine q F1 H1 σ R1 _ fun vs xs F2 H2 μ2 w3 R2 o2 q2 => ?_
    exact kk vs xs F2 H2 μ2 ((w2.trans w1).trans w3) R2 o2 q2
/-- len(e), e raises -/
theorem wex_lenX {mg : Str → Option Value} {Q : Vd → Cells → Prop} {p : Pos} (B : Bl mg) (hg : Gl X "len") (h : WEx X W er e δ μ fun _ _ => False) (hm : X.mg = mg := by rfl) (s1 : starEach [e] X.env = (false, eval e X.env) :: starEach [] X.env := by rfl) (s2 : (backTo pos (starEach [] X.env)).any (·.1) = false := by rfl) :
    WEx X W er (.Call (.Name "len" p) [e] [] pos) δ μ Q := fun F H σ R eb QV c =>
  toE (pe_callB call_len_seq hg (hm ▸ B.len) PySem.boot_len (pa_cons (pcE X e) pa_nil s1) (by decide) (by decide) s1 s2) (h F H σ R eb _ fun v x F1 H1 μ1 w1 R1 o1 q => q.elim)
end
end Ec

set_option Elab.async false
set_option linter.all false
set_option maxRecDepth 100000
set_option maxHeartbeats 4000000
/-! who is before whom: the promises with errors -/
namespace Ec
open PySem PySem.Spec PyProof.Rows L2
abbrev T_lookpX (C : Addr) : TrX := fun xs μ _ RE => ∃ dc c p, xs = [.d dc, .d (.int p)] ∧ CoD dc c ∧ c.length < 64 ∧ ¬ (0 ≤ p ∧ p < c.length) ∧ p.natAbs.log2 < 1920 ∧ RE ⟨C, "person", .int p⟩ μ
abbrev T_lookpE (C : Addr) : TrX := orX T_lookp (T_lookpX C)
abbrev T_mbX (C : Addr) : TrX := fun xs μ _ RE => ∃ dc c, xs = [.d dc] ∧ CoD dc c ∧ c.length < 64 ∧ nev c ≠ [] ∧ RE ⟨C, "people", .tuple (intsD (nev c))⟩ μ
abbrev T_mbE (C : Addr) : TrX := orX T_mb (T_mbX C)
abbrev T_freeE (C : Addr) : TrX := orX T_free (T_mbX C)
/-- of a person: nobody comes as a whole; nobody of that number -/
abbrev T_perX (C D : Addr) : TrX := fun xs μ _ RE => ∃ dc c p, xs = [.d dc, .d (.int p)] ∧ CoD dc c ∧ c.length < 63 ∧ ((nev c ≠ [] ∧ RE ⟨C, "people", .tuple (intsD (nev c))⟩ μ) ∨ (nev c = [] ∧ ¬ (0 ≤ p ∧ p < c.length) ∧ p.natAbs.log2 < 1920 ∧ RE ⟨D, "person", .int p⟩ μ))
abbrev T_earlierE (C D : Addr) : TrX := orX T_earlier (T_perX C D)
abbrev T_laterE (C D : Addr) : TrX := orX T_later (T_perX C D)
abbrev T_latestE (C D : Addr) : TrX := orX T_latest (T_perX C D)
/-- what is told of a person, of everybody -/
def told (c : Co) (k : Int) (p : Int) : PyData :=
  if nev c = [] then (if 0 ≤ p ∧ p < c.length then (if k = 2 then .tuple (intsD (er c p)) else if k = 3 then .tuple (intsD (bh c p)) else .int ((cl c [] [p]).length : Nat)) else .tuple [.str "no person", .int p])
  else .tuple [.str "stuck", .tuple (intsD (nev c))]
abbrev T_told : TrD := fun xs μ R => ∃ (k : Int) (dc : PyData) (c : Co) (p : Int), xs = [.d (.int k), .d dc, .d (.int p)] ∧ 0 ≤ k ∧ k ≤ 4 ∧ (nev c = [] → 2 ≤ k) ∧ CoD dc c ∧ c.length ≤ 60 ∧ p.natAbs.log2 < 1920 ∧ R (.d (told c k p)) μ
theorem told_stuck {c : Co} (h : nev c ≠ []) (k p : Int) : told c k p = .tuple [.str "stuck", .tuple (intsD (nev c))] := if_neg h
theorem told_none {c : Co} (h : nev c = []) {p : Int} (hp : ¬ (0 ≤ p ∧ p < c.length)) (k : Int) : told c k p = .tuple [.str "no person", .int p] := by
  unfold told
  rw [if_pos h, if_neg hp]
theorem rng_at {f : Int → PyData} {n : Nat} {x : Int} (h0 : 0 ≤ x) (h1 : x < n) : atI ((rng n).map f) x = some (f x) := by
  have e : ((x.toNat : Nat) : Int) = x := by omega
  rw [← e]
  refine atI_nat ?_
  unfold rng
  rw [List.map_map, List.getElem?_map, List.getElem?_range (by omega)]
  rfl
theorem er_alt (c : Co) (p : Int) (h0 : 0 ≤ p) (h1 : p < c.length) : er c p = ((rng c.length).filter (fun x => !decide (x = p))).filter (fun x => !decide (p ∈ cl c [] [x])) := by
  unfold er
  refine List.filter_congr fun x hx => ?_
  have hx' := (List.mem_filter.mp hx).2
  have ne : x ≠ p := by simpa using hx'
  by_cases hc : p ∈ cl c [] [x]
  · rw [decide_eq_true hc, decide_eq_false fun z => (mem_bh.mp z).2.2 hc]
    rfl
  · rw [decide_eq_false hc, decide_eq_true (mem_bh.mpr ⟨⟨h0, h1⟩, fun z => ne z.symm, hc⟩)]
    rfl
theorem bh_alt (c : Co) (p : Int) : bh c p = ((rng c.length).filter (fun x => !decide (x = p))).filter (fun x => !decide (x ∈ cl c [] [p])) := by
  unfold bh
  rw [List.filter_filter]
  exact List.filter_congr fun x _ => Bool.and_comm _ _
theorem told3 {c : Co} (h : nev c = []) {p : Int} (h0 : 0 ≤ p) (h1 : p < c.length) : (([2, 3, 4] : List Int).map fun x => told c x p) = [.tuple (intsD (((rng c.length).filter (fun x => !decide (x = p))).filter (fun x => !decide (p ∈ cl c [] [x])))), .tuple (intsD (((rng c.length).filter (fun x => !decide (x = p))).filter (fun x => !decide (x ∈ cl c [] [p])))), .int ((cl c [] [p]).length : Nat)] := by
  rw [← er_alt c p h0 h1, ← bh_alt c p]
  have e : ∀ k : Int, told c k p = if k = 2 then .tuple (intsD (er c p)) else if k = 3 then .tuple (intsD (bh c p)) else .int ((cl c [] [p]).length : Nat) := fun k => by
    unfold told
    rw [if_pos h, if_pos ⟨h0, h1⟩]
  simp only [List.map_cons, List.map_nil, e]
  rfl
theorem told_fits {c : Co} (k p : Int) (hl : c.length ≤ 60) : fits 2 (told c k p) = true := by
  have h1 : (er c p).length ≤ 1000 := Nat.le_trans (List.length_filter_le _ _) (Nat.le_trans (List.length_filter_le _ _) (by rw [rng_len]; omega))
  have h2 : (bh c p).length ≤ 1000 := Nat.le_trans (bh_le c p) (by omega)
  have h3 : (nev c).length ≤ 1000 := Nat.le_trans (nev_len' c) (by omega)
  unfold told
  split
  · split
    · split
      · exact (fits_ints 1 _ h1).2
      · split
        · exact (fits_ints 1 _ h2).2
        · rfl
    · refine fits_tup (by simp) fun d hd => ?_
      simp only [List.mem_cons, List.mem_nil_iff, or_false] at hd
      rcases hd with rfl | rfl
      · decide +kernel
      · rfl
  · refine fits_tup (by simp) fun d hd => ?_
    simp only [List.mem_cons, List.mem_nil_iff, or_false] at hd
    rcases hd with rfl | rfl
    · decide +kernel
    · exact (fits_ints 0 _ h3).2
theorem told_pl {α : Type} {c : Co} {f : α → PyData} {ks : List α} (h : ∀ x, ∃ k p, f x = told c k p) (hl : c.length ≤ 60) : plS (ks.map f) := plS_of_fits (n := 2) fun d hd => by
  obtain ⟨x, _, rfl⟩ := List.mem_map.mp hd
  obtain ⟨k, p, e⟩ := h x
  rw [e]
  exact told_fits k p hl
theorem coi_at {c : Co} {s : Nat} (h : s < c.length) : atI (c.map enD) (s : Int) = some (.tuple [.tuple (intsD (fr c (s : Int))), .int (nd c (s : Int))]) := by
  refine (atI_map ([], 0) h).trans ?_
  rfl
theorem wn_cat {c : Co} {s : Nat} (v : Int) (h : s < c.length) : (c.take s).map enD ++ [.tuple [.tuple (intsD (fr c (s : Int))), .int v]] ++ (c.drop (s + 1)).map enD = (wn c (s : Int) v).map enD := by
  unfold wn
  rw [Int.toNat_natCast, List.set_eq_take_append_cons_drop, if_pos h, List.map_append, List.map_cons, List.append_assoc]
  rfl
theorem over_nev {c : Co} {p v : Int} (h0 : 0 ≤ p) (h1 : p < c.length) (hv : ((fr c p).length : Int) < v) : nev (wn c p v) ≠ [] := by
  have hn : p ∉ gr (wn c p v) := fun m => by
    refine cl_in (c := wn c p v) (t := []) (b := []) (S := fun x => x ≠ p) (fun q g0 g1 _ ⟨t, ht, hc⟩ e => ?_) (fun x m => by cases m) p m rfl
    subst e
    unfold comes at hc
    rw [wn_cnt h0 h1, wn_nd h0 h1, if_pos rfl] at hc
    have h2 := of_decide_eq_true hc
    have h3 : cnt c t q ≤ ((fr c q).length : Nat) := by
      unfold cnt
      exact Int.ofNat_le.mpr (List.length_filter_le _ _)
    omega
  intro z
  have hm : p ∈ nev (wn c p v) := mem_nev.mpr ⟨⟨h0, by rw [wn_len]; exact h1⟩, hn⟩
  rw [z] at hm
  cases hm
/-- who comes without each person -/
abbrev wsoD (c : Co) : PyData := .list ((rng c.length).map fun s => .list (intsD (cl c [] [s])))
abbrev T_soulr2 : TrD := fun xs μ R => ∃ (c : Co) (p : Int), xs = [.d (coD c), .d (.int p), .d (wsoD c)] ∧ CoD (coD c) c ∧ c.length ≤ 20 ∧ nev c = [] ∧ 0 ≤ p ∧ p < c.length ∧ R (.d (.bool true)) μ
abbrev T_stuckr : TrD := fun xs μ R => ∃ (b : Addr) (bs : List PyData) (c : Co) (m : Nat), xs = [.a b, .d (coD c)] ∧ μ = ([(b, bs)] : Cells) ∧ BoxOk m bs ∧ CoW c ∧ 0 < c.length ∧ c.length ≤ 20 ∧ m + 100 ≤ 1000000000000 ∧ ∀ bs', BoxOk (m + 100) bs' → R (.d (.bool true)) [(b, bs')]
theorem ints_of {P : Int → Prop} : ∀ {ds : List PyData}, (∀ d ∈ ds, ∃ x : Int, d = .int x ∧ P x) → ∃ L : List Int, ds = intsD L ∧ ∀ x ∈ L, P x
  | [], _ => ⟨[], rfl, fun _ z => by cases z⟩
  | d :: ds, h => by
    obtain ⟨x, rfl, px⟩ := h d List.mem_cons_self
    obtain ⟨L, rfl, hL⟩ := ints_of (P := P) (ds := ds) fun d' m => h d' (List.mem_cons_of_mem _ m)
    exact ⟨x :: L, rfl, fun y m => by
      rcases List.mem_cons.mp m with rfl | m
      · exact px
      · exact hL y m⟩
/-! ### the pairs, person by person -/
def tieN (c : Co) (i : Nat) : List (Int × Int) := ((rng c.length).take i).flatMap fun p => (bh c p).map fun o => (p, o)
def frN (c : Co) (i : Nat) : List (Int × Int) := ((rng c.length).take i).flatMap fun lo => (((rng c.length).filter fun h => decide (lo < h)).filter fun h => !decide ((lo, h) ∈ mb c) && !decide ((h, lo) ∈ mb c)).map fun h => (lo, h)
theorem tieN_succ {c : Co} {i : Nat} (h : i < c.length) : tieN c (i + 1) = tieN c i ++ (bh c (i : Int)).map fun o => ((i : Int), o) := by
  unfold tieN
  rw [rng_take_succ h, List.flatMap_append, List.flatMap_singleton]
theorem frN_succ {c : Co} {i : Nat} (h : i < c.length) : frN c (i + 1) = frN c i ++ (((rng c.length).filter fun h => decide ((i : Int) < h)).filter fun h => !decide (((i : Int), h) ∈ mb c) && !decide ((h, (i : Int)) ∈ mb c)).map fun h => ((i : Int), h) := by
  unfold frN
  rw [rng_take_succ h, List.flatMap_append, List.flatMap_singleton]
theorem tieN_all (c : Co) : tieN c c.length = mb c := by
  unfold tieN
  rw [List.take_of_length_le (by rw [rng_len]; exact Nat.le_refl _)]
  rfl
theorem filter_flatMap' {α β : Type} (f : α → List β) (p : β → Bool) : ∀ l : List α, (l.flatMap f).filter p = l.flatMap fun x => (f x).filter p
  | [] => rfl
  | x :: l => by
    rw [List.flatMap_cons, List.flatMap_cons, List.filter_append, filter_flatMap' f p l]
theorem frN_all (c : Co) : frN c c.length = fp c := by
  unfold frN fp prs
  rw [List.take_of_length_le (by rw [rng_len]; exact Nat.le_refl _), filter_flatMap']
  congr 1
  funext lo
  rw [List.filter_map]
  rfl
theorem tieN_len (c : Co) (i : Nat) (hl : c.length ≤ 20) : (tieN c i).length ≤ 400 := by
  have h := flat_le (fun p => (bh c p).map fun o => (p, o)) c.length ((rng c.length).take i) fun x _ => by
    rw [List.length_map]
    exact bh_le c x
  rw [List.length_take, rng_len] at h
  exact Nat.le_trans h (Nat.mul_le_mul (Nat.le_trans (Nat.min_le_right _ _) hl) hl)
theorem frN_len (c : Co) (i : Nat) (hl : c.length ≤ 20) : (frN c i).length ≤ 400 := by
  have h := flat_le (fun lo => (((rng c.length).filter fun h => decide (lo < h)).filter fun h => !decide ((lo, h) ∈ mb c) && !decide ((h, lo) ∈ mb c)).map fun h => (lo, h)) c.length ((rng c.length).take i) fun x _ => by
    rw [List.length_map]
    exact Nat.le_trans (List.length_filter_le _ _) (Nat.le_trans (List.length_filter_le _ _) (by rw [rng_len]; exact Nat.le_refl _))
  rw [List.length_take, rng_len] at h
  exact Nat.le_trans h (Nat.mul_le_mul (Nat.le_trans (Nat.min_le_right _ _) hl) hl)
theorem tie_lc (c : Co) (i : Nat) : ((rng c.length).filter (fun x => !decide ((i : Int) = x) && !decide (x ∈ cl c [] [(i : Int)]))).map (fun x => duoD ((i : Int), x)) = ((bh c (i : Int)).map fun o => ((i : Int), o)).map duoD := by
  rw [List.map_map]
  unfold bh
  congr 1
  refine List.filter_congr fun x _ => ?_
  congr 2
  rw [decide_eq_decide]
  exact ⟨fun z => z.symm, fun z => z.symm⟩
theorem pair_lc (l : List Int) (i : Nat) : l.map (fun x => duoD ((i : Int), x)) = (l.map fun o => ((i : Int), o)).map duoD := by
  rw [List.map_map]
  rfl
theorem rng_from (n i : Nat) : (rng n).filter (fun x => decide (((i + 1 : Nat) : Int) ≤ x)) = (rng n).filter fun h => decide ((i : Int) < h) := List.filter_congr fun x _ => by
  rw [decide_eq_decide]
  omega
theorem duos_fits {l : List (Int × Int)} (h : l.length ≤ 1000) : fits 2 (.list (l.map duoD)) = true := fits_lst (by rw [List.length_map]; exact h) fun d hd => by
  obtain ⟨q, _, rfl⟩ := List.mem_map.mp hd
  exact pr_fits q
end Ec

set_option Elab.async false
set_option linter.all false
set_option maxRecDepth 100000
set_option maxHeartbeats 4000000
/-! rows that are no orders -/
namespace Ec
open PySem PySem.Spec PyProof.Rows L2
/-- the first error of a company and some rows -/
def oErr (C D : Addr) (c : Co) (rows : List (List Int)) : Option Exn :=
  if nev c = [] then (rows.find? fun r => !(misL c r).isEmpty).map fun r => ⟨D, "place", misV c r⟩
  else some ⟨C, "people", .tuple (intsD (nev c))⟩
theorem oErr_stuck {C D : Addr} {c : Co} (h : nev c ≠ []) (rows : List (List Int)) : oErr C D c rows = some ⟨C, "people", .tuple (intsD (nev c))⟩ := if_neg h
theorem oErr_bad {C D : Addr} {c : Co} (h : nev c = []) {r : List Int} (hr : misL c r ≠ []) (rows : List (List Int)) : oErr C D c (r :: rows) = some ⟨D, "place", misV c r⟩ := by
  unfold oErr
  rw [if_pos h, List.find?_cons_of_pos (by
    cases e : misL c r with
    | nil => exact absurd e hr
    | cons _ _ => rfl)]
  rfl
theorem oErr_good {C D : Addr} {c : Co} (h : nev c = []) {r : List Int} (hr : misL c r = []) (rows : List (List Int)) : oErr C D c (r :: rows) = oErr C D c rows := by
  unfold oErr
  rw [if_pos h, if_pos h, List.find?_cons_of_neg (by rw [hr]; decide)]
theorem oErr_nil {C D : Addr} {c : Co} (h : nev c = []) : oErr C D c [] = none := by
  unfold oErr
  rw [if_pos h]
  rfl
theorem misV_some {c : Co} {r : List Int} (h : misL c r ≠ []) : ∃ i : Nat, misV c r = .int (i : Int) ∧ i < r.length := by
  unfold misV
  cases e : misL c r with
  | nil => exact absurd e h
  | cons i t =>
    refine ⟨i, rfl, ?_⟩
    have : i ∈ misL c r := by rw [e]; exact List.mem_cons_self
    unfold misL at this
    exact List.mem_range.mp (List.mem_filter.mp this).1
theorem misV_empty {c : Co} {r : List Int} (h : misL c r = []) : misV c r = .none := by unfold misV; rw [h]
theorem misV_fm {c : Co} {r : List Int} (h : misL c r ≠ []) (hl : r.length ≤ 1000) : FmD (misV c r) := by
  obtain ⟨i, e, hi⟩ := misV_some h
  rw [e]
  exact log2_ok (Nat.lt_of_le_of_lt (by omega : ((i : Int)).natAbs ≤ 1000000) (by decide))
abbrev T_lookoX (D : Addr) : TrX := fun xs μ _ RE => ∃ dc c dr r, xs = [.d dc, .d dr] ∧ CoD dc c ∧ SqD dr (intsD r) ∧ r.length ≤ 1000 ∧ (∀ x ∈ r, 0 ≤ x ∧ x < c.length) ∧ misL c r ≠ [] ∧ RE ⟨D, "place", misV c r⟩ μ
abbrev T_lookoE (D : Addr) : TrX := orX T_looko (T_lookoX D)
abbrev T_lookosX (C D : Addr) : TrX := fun xs μ _ RE => ∃ dc c d1 r1 d2 r2, xs = [.d dc, .d d1, .d d2] ∧ CoD dc c ∧ c.length < 64 ∧ SqD d1 (intsD r1) ∧ Row c.length r1 ∧ SqD d2 (intsD r2) ∧ Row c.length r2 ∧ ∃ ex, oErr C D c [r1, r2] = some ex ∧ RE ex μ
abbrev T_lookosE (C D : Addr) : TrX := orX T_lookos (T_lookosX C D)
abbrev T_exsX (C D : Addr) : TrX := fun xs μ _ RE => ∃ dc c dr r, xs = [.d dc, .d dr] ∧ CoD dc c ∧ c.length < 64 ∧ SqD dr (intsD r) ∧ Row c.length r ∧ ∃ ex, oErr C D c [r] = some ex ∧ RE ex μ
abbrev T_exsE (C D : Addr) : TrX := orX T_exs (T_exsX C D)
/-- exchanged: also no such place -/
abbrev T_exdX (C D N : Addr) : TrX := fun xs μ _ RE => ∃ dc c dr r p, xs = [.d dc, .d dr, .d (.int p)] ∧ CoD dc c ∧ c.length < 64 ∧ SqD dr (intsD r) ∧ Row c.length r ∧ ((∃ ex, oErr C D c [r] = some ex ∧ RE ex μ) ∨ (oErr C D c [r] = none ∧ ¬ (0 ≤ p ∧ p < (c.length : Int) - 1) ∧ p.natAbs.log2 < 1920 ∧ RE ⟨N, "place", .int p⟩ μ))
abbrev T_exdE (C D N : Addr) : TrX := orX T_exd (T_exdX C D N)
abbrev T_crossX (C D : Addr) : TrX := fun xs μ _ RE => ∃ dc c d1 r1 d2 r2, xs = [.d dc, .d d1, .d d2] ∧ CoD dc c ∧ c.length < 64 ∧ SqD d1 (intsD r1) ∧ Row c.length r1 ∧ SqD d2 (intsD r2) ∧ Row c.length r2 ∧ ∃ ex, oErr C D c [r1, r2] = some ex ∧ RE ex μ
abbrev T_crossE (C D : Addr) : TrX := orX T_cross (T_crossX C D)
abbrev T_distE (C D : Addr) : TrX := orX T_dist (T_crossX C D)
abbrev T_planE (C D : Addr) : TrX := orX T_plan (T_crossX C D)
/-- a plan that is none at all -/
abbrev T_shows0 : TrD := fun xs μ R => ∃ dc c d1 r1 d2 r2, xs = [.d dc, .d d1, .d d2, .d .none] ∧ CoD dc c ∧ c.length ≤ 60 ∧ nev c = [] ∧ SqD d1 (intsD r1) ∧ IsOrd c r1 ∧ SqD d2 (intsD r2) ∧ IsOrd c r2 ∧ R (.d (.bool false)) μ
abbrev T_showsX (C D : Addr) : TrX := fun xs μ _ RE => ∃ dc c d1 r1 d2 r2 d3, xs = [.d dc, .d d1, .d d2, .d d3] ∧ CoD dc c ∧ c.length < 64 ∧ SqD d1 (intsD r1) ∧ Row c.length r1 ∧ SqD d2 (intsD r2) ∧ Row c.length r2 ∧ ∃ ex, oErr C D c [r1, r2] = some ex ∧ RE ex μ
abbrev T_shows0E (C D : Addr) : TrX := orX T_shows0 (T_showsX C D)
theorem oErr_cases {C D : Addr} {c : Co} {r : List Int} {rows : List (List Int)} : (nev c ≠ [] ∧ oErr C D c (r :: rows) = some ⟨C, "people", .tuple (intsD (nev c))⟩) ∨ (nev c = [] ∧ misL c r ≠ [] ∧ oErr C D c (r :: rows) = some ⟨D, "place", misV c r⟩) ∨ (nev c = [] ∧ misL c r = [] ∧ oErr C D c (r :: rows) = oErr C D c rows) := by
  by_cases h : nev c = []
  · by_cases g : misL c r = []
    · exact .inr (.inr ⟨h, g, oErr_good h g rows⟩)
    · exact .inr (.inl ⟨h, g, oErr_bad h g rows⟩)
  · exact .inl ⟨h, oErr_stuck h _⟩
/-! ### the law's own functions -/
theorem misV_at {c : Co} {r : List Int} {i : Nat} (hi : i < r.length) (h : ∀ j, j < i → comes c (r.take j) (r.getD j 0) = true) (hn : comes c (r.take i) (r.getD i 0) = false) : misV c r = .int (i : Int) := by
  have e : ∃ t, misL c r = i :: t := by
    unfold misL
    have sp : List.range r.length = List.range i ++ (i :: (List.range (r.length - i - 1)).map (fun k => i + 1 + k)) := by
      have h1 : r.length = i + ((r.length - i - 1) + 1) := by omega
      conv => lhs; rw [h1]
      rw [List.range_add, List.range_succ_eq_map]
      simp only [List.map_cons, List.map_map, Nat.add_zero]
      congr 3
      funext k
      show i + (k + 1) = i + 1 + k
      omega
    rw [sp, List.filter_append, List.filter_eq_nil_iff.mpr (fun j m => by
      rw [h j (List.mem_range.mp m)]
      decide), List.nil_append, List.filter_cons_of_pos (by rw [hn]; rfl)]
    exact ⟨_, rfl⟩
  obtain ⟨t, e⟩ := e
  unfold misV
  rw [e]
theorem misV_all {c : Co} {r : List Int} (h : ∀ j, j < r.length → comes c (r.take j) (r.getD j 0) = true) : misV c r = .none := by
  have e : misL c r = [] := by
    unfold misL
    exact List.filter_eq_nil_iff.mpr fun j m => by
      rw [h j (List.mem_range.mp m)]
      decide
  exact misV_empty e
abbrev T_lmis : TrD := fun xs μ R => ∃ dc c q, xs = [.d dc, .d (.tuple (intsD q))] ∧ CoD dc c ∧ q.length ≤ 1000 ∧ (∀ x ∈ q, 0 ≤ x ∧ x < c.length) ∧ R (.d (misV c q)) μ
def told7 (c : Co) (q t : List Int) (w : Int) : PyData :=
  if nev c = [] then
    if misL c q = [] then
      if 1 < w ∧ misL c t ≠ [] then .tuple [.str "Misfit", misV c t]
      else if w = 1 then .str "NoPlace" else .none
    else .tuple [.str "Misfit", misV c q]
  else .tuple [.str "Stuck", .tuple (intsD (nev c))]
theorem told7_stuck {c : Co} {q t : List Int} {w : Int} (h : nev c ≠ []) : told7 c q t w = .tuple [.str "Stuck", .tuple (intsD (nev c))] := if_neg h
theorem told7_q {c : Co} {q t : List Int} {w : Int} (h : nev c = []) (hq : misL c q ≠ []) : told7 c q t w = .tuple [.str "Misfit", misV c q] := by
  unfold told7
  rw [if_pos h, if_neg hq]
theorem told7_t {c : Co} {q t : List Int} {w : Int} (h : nev c = []) (hq : misL c q = []) (hw : 1 < w) (ht : misL c t ≠ []) : told7 c q t w = .tuple [.str "Misfit", misV c t] := by
  unfold told7
  rw [if_pos h, if_pos hq, if_pos ⟨hw, ht⟩]
theorem told7_p {c : Co} {q t : List Int} (h : nev c = []) (hq : misL c q = []) : told7 c q t 1 = .str "NoPlace" := by
  unfold told7
  rw [if_pos h, if_pos hq, if_neg (by omega), if_pos rfl]
theorem told7_n {c : Co} {q t : List Int} {w : Int} (h : nev c = []) (hq : misL c q = []) (ht : 1 < w → misL c t = []) (hw : w ≠ 1) : told7 c q t w = .none := by
  unfold told7
  rw [if_pos h, if_pos hq, if_neg (fun z => z.2 (ht z.1)), if_neg hw]
abbrev T_told7 : TrD := fun xs μ R => ∃ (w : Int) (dc : PyData) (c : Co) (d1 : PyData) (q : List Int) (d2 : PyData) (t : List Int), xs = [.d (.int w), .d dc, .d d1, .d d2] ∧ 0 ≤ w ∧ w ≤ 5 ∧ CoD dc c ∧ c.length ≤ 40 ∧ SqD d1 (intsD q) ∧ Row c.length q ∧ SqD d2 (intsD t) ∧ Row c.length t ∧ R (.d (told7 c q t w)) μ
abbrev T_due7 : TrD := fun xs μ R => ∃ (w : Int) (c : Co) (q t : List Int), xs = [.d (coD c), .d (.tuple (intsD q)), .d (.tuple (intsD t)), .d (.int w)] ∧ 0 ≤ w ∧ w ≤ 5 ∧ CoD (coD c) c ∧ c.length ≤ 40 ∧ Row c.length q ∧ Row c.length t ∧ R (.d (told7 c q t w)) μ
theorem due7_bad {c : Co} {q t : List Int} {w : Int} (h : nev c = []) {rows : List (List Int)} (hr : rows = if 1 < w then [q, t] else [q]) {i : Nat} {x : List Int} (hx : rows[i]? = some x) (hp : ∀ j r, j < i → rows[j]? = some r → misL c r = []) (hn : misL c x ≠ []) : told7 c q t w = .tuple [.str "Misfit", misV c x] := by
  by_cases hw : 1 < w
  · rw [if_pos hw] at hr
    subst hr
    match i, hx with
    | 0, hx =>
      cases hx
      exact told7_q h hn
    | 1, hx =>
      cases hx
      exact told7_t h (hp 0 q (by omega) rfl) hw hn
    | i + 2, hx => simp at hx
  · rw [if_neg hw] at hr
    subst hr
    match i, hx with
    | 0, hx =>
      cases hx
      exact told7_q h hn
    | i + 1, hx => simp at hx
theorem due7_good {c : Co} {q t : List Int} {w : Int} (h : nev c = []) {rows : List (List Int)} (hr : rows = if 1 < w then [q, t] else [q]) (hp : ∀ j r, j < rows.length → rows[j]? = some r → misL c r = []) : told7 c q t w = if w = 1 then .str "NoPlace" else .none := by
  unfold told7
  by_cases hw : 1 < w
  · rw [if_pos hw] at hr
    subst hr
    rw [if_pos h, if_pos (hp 0 q (by simp) rfl), if_neg fun z => z.2 (hp 1 t (by simp) rfl)]
  · rw [if_neg hw] at hr
    subst hr
    rw [if_pos h, if_pos (hp 0 q (by simp) rfl), if_neg fun z => hw z.1]
theorem misV_fits {c : Co} {r : List Int} : fits 0 (misV c r) = true := by
  unfold misV
  split <;> rfl
theorem told7_fits {c : Co} {q t : List Int} {w : Int} (hl : c.length ≤ 60) : fits 2 (told7 c q t w) = true := by
  have h3 : (nev c).length ≤ 1000 := Nat.le_trans (nev_len' c) (by omega)
  have two : ∀ (s : Str) (d : PyData), fits 1 (.str s) = true → fits 1 d = true → fits 2 (.tuple [.str s, d]) = true := fun s d h1 h2 => fits_tup (by simp) fun x hx => by
    simp only [List.mem_cons, List.mem_nil_iff, or_false] at hx
    rcases hx with rfl | rfl
    · exact h1
    · exact h2
  unfold told7
  split
  · split
    · split
      · exact two _ _ (by decide +kernel) (fits_up _ _ misV_fits)
      · split
        · decide +kernel
        · rfl
    · exact two _ _ (by decide +kernel) (fits_up _ _ misV_fits)
  · exact two _ _ (by decide +kernel) (fits_ints 0 _ h3).2
theorem nev_of_len {c : Co} (h : (gr c).length = c.length) : nev c = [] := by
  refine List.eq_nil_iff_forall_not_mem.mpr fun x m => ?_
  obtain ⟨hx, hn⟩ := mem_nev.mp m
  have h1 := nodup_le (List.nodup_cons.mpr ⟨hn, (show (gr c).Pairwise (· < ·) from cl_lt _).imp fun z => by omega⟩) (rng_nodup c.length) fun y my => by
    rcases List.mem_cons.mp my with rfl | my
    · exact mem_rng.mpr hx
    · exact mem_rng.mpr ((Ps.sof c _ (Nat.le_refl _)).rg y (by rw [sof_all]; exact my))
  rw [rng_len, List.length_cons] at h1
  omega
/-- the same friends, other needs -/
def Mate (c c2 : Co) : Prop := ∀ (j : Nat) (e : List Int × Int), c2[j]? = some e → ∃ e', c[j]? = some e' ∧ e.1 = e'.1 ∧ 0 ≤ e.2 ∧ e.2 ≤ 1000
theorem Mate.nil (c : Co) : Mate c [] := fun j e h => by simp at h
theorem Mate.add {c c2 : Co} {x : List Int × Int} {v : Int} (h : Mate c c2) (hx : c[c2.length]? = some x) (hv : 0 ≤ v) (hv2 : v ≤ 1000) : Mate c (c2 ++ [(x.1, v)]) := fun j e hj => by
  by_cases hl : j < c2.length
  · rw [List.getElem?_append_left hl] at hj
    exact h j e hj
  · rw [List.getElem?_append_right (by omega)] at hj
    have hz : j - c2.length = 0 := by
      have := (List.getElem?_eq_some_iff.mp hj).1
      simp at this
      omega
    have hj2 : j = c2.length := by omega
    rw [hz] at hj
    cases hj
    subst hj2
    exact ⟨x, hx, rfl, hv, hv2⟩
theorem Mate.cow {c c2 : Co} (h : Mate c c2) (hl : c2.length = c.length) (w : CoW c) : CoW c2 where
  up := fun e he => by
    obtain ⟨j, hj⟩ := List.mem_iff_getElem?.mp he
    obtain ⟨e', h1, h2, _⟩ := h j e hj
    rw [h2]
    exact w.up e' (List.mem_of_getElem? h1)
  nn := fun e he => by
    obtain ⟨j, hj⟩ := List.mem_iff_getElem?.mp he
    exact (h j e hj).choose_spec.2.2.1
  nb := fun e he => by
    obtain ⟨j, hj⟩ := List.mem_iff_getElem?.mp he
    exact (h j e hj).choose_spec.2.2.2
  lt := fun e he => by
    obtain ⟨j, hj⟩ := List.mem_iff_getElem?.mp he
    obtain ⟨e', h1, h2, _⟩ := h j e hj
    rw [h2, hl]
    exact w.lt e' (List.mem_of_getElem? h1)
  no := fun j e hj => by
    obtain ⟨e', h1, h2, _⟩ := h j e hj
    rw [h2]
    exact w.no j e' h1
end Ec

set_option Elab.async false
set_option linter.all false
set_option maxRecDepth 100000
set_option maxHeartbeats 4000000
/-! how long the text of data is -/
namespace Ec
open PySem PySem.Spec PyProof.Rows L2
theorem shownAll_map : ∀ ds : List PyData, PyData.shownAll ds = ds.map PyData.shown
  | [] => by simp only [PyData.shownAll, List.map_nil]
  | d :: ds => by simp only [PyData.shownAll, List.map_cons, shownAll_map ds]
theorem showableAll_of : ∀ {ds : List PyData}, (∀ d ∈ ds, d.showable = true) → PyData.showableAll ds = true
  | [], _ => by simp only [PyData.showableAll]
  | d :: ds, h => by
    simp only [PyData.showableAll, Bool.and_eq_true]
    exact ⟨h d List.mem_cons_self, showableAll_of fun x m => h x (List.mem_cons_of_mem _ m)⟩
theorem hasDictAll_of : ∀ {ds : List PyData}, (∀ d ∈ ds, d.hasDict = false) → PyData.hasDictAll ds = false
  | [], _ => by simp only [PyData.hasDictAll]
  | d :: ds, h => by
    simp only [PyData.hasDictAll, Bool.or_eq_false_iff]
    exact ⟨h d List.mem_cons_self, hasDictAll_of fun x m => h x (List.mem_cons_of_mem _ m)⟩
theorem depthAll_of {n : Nat} : ∀ {ds : List PyData}, (∀ d ∈ ds, d.depth ≤ n) → PyData.depthAll ds ≤ n
  | [], _ => by simp only [PyData.depthAll]; exact Nat.zero_le _
  | d :: ds, h => by
    simp only [PyData.depthAll]
    exact Nat.max_le.mpr ⟨h d List.mem_cons_self, depthAll_of fun x m => h x (List.mem_cons_of_mem _ m)⟩
structure Shw (n k : Nat) (d : PyData) : Prop where
  sh : d.showable = true
  nd : d.hasDict = false
  dp : d.depth ≤ k
  ln : d.shown.length ≤ n
theorem Shw.mono {n m k : Nat} {d : PyData} (h : Shw n k d) (l : n ≤ m) : Shw m k d := ⟨h.sh, h.nd, h.dp, Nat.le_trans h.ln l⟩
theorem Shw.int {i : Int} (h : i.natAbs < 10 ^ 9) : Shw 10 0 (.int i) := by
  refine ⟨?_, by simp only [PyData.hasDict], by simp only [PyData.depth]; exact Nat.le_refl _, ?_⟩
  · simp only [PyData.showable]
    refine decide_eq_true ?_
    by_cases h0 : i.natAbs = 0
    · rw [h0]
      decide
    · exact (Nat.log2_lt h0).mpr (Nat.lt_of_lt_of_le h (Nat.le_trans (by decide : 10 ^ 9 ≤ 2 ^ 100) (Nat.pow_le_pow_right (by decide) (by decide))))
  · simp only [PyData.shown]
    have e := int_text_length_le10 (k := 9) (by decide) h
    refine Nat.le_trans ?_ e
    show (Str.ofString (toString i)).length ≤ _
    rw [PySem.ofString_length]
    exact Nat.le_refl _
theorem sum_le {n : Nat} : ∀ {l : List Nat}, (∀ x ∈ l, x ≤ n) → l.sum ≤ l.length * n
  | [], _ => by simp
  | x :: l, h => by
    have h1 := h x List.mem_cons_self
    have h2 := sum_le (n := n) (l := l) fun y m => h y (List.mem_cons_of_mem _ m)
    rw [List.sum_cons, List.length_cons, Nat.succ_mul]
    omega
theorem shown_sum {n k : Nat} {ds : List PyData} (h : ∀ d ∈ ds, Shw n k d) : ((PyData.shownAll ds).map (·.length)).sum + 2 * (PyData.shownAll ds).length + 3 ≤ ds.length * (n + 2) + 3 := by
  rw [shownAll_map, List.map_map]
  have := sum_le (n := n) (l := ds.map ((fun t : Str => t.length) ∘ PyData.shown)) fun x m => by
    obtain ⟨d, hd, rfl⟩ := List.mem_map.mp m
    exact (h d hd).ln
  rw [List.length_map] at this ⊢
  rw [Nat.mul_add]
  omega
theorem Shw.tup {n k : Nat} {ds : List PyData} (h : ∀ d ∈ ds, Shw n k d) : Shw (ds.length * (n + 2) + 3) (k + 1) (.tuple ds) := by
  refine ⟨?_, ?_, ?_, ?_⟩
  · simp only [PyData.showable]
    exact showableAll_of fun d m => (h d m).sh
  · simp only [PyData.hasDict]
    exact hasDictAll_of fun d m => (h d m).nd
  · have := depthAll_of fun d m => (h d m).dp
    simp only [PyData.depth]
    omega
  · simp only [PyData.shown]
    exact Nat.le_trans (tupleText_len_le _) (shown_sum h)
theorem Shw.lst {n k : Nat} {ds : List PyData} (h : ∀ d ∈ ds, Shw n k d) : Shw (ds.length * (n + 2) + 3) (k + 1) (.list ds) := by
  refine ⟨?_, ?_, ?_, ?_⟩
  · simp only [PyData.showable]
    exact showableAll_of fun d m => (h d m).sh
  · simp only [PyData.hasDict]
    exact hasDictAll_of fun d m => (h d m).nd
  · have := depthAll_of fun d m => (h d m).dp
    simp only [PyData.depth]
    omega
  · simp only [PyData.shown]
    exact Nat.le_trans (listText_len_le _) (shown_sum h)
theorem Shw.up {n k j : Nat} {d : PyData} (h : Shw n k d) (l : k ≤ j) : Shw n j d := ⟨h.sh, h.nd, Nat.le_trans h.dp l, h.ln⟩
/-- a company as it stands -/
theorem CoW.shw {c : Co} (w : CoW c) (hl : c.length ≤ 40) (hf : ∀ e ∈ c, e.1.length ≤ 1000) : Shw 1000000 3 (coD c) := by
  have he : ∀ e ∈ c, Shw 24013 2 (enD e) := fun e m => by
    have h1 : Shw 12003 1 (.tuple (intsD e.1)) := (Shw.tup (n := 10) (k := 0) fun d hd => by
      obtain ⟨i, hi, rfl⟩ := List.mem_map.mp hd
      have := w.lt e m i hi
      exact Shw.int (Nat.lt_of_le_of_lt (by omega : i.natAbs ≤ 1000) (by decide))).mono (by
        have := hf e m
        rw [List.length_map]
        omega)
    have h2 : Shw 12003 1 (.int e.2) := ((Shw.int (Nat.lt_of_le_of_lt (by
      have := w.nn e m
      have := w.nb e m
      omega : e.2.natAbs ≤ 1000) (by decide))).mono (by decide)).up (by decide)
    refine Shw.tup (n := 12003) (k := 1) (ds := [.tuple (intsD e.1), .int e.2]) fun d hd => ?_
    simp only [List.mem_cons, List.mem_nil_iff, or_false] at hd
    rcases hd with rfl | rfl
    · exact h1
    · exact h2
  refine (Shw.tup (n := 24013) (k := 2) (ds := c.map enD) fun d hd => ?_).mono ?_
  · obtain ⟨e, m, rfl⟩ := List.mem_map.mp hd
    exact he e m
  · rw [List.length_map]
    omega
section
variable {K : PySem.W.Frag} {μ : Cells} {Q : Vd → Cells → Prop} {a b : Str}
theorem ow_eqS (h : Q (.d (.bool (decide (a = b)))) μ) : OpW K rEq (.d (.str a)) (.d (.str b)) μ Q := fun F H v u m o1 o2 QV c => by
  have e1 := dp_str o1
  have e2 := dp_str o2
  subst e1 e2
  refine ⟨rfl, c (.d (.bool _)) _ F H μ Fw.refl m ?_ h⟩
  rw [show decide (V.str a = V.str b) = decide (a = b) by rw [decide_eq_decide]; exact ⟨fun z => V.str.inj z, fun z => by rw [z]⟩]
  exact .bl _
theorem ow_neS (h : Q (.d (.bool (!decide (a = b)))) μ) : OpW K rNe (.d (.str a)) (.d (.str b)) μ Q := fun F H v u m o1 o2 QV c => by
  have e1 := dp_str o1
  have e2 := dp_str o2
  subst e1 e2
  refine ⟨rfl, c (.d (.bool _)) _ F H μ Fw.refl m ?_ h⟩
  rw [show decide (V.str a = V.str b) = decide (a = b) by rw [decide_eq_decide]; exact ⟨fun z => V.str.inj z, fun z => by rw [z]⟩]
  exact .bl _
end
end Ec

set_option Elab.async false
set_option linter.all false
set_option maxRecDepth 100000
set_option maxHeartbeats 4000000
/-! needs, invitations: people who are not there (k02) -/
namespace Ec
open PySem PySem.Spec PyProof.Rows L2
abbrev T_withnX (D : Addr) : TrX := fun xs μ _ RE => ∃ (dc : PyData) (c : Co) (p v : Int), xs = [.d dc, .d (.int p), .d (.int v)] ∧ CoD dc c ∧ c.length < 64 ∧ ¬ (0 ≤ p ∧ p < c.length) ∧ p.natAbs.log2 < 1920 ∧ RE ⟨D, "person", .int p⟩ μ
abbrev T_withnE (D : Addr) : TrX := orX T_withn (T_withnX D)
/-- the j-th of the people is the first who is not there -/
abbrev T_invX (D : Addr) : TrX := fun xs μ _ RE => ∃ (dc : PyData) (c : Co) (dp : PyData) (t : List Int) (j : Nat) (p : Int), xs = [.d dc, .d dp] ∧ CoD dc c ∧ c.length < 64 ∧ SqD dp (intsD t) ∧ Rg c.length (t.take j) ∧ t[j]? = some p ∧ ¬ (0 ≤ p ∧ p < c.length) ∧ p.natAbs.log2 < 1920 ∧ RE ⟨D, "person", .int p⟩ μ
abbrev T_invE (D : Addr) : TrX := orX T_inv (T_invX D)
abbrev npD (p : Int) : PyData := .tuple [.str "NoPerson", .int p]
theorem np_fits (p : Int) : fits 3 (npD p) = true := fits_mono (n := 1) (fits_tup (by simp) fun d hd => by
  simp only [List.mem_cons, List.mem_nil_iff, or_false] at hd
  rcases hd with rfl | rfl
  · decide +kernel
  · rfl)
/-- a person and a need, or people -/
abbrev T_told2 : TrD := fun xs μ R => ∃ (dc : PyData) (c : Co) (dm dd : PyData), xs = [.d dc, .d dm, .d dd] ∧ CoD dc c ∧ c.length < 41 ∧
  ((∃ p v : Int, dm = .int p ∧ dd = .int v ∧ (0 ≤ p ∧ p < c.length) ∧ R (.d (coD (wn c p v))) μ) ∨
  (∃ p v : Int, dm = .int p ∧ dd = .int v ∧ ¬ (0 ≤ p ∧ p < c.length) ∧ p.natAbs.log2 < 1920 ∧ R (.d (npD p)) μ) ∨
  (∃ t : List Int, dd = .none ∧ SqD dm (intsD t) ∧ Rg c.length t ∧ R (.d (coD (inv c t))) μ) ∨
  (∃ (t : List Int) (j : Nat) (p : Int), dd = .none ∧ SqD dm (intsD t) ∧ Rg c.length (t.take j) ∧ t[j]? = some p ∧ ¬ (0 ≤ p ∧ p < c.length) ∧ p.natAbs.log2 < 1920 ∧ R (.d (npD p)) μ))
theorem co_range (c : Co) : (List.range c.length).map (fun i => c.getD i ([], 0)) = c := by
  refine List.ext_getElem? fun i => ?_
  rw [List.getElem?_map]
  by_cases h : i < c.length
  · rw [List.getElem?_range h, List.getElem?_eq_getElem h]
    show some (c.getD i ([], 0)) = _
    rw [List.getD_eq_getElem?_getD, List.getElem?_eq_getElem h]
    rfl
  · rw [List.getElem?_eq_none (by rw [List.length_range]; omega), List.getElem?_eq_none (by omega)]
    rfl
theorem inv_enum {c : Co} {t : List Int} (hr : Rg c.length t) : (List.range c.length).map (fun i : Nat => enD ((c.getD i ([], 0)).1, if (i : Int) ∈ t then 0 else (c.getD i ([], 0)).2)) = (inv c t).map enD := by
  have e := co_range (inv c t)
  rw [inv_len] at e
  conv => rhs; rw [← e]
  rw [List.map_map]
  refine List.map_congr_left fun i hi => ?_
  show enD _ = enD _
  have h1 := inv_fr t hr (i : Int)
  have h2 := inv_nd t hr (i : Int) (by omega)
  unfold fr at h1
  unfold nd at h2
  rw [Int.toNat_natCast] at h1 h2
  rw [← h2, ← h1]
theorem enum_eqE (c : Co) : enumD (c.map enD) = (List.range c.length).map fun i : Nat => .tuple [.int (i : Int), enD (c.getD i ([], 0))] := by
  refine List.ext_getElem? fun j => ?_
  unfold enumD
  rw [List.getElem?_mapIdx, List.getElem?_map, List.getElem?_map]
  by_cases hj : j < c.length
  · rw [List.getElem?_range hj]
    simp [List.getD_eq_getElem?_getD, List.getElem?_eq_getElem hj]
  · rw [List.getElem?_eq_none (by omega), List.getElem?_eq_none (by rw [List.length_range]; omega)]
    rfl
end Ec

set_option Elab.async false
set_option linter.all false
set_option maxRecDepth 100000
set_option maxHeartbeats 4000000
/-! all orders of a small company (k20) -/
namespace Ec
open PySem PySem.Spec PyProof.Rows L2
def stepP (c : Co) (s : List Int) : List (List Int) := (((rng c.length).filter fun p => !decide (p ∈ s)).filter fun p => comes c s p).map fun p => s ++ [p]
def allP (c : Co) : Nat → List (List Int)
  | 0 => [[]]
  | k + 1 => (allP c k).flatMap (stepP c)
theorem POrd.init {c : Co} {r : List Int} {x : Int} (h : POrd c (r ++ [x])) : POrd c r ∧ 0 ≤ x ∧ x < c.length ∧ x ∉ r ∧ comes c r x = true := by
  have h1 := h.take r.length
  rw [List.take_left] at h1
  have hx := h.rg x (by simp)
  have hn := (List.nodup_append.mp h.nd).2.2
  refine ⟨h1, hx.1, hx.2, fun m => hn x m x (by simp) rfl, ?_⟩
  have := h.ok r.length x (by simp)
  rwa [List.take_left] at this
theorem mem_allP {c : Co} : ∀ {k : Nat} {r : List Int}, r ∈ allP c k ↔ POrd c r ∧ r.length = k
  | 0, r => by
    unfold allP
    constructor
    · intro h
      cases List.mem_singleton.mp h
      exact ⟨POrd.nil c, rfl⟩
    · rintro ⟨_, h⟩
      rw [List.length_eq_zero_iff.mp h]
      exact List.mem_singleton_self _
  | k + 1, r => by
    unfold allP
    rw [List.mem_flatMap]
    constructor
    · rintro ⟨s, hs, hr⟩
      obtain ⟨h1, h2⟩ := mem_allP.mp hs
      unfold stepP at hr
      obtain ⟨p, hp, rfl⟩ := List.mem_map.mp hr
      obtain ⟨hp1, hp2⟩ := List.mem_filter.mp hp
      obtain ⟨hp3, hp4⟩ := List.mem_filter.mp hp1
      obtain ⟨g0, g1⟩ := mem_rng.mp hp3
      exact ⟨h1.add g0 g1 (by simpa using hp4) hp2, by rw [List.length_append, h2]; rfl⟩
    · rintro ⟨h, hl⟩
      rcases List.eq_nil_or_concat r with rfl | ⟨s, x, rfl⟩
      · simp at hl
      · rw [List.concat_eq_append] at h hl ⊢
        obtain ⟨h1, h2, h3, h4, h5⟩ := h.init
        rw [List.length_append, List.length_singleton] at hl
        refine ⟨s, mem_allP.mpr ⟨h1, by omega⟩, ?_⟩
        unfold stepP
        exact List.mem_map.mpr ⟨x, List.mem_filter.mpr ⟨List.mem_filter.mpr ⟨mem_rng.mpr ⟨h2, h3⟩, by simpa using h4⟩, h5⟩, rfl⟩
theorem flatI_le {α β : Type} (f : α → List β) (n : Nat) : ∀ l : List α, (∀ x ∈ l, (f x).length ≤ n) → (l.flatMap f).length ≤ l.length * n
  | [], _ => by simp
  | x :: l, h => by
    have h1 := h x List.mem_cons_self
    have h2 := flatI_le f n l fun y m => h y (List.mem_cons_of_mem _ m)
    rw [List.flatMap_cons, List.length_append, List.length_cons, Nat.succ_mul]
    omega
theorem allP_len (c : Co) : ∀ k, (allP c k).length ≤ c.length ^ k
  | 0 => by simp [allP]
  | k + 1 => by
    unfold allP
    have h := flatI_le (stepP c) c.length (allP c k) fun s _ => by
      unfold stepP
      rw [List.length_map]
      exact Nat.le_trans (List.length_filter_le _ _) (Nat.le_trans (List.length_filter_le _ _) (by rw [rng_len]; exact Nat.le_refl _))
    rw [Nat.pow_succ]
    exact Nat.le_trans h (Nat.mul_le_mul_right _ (allP_len c k))
theorem mem_all {c : Co} {r : List Int} : r ∈ allP c c.length ↔ IsOrd c r := by
  rw [mem_allP]
  exact ⟨fun h => ⟨h.1, h.2⟩, fun h => ⟨h.po, h.len⟩⟩
/-- an order in which a person comes as late as possible -/
theorem led_there {c : Co} (hw : nev c = []) {a : Int} (ha : 0 ≤ a ∧ a < c.length) : ∃ r, IsOrd c r ∧ Led c a r := by
  have : ∀ k, k ≤ c.length → ∃ r, POrd c r ∧ r.length = k ∧ Led c a r := fun k => by
    induction k with
    | zero => exact fun _ => ⟨[], POrd.nil c, rfl, Led.nil c a⟩
    | succ k ih =>
      intro hk
      obtain ⟨r, hp, hl, hd⟩ := ih (by omega)
      by_cases hx : ∃ x : Int, 0 ≤ x ∧ x < c.length ∧ x ∉ r ∧ comes c r x = true ∧ (a ∈ r ∨ x ≠ a)
      · obtain ⟨x, h0, h1, h2, h3, h4⟩ := hx
        have hq := hp.add h0 h1 h2 h3
        exact ⟨r ++ [x], hq, by rw [List.length_append, hl]; rfl, hd.other hq h4⟩
      · obtain ⟨x, h0, h1, h2, h3⟩ := hp.more hw (by omega)
        have e : a ∉ r ∧ x = a := by
          by_cases har : a ∈ r
          · exact absurd ⟨x, h0, h1, h2, h3, .inl har⟩ hx
          · refine ⟨har, ?_⟩
            by_cases e : x = a
            · exact e
            · exact absurd ⟨x, h0, h1, h2, h3, .inr e⟩ hx
        obtain ⟨har, rfl⟩ := e
        have hq := hp.add h0 h1 h2 h3
        exact ⟨r ++ [x], hq, by rw [List.length_append, hl]; rfl, hd.self hq har fun y g0 g1 g2 g3 => by
          by_cases e : y = x
          · exact e
          · exact absurd ⟨y, g0, g1, g2, g3, .inr e⟩ hx⟩
  obtain ⟨r, h1, h2, h3⟩ := this c.length (Nat.le_refl _)
  exact ⟨r, ⟨h1, h2⟩, h3⟩
/-- in all orders before -/
theorem always_iff {c : Co} (hw : nev c = []) {a b : Int} (ha : 0 ≤ a ∧ a < c.length) (hb : 0 ≤ b ∧ b < c.length) (ne : a ≠ b) : ((allP c c.length).all fun r => decide (((posn a r : Nat) : Int) < ((posn b r : Nat) : Int))) = decide (b ∉ cl c [] [a]) := by
  rw [Bool.eq_iff_iff, List.all_eq_true, decide_eq_true_iff]
  constructor
  · intro h m
    obtain ⟨r, hr, hd⟩ := led_there hw ha
    have h1 := of_decide_eq_true (h r (mem_all.mpr hr))
    have h2 := (hd.set (hr.mem ha.1 ha.2) b).mpr m
    have h3 := (posn_in (hr.mem ha.1 ha.2) (hr.mem hb.1 hb.2)).mp h2
    omega
  · intro h r hr
    have h1 := (mem_all.mp hr).tied ha (mem_bh.mpr ⟨hb, fun e => ne e.symm, h⟩)
    exact decide_eq_true (by omega)
theorem step_take {c : Co} {k j : Nat} {s : List Int} (h : (allP c k)[j]? = some s) : ((allP c k).take (j + 1)).flatMap (stepP c) = ((allP c k).take j).flatMap (stepP c) ++ stepP c s := by
  rw [List.take_add_one, h, List.flatMap_append]
  simp
theorem step_len {c : Co} {k j : Nat} {s : List Int} (h : (allP c k)[j]? = some s) (hl : c.length ≤ 6) (hk : k < c.length) : (((allP c k).take j).flatMap (stepP c)).length + (stepP c s).length ≤ 50000 := by
  have e := congrArg List.length (step_take h)
  rw [List.length_append] at e
  rw [← e]
  have h1 := flatI_le (stepP c) c.length ((allP c k).take (j + 1)) fun s _ => by
    unfold stepP
    rw [List.length_map]
    exact Nat.le_trans (List.length_filter_le _ _) (Nat.le_trans (List.length_filter_le _ _) (by rw [rng_len]; exact Nat.le_refl _))
  have h2 := allP_len c k
  have h3 : c.length ^ k ≤ 6 ^ k := Nat.pow_le_pow_left hl k
  have h4 : 6 ^ k ≤ 6 ^ 5 := Nat.pow_le_pow_right (by decide) (by omega)
  have h5 : ((allP c k).take (j + 1)).length ≤ 7776 := Nat.le_trans (by rw [List.length_take]; exact Nat.min_le_right _ _) (Nat.le_trans h2 (Nat.le_trans h3 (Nat.le_trans h4 (by decide))))
  exact Nat.le_trans h1 (Nat.le_trans (Nat.mul_le_mul h5 hl) (by decide))
abbrev T_orders : TrD := fun xs μ R => ∃ c : Co, xs = [.d (coD c)] ∧ CoD (coD c) c ∧ c.length ≤ 6 ∧ R (.d (.list (tups (allP c c.length)))) μ
abbrev T_always : TrD := fun xs μ R => ∃ (every : List (List Int)) (a b : Int), xs = [.d (.list (tups every)), .d (.int a), .d (.int b)] ∧ every.length ≤ 50000 ∧ (∀ r ∈ every, a ∈ r ∧ b ∈ r ∧ r.length ≤ 100) ∧ R (.d (.bool (every.all fun r => decide (((posn a r : Nat) : Int) < ((posn b r : Nat) : Int))))) μ
/-- max(a list of ints) -/
theorem we_maxL {X : Cx} {δ : Dl} {μ : Cells} {Q : Vd → Cells → Prop} {mg : Str → Option Value} {e : Expr} {p pos : Pos} (B : Bl mg) (hg : Gl X "max") (hc : X.calm = true) (h : WE X e δ μ fun x μ1 => ∃ ns : List Int, x = .d (.list (intsD ns)) ∧ 0 < ns.length ∧ ∀ m, m ∈ ns → (∀ y ∈ ns, y ≤ m) → Q (.d (.int m)) μ1) (hm : X.mg = mg := by rfl)
    (s1 : starEach [e] X.env = (false, eval e X.env) :: starEach [] X.env := by rfl) (s2 : (backTo pos (starEach [] X.env)).any (·.1) = false := by rfl) :
    WE X (.Call (.Name "max" p) [e] [] pos) δ μ Q :=
  we_cb (cr_max hc) hg (hm ▸ B.max) PyProof.Rows.boot_max (wa_one (h.mono fun x μ1 q => fun F H vs m o QV c => by
    obtain ⟨ns, rfl, hl, q⟩ := q
    cases o with
    | cons o1 o2 =>
      cases o2
      obtain ⟨a, us, rfl, hs, hd⟩ := dp_lst o1
      rw [dps_ints hd] at hs
      exact ⟨a, ns, rfl, m.ex.seq hs, hl, fun mx h1 h2 => c (.d (.int mx)) _ F H μ1 Fw.refl m (.int mx) (q mx h1 h2)⟩) s1) (he := s1) (hpl := s2)
/-- the greatest index in an order -/
theorem last_at {c : Co} (hw : nev c = []) {a : Int} (ha : 0 ≤ a ∧ a < c.length) {m : Int} (h1 : m ∈ (allP c c.length).map fun r => ((posn a r : Nat) : Int)) (h2 : ∀ y ∈ (allP c c.length).map fun r => ((posn a r : Nat) : Int), y ≤ m) : m = ((cl c [] [a]).length : Nat) := by
  obtain ⟨r, hr, rfl⟩ := List.mem_map.mp h1
  have g1 := (mem_all.mp hr).at_most ha
  obtain ⟨s, hs, hd⟩ := led_there hw ha
  have g2 := hd.place (hs.mem ha.1 ha.2)
  have g3 := h2 _ (List.mem_map.mpr ⟨s, mem_all.mpr hs, rfl⟩)
  omega
theorem all_there {c : Co} (hw : nev c = []) : 0 < (allP c c.length).length := by
  obtain ⟨r, hr⟩ := ord_there hw
  exact List.length_pos_of_mem (mem_all.mpr hr)
abbrev T_soulr20 : TrD := fun xs μ R => ∃ (c : Co) (p : Int), xs = [.d (coD c), .d (.int p), .d (.list ((mb c).map duoD)), .d (.list (tups (allP c c.length)))] ∧ CoD (coD c) c ∧ (∀ e ∈ c, e.1.length ≤ 1000) ∧ c.length ≤ 6 ∧ nev c = [] ∧ 0 ≤ p ∧ p < c.length ∧ R (.d (.bool true)) μ
/-- an expression that reads some cells as data, and keeps none of them -/
theorem we_lendE {X : Cx} {δ : Dl} {μ : Cells} {Q : Vd → Cells → Prop} {e : Expr} (δ' : Dl) (hl : δ'.length = δ.length) (hv : ∀ (i : Nat) (y : Vd), δ'[i]? = some (some y) → δ[i]? = some (some y) ∨ ∃ p d, y = .d d ∧ δ[i]? = some (some (.a p)) ∧ LView μ p d)
    (h : WE X e δ' [] fun z μ' => noLv z = true ∧ (∀ y ∈ μ', noLc y.2 = true) ∧ Q z (μ' ++ μ)) : WE X e δ μ Q := fun F H σ R QV kk => by
  obtain ⟨sf, sh, hc⟩ := R.m.all
  have hG : ∀ b ∈ ks μ, allF F H (ks μ) b = H b := fun b hb => if_pos hb
  have m0 : RpM X.K (allF F H (ks μ)) H [] := ⟨sh, List.nodup_nil, fun _ _ z => by cases z⟩
  have R0 : Rp X.K (allF F H (ks μ)) H σ δ' [] := ⟨m0, by rw [hl]; exact R.len, fun i y hy => by
    rcases hv i y hy with h1 | ⟨p, d, rfl, h1, h2⟩
    · obtain ⟨v, g1, g2⟩ := R.env i y h1
      exact ⟨v, g1, g2.up sf⟩
    · obtain ⟨v, g1, g2⟩ := R.env i _ h1
      have ev : v = .ref p := g2
      subst ev
      exact ⟨_, g1, lview_gen R.m sf hG h2⟩⟩
  refine h _ H σ R0 QV fun v z F2 H2 μ2 w2 R2 o2 q2 => ?_
  have m2 := R2.m
  obtain ⟨q2, q3, q4⟩ := q2
  have f2 : ∀ b ∈ ks μ, ∃ o, F2 b = some o ∧ Own o := fun b hb => by
    obtain ⟨_, us, e, ow⟩ := hc b hb
    exact ⟨us, w2.f b _ e, ow⟩
  have f12 : Same F (cutS F2 (ks μ)) := fun b o hb => by
    rw [cutS_ne fun z => by rw [(hc b z).1] at hb; cases hb]
    exact w2.f b o (sf b o hb)
  have live : ∀ b ∈ ks μ, H b ≠ none := fun b hb z => by
    obtain ⟨_, us, e, _⟩ := hc b hb
    rw [hG b hb, z] at e
    cases e
  have fresh : ∀ b ∈ ks μ2, H b = none := fun b hb => (w2.s b hb).elim (fun z => by cases z) id
  have W : Fw (ks μ) (ks (μ2 ++ μ)) F H (cutS F2 (ks μ)) H2 := by
    refine ⟨f12, fun b o hb _ => w2.k b o hb (by simp), fun b hb hb2 nb => ?_, fun b hb => ?_⟩
    · rw [cutS_ne nb]
      exact w2.c b (by unfold allF; rw [if_neg nb]; exact hb) hb2 (by simp)
    · rw [ks_app] at hb
      rcases List.mem_append.mp hb with hb | hb
      · exact .inr (fresh b hb)
      · exact .inl hb
  have M : RpM X.K (cutS F2 (ks μ)) H2 (μ2 ++ μ) := by
    refine ⟨same_cutS.trans m2.ex, ?_, fun b fs hb => ?_⟩
    · rw [ks_app]
      refine List.nodup_append.mpr ⟨m2.nd, R.m.nd, fun x mx y my e' => ?_⟩
      subst e'
      exact live x my (fresh x mx)
    · rcases List.mem_append.mp hb with hb | hb
      · have nb : b ∉ ks μ := fun z => live b z (fresh b (List.mem_map.mpr ⟨_, hb, rfl⟩))
        have hn := q3 _ hb
        cases fs with
        | l fs =>
          obtain ⟨g1, ws, g2, g3⟩ := m2.cel b _ hb
          exact ⟨by rw [cutS_ne nb]; exact g1, ws, g2, .of (dps_cutS f2 _ _ hn (g3.to (noLs_pl hn)))⟩
        | i _ => cases hn
        | t _ => cases hn
      · obtain ⟨g1, g2⟩ := R.m.cel b fs hb
        exact ⟨if_pos (List.mem_map.mpr ⟨_, hb, rfl⟩), g2.to f12 fun o e => w2.k b o e (by simp)⟩
  refine kk v z (cutS F2 (ks μ)) H2 (μ2 ++ μ) W (R.to f12 M) ?_ q4
  cases z with
  | d x => exact dp_cutS f2 x v q2 o2
  | a r => exact o2
  | w es => cases q2
  | s es => cases q2
  | k _ _ => cases q2
  | e _ _ _ _ => cases q2
  | z _ _ => cases q2
theorem we_lendS {X : Cx} {δ : Dl} {μ : Cells} {Q : Vd → Cells → Prop} {e : Expr} (k : Nat) {p : Addr} {d : PyData} (hk : δ[k]? = some (some (.a p))) (lv : LView μ p d) (h : WE X e (δ.set k (some (.d d))) [] fun z μ' => noLv z = true ∧ (∀ y ∈ μ', noLc y.2 = true) ∧ Q z (μ' ++ μ)) : WE X e δ μ Q :=
  we_lendE _ (List.length_set ..) (fun i y hy => by
    by_cases e : k = i
    · subst e
      rw [List.getElem?_set_self (List.getElem?_eq_some_iff.mp hk).1] at hy
      cases hy
      exact .inr ⟨p, d, rfl, hk, lv⟩
    · rw [List.getElem?_set_ne e] at hy
      exact .inl hy) h
theorem tie20 {c : Co} (hw : nev c = []) {i : Nat} (hi : i < c.length) : ((rng c.length).filter (fun x => (!(decide (((i : Nat) : Int) = x))) && ((allP c c.length).all fun r => decide (((posn ((i : Nat) : Int) r : Nat) : Int) < ((posn x r : Nat) : Int))))).map (fun x => duoD ((i : Int), x)) = ((bh c (i : Int)).map fun o => ((i : Int), o)).map duoD := by
  rw [← tie_lc]
  congr 1
  refine List.filter_congr fun x hx => ?_
  by_cases e : ((i : Nat) : Int) = x
  · rw [decide_eq_true e]
    rfl
  · rw [decide_eq_false e, always_iff hw ⟨by omega, by omega⟩ (mem_rng.mp hx) e, decide_not]
end Ec

set_option Elab.async false
set_option linter.all false
set_option maxRecDepth 100000
set_option maxHeartbeats 4000000
/-! exchanges that are not possible (k06) -/
namespace Ec
open PySem PySem.Spec PyProof.Rows L2
abbrev T_turned : TrD := fun xs μ R => ∃ (r : List Int) (i : Nat), xs = [.d (.tuple (intsD r)), .d (.int (i : Int))] ∧ i + 1 < r.length ∧ r.length ≤ 1000 ∧ R (.d (.tuple (intsD (swp r i)))) μ
abbrev T_spots : TrD := fun xs μ R => ∃ (c : Co) (r : List Int), xs = [.d (coD c), .d (.tuple (intsD r))] ∧ CoD (coD c) c ∧ r.length ≤ 1000 ∧ (∀ x ∈ r, 0 ≤ x ∧ x < c.length) ∧ ∀ q, R (.a q) ((q, natsD (frp c r)) :: μ)
/-- exchanged: no such place, or two who are blocked -/
abbrev T_exdX6 (N B : Addr) : TrX := fun xs μ _ RE => ∃ (dc : PyData) (c : Co) (dr : PyData) (r : List Int) (p : Int), xs = [.d dc, .d dr, .d (.int p)] ∧ CoD dc c ∧ c.length < 64 ∧ nev c = [] ∧ SqD dr (intsD r) ∧ IsOrd c r ∧
  ((¬ (0 ≤ p ∧ p < (c.length : Int) - 1) ∧ p.natAbs.log2 < 1920 ∧ RE ⟨N, "place", .int p⟩ μ) ∨
  (∃ i : Nat, p = i ∧ i + 1 < r.length ∧ i ∉ frp c r ∧ RE ⟨B, "pair", .tuple (intsD [r.getD i 0, r.getD (i + 1) 0])⟩ μ))
abbrev T_exdE6 (N B : Addr) : TrX := orX T_exd (T_exdX6 N B)
/-- what is told of an exchange -/
abbrev T_told6 : TrD := fun xs μ R => ∃ (dc : PyData) (c : Co) (dr : PyData) (r : List Int) (p : Int), xs = [.d dc, .d dr, .d (.int p)] ∧ CoD dc c ∧ c.length ≤ 40 ∧ nev c = [] ∧ SqD dr (intsD r) ∧ IsOrd c r ∧
  ((∃ i : Nat, p = i ∧ i ∈ frp c r ∧ R (.d (.tuple (intsD (swp r i)))) μ) ∨
  (¬ (0 ≤ p ∧ p < (c.length : Int) - 1) ∧ p.natAbs.log2 < 1920 ∧ R (.d (.tuple [.str "NoPlace", .int p])) μ) ∨
  (∃ i : Nat, p = i ∧ i + 1 < r.length ∧ i ∉ frp c r ∧ R (.d (.tuple [.str "Blocked", .tuple (intsD [r.getD i 0, r.getD (i + 1) 0])])) μ))
end Ec

set_option Elab.async false
set_option linter.all false
set_option maxRecDepth 100000
set_option maxHeartbeats 4000000
/-! a loop over a cell that is kept (k06) -/
namespace Ec
open PySem PySem.Spec PyProof.Rows L2
theorem RpM.seqC {K : PySem.W.Frag} {F H : Hp} {μ : Cells} {p : Addr} {ds : List PyData} (m : RpM K F H μ) (hm : (p, Cont.l ds) ∈ μ) (hq : plS ds) : ∃ vs, SqL K H p vs ∧ DeAll K F vs ds := by
  obtain ⟨_, vs, e1, e2⟩ := m.cel p _ hm
  exact ⟨vs, .of e1, e2.to hq⟩
theorem ws_forC {X : Cx} {δ : Dl} {μ : Cells} {D : Dn} {pos pn : Pos} {tg : Expr} {body : List Stmt} {x : Str} {p : Addr} {ds : List PyData} (is : List Nat) (k : Nat) (hp : PassesOwn (model X.prog X.w) X.A X.env X.xe) (hc : X.calm = true)
    (hN : X.N[k]? = some x) (hv : Vis X.env.scope x) (hδ : δ[k]? = some (some (.a p))) (hq : plS ds) (hm : (p, Cont.l ds) ∈ μ)
    (h : ∃ I : Nat → Dl → Cells → Prop, I 0 δ μ ∧ (∀ i δ' μ', I i δ' μ' → (p, Cont.l ds) ∈ μ') ∧ (∀ i d δ' μ', ds[i]? = some d → I i δ' μ' → WGo X is tg (.d d) δ' μ' fun δ2 μ2 => WB X body δ2 μ2 { nx := I (i + 1), rt := D.rt, bk := D.nx, ct := I (i + 1) }) ∧ ∀ δ' μ', I ds.length δ' μ' → D.nx δ' μ')
    (hd : (x == ("__debug__" : Str)) = false := by decide) (hcd : (x == ("__classdict__" : Str)) = false := by decide)
    (hs : ∀ y, foldedSetIterable (.Name x pn) X.env y = pure y := by intro _; rfl) : WS X (.For tg (.Name x pn) body [] pos) δ μ D := fun F H σ R De b =>
  toS (ps_for hp hc (pcI X tg (.Name x pn)) (pcG X tg) (pcB X body) hs) (toI (pi_seqS (pcE X _)) ((we_name (Q := fun y μ1 => y = .a p ∧ μ1 = μ) k hN hv hδ ⟨rfl, rfl⟩ hd hcd) F H σ R _ fun v y F1 H1 μ1 w1 R1 o1 q => by
    obtain ⟨rfl, rfl⟩ := q
    have ev : v = .ref p := o1
    subst ev
    obtain ⟨I, h0, hin, hturn, hend⟩ := h
    obtain ⟨vs, s0, d0⟩ := R1.m.seqC hm hq
    refine ⟨p, vs, rfl, .inl ⟨s0, ?_⟩⟩
    refine ⟨fun i m σ' H' => m = ds.length - i ∧ i ≤ ds.length ∧ ∃ F' δ' μ', Fw (ks μ1) (ks μ') F1 H1 F' H' ∧ Rp X.K F' H' σ' δ' μ' ∧ I i δ' μ', ⟨_, rfl, Nat.zero_le _, F1, δ, μ1, Fw.refl, R1, h0⟩, ?_⟩
    rintro i m σ' H' ⟨rfl, hi, F', δ', μ', w', R', hI⟩
    obtain ⟨vs', s1, d1⟩ := R'.m.seqC (hin _ _ _ hI) hq
    by_cases hlt : i < ds.length
    · refine .inr ⟨⟨vs', vs'[i]'(by rw [dps_len d1]; exact hlt), s1, List.getElem?_eq_getElem _⟩, _, fun _ _ z => z, fun x H2 y => ?_⟩
      obtain ⟨rfl, y⟩ := y
      obtain ⟨v, e1, e2⟩ := dps_get d1 (List.getElem?_eq_getElem hlt)
      have : v = x := Option.some.inj (e1.symm.trans (y vs' s1))
      subst this
      refine hturn i _ δ' μ' (List.getElem?_eq_getElem hlt) hI F' H2 σ' R' v e2 _ fun F3 H3 σ3 δ3 μ3 w3 R3 _ q3 => ?_
      have wa := w'.trans w3
      have back : ∀ F4 H4 σ4 δ4 μ4, Fw (ks μ3) (ks μ4) F3 H3 F4 H4 → Rp X.K F4 H4 σ4 δ4 μ4 → I (i + 1) δ4 μ4 → ∃ m', m' < ds.length - i ∧ (m' = ds.length - (i + 1) ∧ i + 1 ≤ ds.length ∧ ∃ F' δ' μ', Fw (ks μ1) (ks μ') F1 H1 F' H4 ∧ Rp X.K F' H4 σ4 δ' μ' ∧ I (i + 1) δ' μ') :=
        fun F4 H4 σ4 δ4 μ4 w4 R4 q4 => ⟨_, by omega, rfl, hlt, F4, δ4, μ4, wa.trans w4, R4, q4⟩
      have bb := (b.next w1).next wa
      exact q3 F3 H3 σ3 R3 _ ⟨back, bb.rt, bb.nx, back⟩
    · have e : i = ds.length := by omega
      subst e
      exact .inl ⟨⟨vs', s1, Nat.le_of_eq (dps_len d1)⟩, b.nx F' H' σ' δ' μ' (w1.trans w') R' (hend δ' μ' hI)⟩))
section
variable {X : Cx} {δ : Dl} {μ : Cells} {e a b : Expr} {pos p : Pos} {Q : Vd → Cells → Prop} {mg : Str → Option Value}
theorem rg_deall {K : PySem.W.Frag} {F : Hp} (a b : Int) : DeAll K F (rgV a b) (rangeD a (b - a).toNat) := by
  unfold rgV rangeD
  generalize List.range (b - a).toNat = L
  induction L with
  | nil => exact .nil
  | cons n r ih => exact .cons (.int _) ih
theorem we_listRg2 (B : Bl mg) {p2 pos2 : Pos} (hc : X.calm = true) (hg : Gl X "list") (hg2 : Gl X "range") (h : WE X a δ μ fun x μ1 => WE X b δ μ1 fun y μ2 => ∃ i j : Int, x = .d (.int i) ∧ y = .d (.int j) ∧ -100000 ≤ i ∧ i ≤ 100000 ∧ -100000 ≤ j ∧ j ≤ 100000 ∧ ∀ q, Q (.a q) ((q, rangeD i (j - i).toNat) :: μ2)) (hm : X.mg = mg := by rfl)
    (na : starEach [.Call (.Name "range" p2) [a, b] [] pos2] X.env = (false, eval (.Call (.Name "range" p2) [a, b] [] pos2) X.env) :: starEach [] X.env := by rfl) (nb : starEach [a, b] X.env = (false, eval a X.env) :: starEach [b] X.env := by rfl) (nc : starEach [b] X.env = (false, eval b X.env) :: starEach [] X.env := by rfl) (nd : (backTo pos2 (starEach [b] X.env)).any (·.1) = false := by rfl) :
    WE X (.Call (.Name "list" p) [.Call (.Name "range" p2) [a, b] [] pos2] [] pos) δ μ Q := fun F H σ R QV c =>
  toE (pe_listRg hc hg (hm ▸ B.list) (prg_2 hg2 (hm ▸ B.range) (pcE X a) (pcE X b) nb nc nd) na) (h F H σ R _ fun v x F1 H1 μ1 w1 R1 o1 q => by
    refine q F1 H1 σ R1 _ fun u y F2 H2 μ2 w2 R2 o2 q2 => ?_
    obtain ⟨i, j, rfl, rfl, h1, h2, h3, h4, q2⟩ := q2
    refine ⟨i, j, dp_int (o1.up w2.f), dp_int o2, ⟨by omega, by omega, by omega, by omega, by omega⟩, fun l nl => ?_⟩
    obtain ⟨m2, w3⟩ := R2.m.cell nl (rg_deall i j)
    exact c _ (.a l) _ _ _ ((w1.trans w2).trans w3) (R2.to w3.f m2) rfl (q2 l))
end
theorem Pth.lt {c : Co} {r s : List Int} {ps : List Nat} (h : Pth c r ps s) (ho : IsOrd c r) : ∀ i ∈ ps, i < c.length := by
  induction h with
  | nil => intro i m; cases m
  | snoc g hi ih =>
    intro i m
    rcases List.mem_append.mp m with m | m
    · exact ih i m
    · cases List.mem_singleton.mp m
      have h1 := ((frp_ok (g.ord ho)).mp hi).1
      have h2 := (g.ord ho).lens
      omega
theorem nats_shw {l : List Nat} (h : l.length ≤ 100) (g : ∀ i ∈ l, i < 1000) : Shw 2000 1 (.list (natsD l)) := by
  refine (Shw.lst (n := 10) (k := 0) fun d m => ?_).mono ?_
  · obtain ⟨i, hi, rfl⟩ := List.mem_map.mp m
    have := g i hi
    exact Shw.int (by omega)
  · rw [List.length_map]
    omega
theorem duos_same {l : List (Int × Int)} (h : l.length ≤ 400) : fits 4 (.list [PyData.list (l.map duoD), .list (l.map duoD)]) = true := fits_lst (by simp) fun d hd => by
  simp only [List.mem_cons, List.mem_nil_iff, or_false] at hd
  rcases hd with rfl | rfl
  · exact fits_mono (duos_fits (by omega))
  · exact fits_mono (duos_fits (by omega))
theorem two_same {d : PyData} (h : fits 3 d = true) : fits 4 (.list [d, d]) = true := fits_lst (by simp) fun e he => by
  simp only [List.mem_cons, List.mem_nil_iff, or_false] at he
  rcases he with rfl | rfl
  · exact h
  · exact h
theorem nats_fits {l : List Nat} (h : l.length ≤ 1000) : fits 2 (.list (natsD l)) = true := fits_lst (by rw [List.length_map]; exact h) fun d hd => by
  obtain ⟨q, _, rfl⟩ := List.mem_map.mp hd
  rfl
theorem pair_fits {x : Str} {d : PyData} (h : fits 2 d = true) (hx : fits 2 (.str x) = true := by decide +kernel) : fits 3 (.tuple [.str x, d]) = true := fits_tup (by simp) fun e he => by
  simp only [List.mem_cons, List.mem_nil_iff, or_false] at he
  rcases he with rfl | rfl
  · exact hx
  · exact h
theorem frp_le40 {c : Co} {r : List Int} (ho : IsOrd c r) (h : c.length ≤ 40) : (frp c r).length ≤ 40 := by
  have h1 := ho.lens
  have h2 := List.length_filter_le (fun i => (misL c (swp r i)).isEmpty) (List.range (r.length - 1))
  rw [List.length_range] at h2
  have h3 : (frp c r).length ≤ r.length - 1 := h2
  omega
theorem cutZ_mid {ds : List PyData} {a b : Nat} (h : b ≤ ds.length) (h2 : a ≤ b) : cutZ ds (some (a : Int)) (some (b : Int)) = (ds.drop a).take (b - a) := by
  unfold cutZ
  rw [HT.sIx_nat, HT.sIx_nat, Nat.min_eq_left h, Nat.min_eq_left (Nat.le_trans h2 h)]
theorem cut_two {r : List Int} {i : Nat} (h : i + 1 < r.length) : cutZ (intsD r) (some (i : Int)) (some ((i : Int) + 2)) = intsD [r.getD i 0, r.getD (i + 1) 0] := by
  rw [show ((i : Int) + 2) = ((i + 2 : Nat) : Int) from rfl, cutZ_mid (by rw [List.length_map]; omega) (by omega), show i + 2 - i = 2 by omega]
  have e : r.drop i = r[i] :: r[i + 1] :: r.drop (i + 2) := by
    rw [List.drop_eq_getElem_cons (by omega), List.drop_eq_getElem_cons h]
  show (List.drop i (List.map PyData.int r)).take 2 = List.map PyData.int _
  rw [← List.map_drop, e]
  simp only [List.map_cons, List.map_nil, List.take_succ_cons, List.take_zero, Option.getD_some, List.getD_eq_getElem?_getD, List.getElem?_eq_getElem h, List.getElem?_eq_getElem (show i < r.length by omega)]
theorem rangeD_ints (lo : Int) (n : Nat) : rangeD lo n = intsD ((List.range n).map fun i : Nat => lo + (i : Int)) := by
  unfold rangeD intsD
  rw [List.map_map]
  rfl
/-- all of a plan -/
abbrev T_planr6 : TrD := fun xs μ R => ∃ (c : Co) (q t : List Int), xs = [.d (coD c), .d (.tuple (intsD q)), .d (.tuple (intsD t))] ∧ CoW c ∧ c.length ≤ 9 ∧ nev c = [] ∧ IsOrd c q ∧ IsOrd c t ∧ R (.d (.bool true)) μ
end Ec

set_option Elab.async false
set_option linter.all false
set_option maxRecDepth 100000
set_option maxHeartbeats 4000000
/-! more of dicts with int keys: in, not in, sorted(d), dict(pairs) -/
namespace Ec
open PySem PySem.Spec PyProof.Rows L2
def rInI (n : Bool) : R2 := fun x y H Q => ∃ (a : Addr) (k : Int) (kvs : List (Key × V)), x = .int k ∧ y = .ref a ∧ L2.Rd H a (.dK kvs) ∧ Q (.bl (if n then !(valV kvs (Sum.inl k)).isSome else (valV kvs (Sum.inl k)).isSome)) H
theorem op_inI {X : Cx} (hu : X.A.units + 1 < cLine) : OpR X (compareOp .In) (rInI false) := by
  intro pins s σ H x y v u Q I rx ry h
  obtain ⟨a, k, kvs, rfl, rfl, g, q⟩ := h
  obtain rfl : u = Value.ref a := ry
  exact d_in hu I (.inl ⟨kvs, Sum.inl k, g, rfl, rfl⟩) rx fun s' I' => ⟨.bl _, H, I', rfl, q⟩
theorem op_niI {X : Cx} (hu : X.A.units + 1 < cLine) : OpR X (compareOp .NotIn) (rInI true) := by
  intro pins s σ H x y v u Q I rx ry h
  obtain ⟨a, k, kvs, rfl, rfl, g, q⟩ := h
  obtain rfl : u = Value.ref a := ry
  exact d_notIn hu I (.inl ⟨kvs, Sum.inl k, g, rfl, rfl⟩) rx fun s' I' => ⟨.bl _, H, I', rfl, q⟩
section
variable {μ : Cells} {Q : Vd → Cells → Prop}
theorem ow_inI {K : PySem.W.Frag} {n : Bool} {y : Vd} {k : Int} {kvs : List (Int × PyData)} (hy : Dv μ y (.i kvs)) (h : Q (.d (.bool (if n then !(getI kvs k).isSome else (getI kvs k).isSome))) μ) : OpW K (rInI n) (.d (.int k)) y μ Q := fun F H v u m o1 o2 QV c => by
  obtain ⟨a, ws, rfl, hd, hr⟩ := dv_i m o2 hy
  refine ⟨a, k, _, dp_int o1, rfl, hr, ?_⟩
  have e : (valV (zipI kvs ws) (Sum.inl k)).isSome = (getI kvs k).isSome := by
    rcases valI (k := k) hd with ⟨n1, n2⟩ | ⟨d', w, n1, n2, _⟩
    · rw [n1, n2]
      rfl
    · rw [n1, n2]
      rfl
  rw [e]
  exact c (.d (.bool _)) _ F H μ Fw.refl m (.bl _) h
end
theorem zipI_keys : ∀ {kvs : List (Int × PyData)} {ws : List V}, ws.length = kvs.length → (zipI kvs ws).map (·.1) = (kvs.map Prod.fst).map Sum.inl
  | [], ws, _ => by cases ws <;> rfl
  | k :: kvs, [], h => by cases h
  | k :: kvs, w :: ws, h => by
    show Sum.inl k.1 :: (zipI kvs ws).map (·.1) = Sum.inl k.1 :: (kvs.map Prod.fst).map Sum.inl
    rw [zipI_keys (by simpa using h)]
section
variable {X : Cx} {δ : Dl} {μ : Cells} {Q : Vd → Cells → Prop} {mg : Str → Option Value} {e : Expr} {p pos : Pos}
theorem we_sortI (B : Bl mg) (hc : X.calm = true) (hg : Gl X "sorted")
    (h : WE X e δ μ fun x μ1 => ∃ kvs, Dv μ1 x (.i kvs) ∧ kvs.length < 64 ∧ ∀ p, Q (.a p) ((p, Cont.l (intsD (srt (kvs.map Prod.fst)))) :: μ1)) (hm : X.mg = mg := by rfl)
    (s1 : starEach [e] X.env = (false, eval e X.env) :: starEach [] X.env := by rfl) (s2 : (backTo pos (starEach [] X.env)).any (·.1) = false := by rfl) :
    WE X (.Call (.Name "sorted" p) [e] [] pos) δ μ Q :=
  we_cb (call_sortedDI hc) hg (hm ▸ B.sorted) PyProof.Rows.boot_sorted (wa_one (h.mono fun x μ1 q => fun F H vs m o QV c => by
    obtain ⟨kvs, ct, hz, q⟩ := q
    cases o with
    | cons o1 o2 =>
      cases o2
      obtain ⟨a, ws, rfl, hd, hr⟩ := dv_i m o1 ct
      refine ⟨a, _, kvs.map Prod.fst, rfl, hr, zipI_keys (by rw [dps_len hd, List.length_map]), by rw [List.length_map]; exact hz, fun ys p hp hs np => ?_⟩
      obtain rfl : ys = srt (kvs.map Prod.fst) := srt_eq hp hs
      obtain ⟨m2, w2⟩ := m.cell np (ints_dps (K := X.K) (H := F) (srt (kvs.map Prod.fst)))
      exact c (.a p) (.ref p) F _ _ w2 m2 rfl (q p)) s1) (by decide) (by decide) s1 s2
/-- dict(a list of pairs) -/
theorem we_dictP (B : Bl mg) (hc : X.calm = true) (hg : Gl X "dict")
    (h : WE X e δ μ fun x μ1 => ∃ more, x = .d (.list (more.map prD)) ∧ ∀ p, Q (.a p) ((p, Cont.i (mergeI [] more)) :: μ1)) (hm : X.mg = mg := by rfl)
    (s1 : starEach [e] X.env = (false, eval e X.env) :: starEach [] X.env := by rfl) (s2 : (backTo pos (starEach [] X.env)).any (·.1) = false := by rfl) :
    WE X (.Call (.Name "dict" p) [e] [] pos) δ μ Q :=
  we_ct (call_dictP hc) hg (hm ▸ B.dict) PyProof.Rows.boot_dict (wa_one (h.mono fun x μ1 q => fun F H vs m o QV c => by
    obtain ⟨more, rfl, q⟩ := q
    cases o with
    | cons o1 o2 =>
      cases o2
      obtain ⟨l, us, rfl, hl, hu⟩ := dp_lstX o1
      obtain ⟨ps, vs', rfl, g1, g2⟩ := pairs_de m.ex hu
      obtain ⟨ws2, k1, k2⟩ := mergeK_zip (kvs := []) (ws := []) List.nodup_nil .nil g2
      refine ⟨l, ps, _, rfl, .of (m.ex _ _ hl), g1, fun p np => ?_⟩
      obtain ⟨m2, w2⟩ := m.cellO (c := .i (mergeI [] more)) (o := .dK (mergeK [] (zipI more vs'))) np ⟨ws2, k1, by rw [upd_same]; exact congrArg (fun l => some (HO.dK l)) k2⟩
      exact c (.a p) (.ref p) F _ _ w2 m2 rfl (q p)) s1) (by decide) (by decide) s1 s2
end
end Ec

set_option Elab.async false
set_option linter.all false
set_option maxRecDepth 100000
set_option maxHeartbeats 4000000
/-! sorted(set(xs)) of a list of ints -/
namespace Ec
open PySem PySem.Spec PyProof.Rows L2
/-- a new, empty set -/
abbrev noSet (w : World) : Obj := { cls := .type "set", dict := none, data := .set #[] 0 (.fresh 0 0 (!w.params.followText "set-order")) }
section
variable {P : Program} {w : World} {A : Around} {E : Value → Shared → Prop} {s : Shared}
theorem set_ofL {l : Addr} {items : Array Value} (ns : List Int) {Q : Value → Shared → Prop} (hh : A.handled = none) (hl : s.heap.IsList l items) (hi : IntsAre items.toList ns) (hb : ns.length + 1 < scanBound)
    (h : ∀ (h' : Heap) (tk c : Nat), SetR w h' s.heap.objs.size (fun j => decide (j ∈ ns)) c → c ≤ ns.length → (∀ b o, s.heap.get? b = some o → h'.get? b = some o) → Q (.ref s.heap.objs.size) { s with heap := h', toks := tk }) :
    wpAny (model P w) A (call (.type "set") [.ref l]) Q E s := by
  have hz : items.size = ns.length := by rw [← Array.length_toList]; exact hi.length
  have two := F.called_set.notType
  have three := F.called_set.canCreate
  have four := F.typeCall_set_1 (.ref l)
  have made := F.called_set.made
  have subs := F.called_set.sub
  obtain ⟨c0, tl, mro⟩ := F.called_set.mro
  refine wpAny_call (codeAny_of_tree ?_)
  show wpAny _ _ (callAny (.type "set") _) _ _ _
  refine wpAny_pure ⟨Code.quiet_builtin _ (by decide +kernel), codeAny_builtin F.entry_type_call ?_⟩
  rw [Around.under_plain (weight_type_call_type "set" [.ref l] []) rfl]
  repeat (any_goals (first | assumption | wp_step))
  refine codeAny_mono (code_set_led1 (.ref l) (E := E) (Q₁ := fun obj s1 => obj = .ref s.heap.objs.size ∧ s1 = { s with heap := s.heap.push (noSet w) }) ⟨rfl, rfl⟩) fun r s1 hr => ?_
  rcases r with e | fl
  · exact hr
  cases fl with
  | ret obj =>
    obtain ⟨rfl, rfl⟩ := hr
    have at0 : (s.heap.push (noSet w)).get? s.heap.objs.size = some (noSet w) := Heap.get?_push_size _ rfl
    have hT : Shared.TypeIs { s with heap := s.heap.push (noSet w) } (.ref s.heap.objs.size) "set" := ⟨_, at0, rfl⟩
    have look := F.called_set.init.lookup
    have bind := F.called_set.init.bind (.ref s.heap.objs.size)
    repeat (any_goals (first | assumption | wp_step))
    refine codeAny_mono (codeAny_call_builtin (R := wants (fun r s2 => r = .none ∧ ∃ h' tk c, s2 = { s with heap := h', toks := tk } ∧ SetR w h' s.heap.objs.size (fun j => decide (j ∈ ns)) c ∧ c ≤ ns.length ∧
      (∀ b o, s.heap.get? b = some o → h'.get? b = some o)) E) F.called_set.init.plain F.entry_set_init (check_set_init_1 hT ?_)) fun r2 s2 hr2 => ?_
    · obtain ⟨⟨cl, dc, dt, sl⟩, ho, hcl, nl, hdt⟩ := hl
      obtain rfl : cl = .type "list" := hcl
      obtain rfl : dt = .seq items nl := hdt
      have lt : l < s.heap.objs.size := Heap.lt_size ho
      have ho1 : (s.heap.push (noSet w)).get? l = some ⟨.type "list", dc, .seq items nl, sl⟩ := Heap.get?_push_of_some _ ho
      have isl : (s.heap.push (noSet w)).IsList l items := ⟨_, ho1, rfl, nl, rfl⟩
      have n1 := F.sub_list_set
      have n2 := F.sub_list_frozenset
      have n3 : (Value.type "list" == Value.type "dict") = false := by decide
      have hh3 : A.in1.in1.in1.handled = none := by simp [hh]
      have sz : (s.heap.push (noSet w)).objs.size = s.heap.objs.size + 1 := Heap.size_push ..
      unfold Builtin.«set.__init__» noKeywords Builtin.Frozenset.updateFrom
      generalize hPI : pyIter = PI
      wp_walk
      subst hPI
      refine wpAny_pyIter_list isl ?_
      refine wpAny_bind (wpAny_runValue ?_)
      have ne1 : l ≠ (s.heap.push (noSet w)).objs.size := by rw [sz]; exact Nat.ne_of_lt (Nat.lt_succ_of_lt lt)
      refine set_update_ints ((Walks.list hh3 _ l ne1 items).toS) s.heap.objs.size (by rw [sz]; simp only [List.mem_cons, List.not_mem_nil, or_false, not_or]; exact ⟨Nat.ne_of_lt (Nat.lt_succ_self _), Nat.ne_of_gt lt⟩) ns hz hb (fun i v hv => ?_) (items.size - 0) 0 _ (by omega) (Nat.zero_le _)
        ⟨⟨_, Heap.get?_push_size _ rfl, rfl, rfl⟩, isl.push _⟩ ⟨0, Nat.le_refl 0, setR_new_at (Heap.get?_push_of_some _ at0)⟩ fun s' c hm hc hS => ?_
      · have hi' : i < ns.length := hz ▸ (Array.getElem?_eq_some_iff.mp hv).1
        obtain ⟨t, e⟩ := IntsAre.int_at hi i v (by rw [Array.getElem?_toList]; exact hv)
        exact ⟨ns[i], t, List.getElem?_eq_getElem hi', by rw [e, List.getD_eq_getElem?_getD, List.getElem?_eq_getElem hi'] <;> rfl⟩
      · obtain ⟨h2, g2, d2, t2, o2⟩ := s'
        obtain rfl : g2 = s.gens := hm.gens
        obtain rfl : d2 = s.drawn := hm.drawn
        obtain rfl : o2 = s.os := hm.os
        show wpAny _ _ _ _ _ _
        refine wpAny_pure ?_
        show wpAny _ _ (ret Value.none) _ _ _
        rw [hz] at hc
        refine wpAny_pure ⟨rfl, h2, t2, c, rfl, hS, hc, fun b o e => ?_⟩
        have hb0 := Heap.lt_size e
        exact hm.heap b o (by rw [sz]; simp only [List.mem_cons, List.not_mem_nil, or_false, not_or]; exact ⟨Nat.ne_of_lt hb0, Nat.ne_of_lt (Nat.lt_succ_of_lt hb0)⟩) (Heap.get?_push_of_some _ (Heap.get?_push_of_some _ e))
    · rcases r2 with e | fl2
      · exact hr2
      cases fl2 with
      | ret r =>
        obtain ⟨rfl, h', tk, c, rfl, hS, hc, hk⟩ := hr2
        repeat (any_goals (first | assumption | wp_step))
        exact h _ _ _ hS hc hk
      | _ => exact hr2.elim
  | _ => exact hr.elim
end
end Ec

set_option Elab.async false
set_option linter.all false
set_option maxRecDepth 100000
set_option maxHeartbeats 4000000
namespace Ec
open PySem PySem.Spec PyProof.Rows L2
def tSortSetL (K : PySem.W.Frag) (ta : TE) : TE := fun σ H Q => ta σ H fun x H1 => ∃ (l : Addr) (ns : List Int), x = .ref l ∧ SqL K H1 l (ns.map V.int) ∧ ns.length < 64 ∧ ∀ (p : Addr) (out : List Int), out.Pairwise (· < ·) → (∀ k, k ∈ out ↔ k ∈ ns) → H1 p = none → Q (.ref p) (upd H1 p (.lst (out.map V.int)))
theorem pe_sortSetL {X : Cx} {a : Expr} {ta : TE} {p p2 q pos : Pos} (hc : X.calm = true) (hg : Gl X "sorted") (hm : X.mg "sorted" = none) (hg2 : Gl X "set") (hm2 : X.mg "set" = none) (ha : PE X a ta)
    (na : starEach [a] X.env = (false, eval a X.env) :: starEach [] X.env := by rfl)
    (nb : starEach [.Call (.Name "set" p2) [a] [] q] X.env = (false, eval (.Call (.Name "set" p2) [a] [] q) X.env) :: starEach [] X.env := by rfl) : PE X (.Call (.Name "sorted" p) [.Call (.Name "set" p2) [a] [] q] [] pos) (tSortSetL X.K ta) := by
  refine ⟨fun pins s σ H Q I h => ?_⟩
  refine Call_ (ld_blt I hg hm PyProof.Rows.boot_sorted ?_)
  refine PyProof.Rows.callWith_builtin1 (PyProof.Rows.args_cons ?_ rfl) rfl rfl
  refine Call_ (ld_blt I hg2 hm2 PyProof.Rows.boot_set ?_)
  refine PyProof.Rows.callWith_type1 (PyProof.Rows.args_cons (thn (ha.run pins s σ H _ I h) fun v s1 ⟨x, H1, I1, r1, q1⟩ => PyProof.Rows.args_nil ?_) na) na rfl
  obtain ⟨l, ns, rfl, hq, h1, q1⟩ := q1
  cases r1
  obtain ⟨its, r, pl, hz⟩ := I1.list hq
  refine set_ofL ns (I1.ok.hd hc) pl.isList (ints_of_vals r) (by unfold scanBound; omega) fun h' tk c R1 hcn k => ?_
  refine PyProof.Rows.args_nil ?_
  have I2 : Inv X pins σ H1 { s1 with heap := h', toks := tk } := I1.kept k
  refine sorted_set R1 (I1.ok.hd hc) (by omega) fun s' p0 out c' ns' k2 g o hp hg2 hI hup hmem hln => ?_
  have hn : H1 p0 = none := I2.hok.fresh hp
  have J : Inv X pins σ (upd H1 p0 (.lst (ns'.map V.int))) { ({ s1 with heap := h', toks := tk } : Shared) with heap := s'.heap, gens := s'.gens, drawn := s'.drawn, toks := s'.toks } :=
    I2.call (ch := []) (Un.laid k2 hp hn) (I2.hok.laid k2 hp ⟨by rw [List.length_map, sizeLine_eq]; omega, out.toList, c', vals_of_ints hI, hg2⟩) (by rw [g]; exact I2.bare) (fun _ z => nomatch z)
  have e : s' = { ({ s1 with heap := h', toks := tk } : Shared) with heap := s'.heap, gens := s'.gens, drawn := s'.drawn, toks := s'.toks } := by
    cases s'
    cases s1
    cases o
    rfl
  rw [e]
  exact ⟨.ref p0, _, J, rfl, q1 p0 ns' hup (fun k => by rw [hmem k, decide_eq_true_eq]) hn⟩
theorem we_sortSetL {X : Cx} {δ : Dl} {μ : Cells} {Q : Vd → Cells → Prop} {mg : Str → Option Value} {e : Expr} {p p2 q pos : Pos} (B : Bl mg) (hc : X.calm = true) (hg : Gl X "sorted") (hg2 : Gl X "set")
    (h : WE X e δ μ fun x μ1 => ∃ ns, Vw μ1 x (.list (intsD ns)) ∧ ns.length < 64 ∧ ∀ (p : Addr) (out : List Int), out.Pairwise (· < ·) → (∀ k, k ∈ out ↔ k ∈ ns) → Q (.a p) ((p, intsD out) :: μ1)) (hm : X.mg = mg := by rfl)
    (na : starEach [e] X.env = (false, eval e X.env) :: starEach [] X.env := by rfl)
    (nb : starEach [.Call (.Name "set" p2) [e] [] q] X.env = (false, eval (.Call (.Name "set" p2) [e] [] q) X.env) :: starEach [] X.env := by rfl) :
    WE X (.Call (.Name "sorted" p) [.Call (.Name "set" p2) [e] [] q] [] pos) δ μ Q := fun F H σ R QV c =>
  toE (pe_sortSetL hc hg (hm ▸ B.sorted) hg2 (hm ▸ B.set) (pcE X e) na nb) (h F H σ R _ fun v x F1 H1 μ1 w1 R1 o1 q => by
    obtain ⟨ns, vw, hz, q⟩ := q
    obtain ⟨a, us, rfl, hs, hd⟩ := vw_lst R1.m o1 vw
    rw [dps_ints hd] at hs
    refine ⟨a, ns, rfl, .of hs, hz, fun l out up hme nl => ?_⟩
    obtain ⟨m2, w2⟩ := R1.m.cell nl (ints_dps (K := X.K) (H := F1) out)
    exact c (.ref l) (.a l) _ _ _ (w1.trans w2) (R1.to (Same.refl _) m2) rfl (q l out up hme))
end Ec

set_option Elab.async false
set_option linter.all false
set_option maxRecDepth 100000
set_option maxHeartbeats 4000000
/-! all friends needed, or one (k66) -/
namespace Ec
open PySem PySem.Spec PyProof.Rows L2
theorem asc_same {a b : List Int} (ha : a.Pairwise (· < ·)) (hb : b.Pairwise (· < ·)) (h : ∀ x, x ∈ a ↔ x ∈ b) : a = b :=
  srt_one (perm_of_mem (ha.imp fun {x y} z => by omega) (hb.imp fun {x y} z => by omega) h) (ha.imp fun z => Int.le_of_lt z) (hb.imp fun z => Int.le_of_lt z)
structure Lnk (n : Nat) (L : List (List Int)) : Prop where
  len : L.length = n
  up : ∀ r ∈ L, r.Pairwise (· < ·)
  rg : ∀ r ∈ L, ∀ x ∈ r, 0 ≤ x ∧ x < n
  no : ∀ (i : Nat) r, L[i]? = some r → (i : Int) ∉ r
theorem Lnk.few {n : Nat} {L : List (List Int)} (h : Lnk n L) : ∀ r ∈ L, r.length ≤ n := fun r m => by
  have := nodup_le (as := r) (bs := rng n) ((h.up r m).imp fun {a b} z => by omega) (rng_nodup n) fun x mx => mem_rng.mpr (h.rg r m x mx)
  rwa [rng_len] at this
def lkr (L : List (List Int)) (p : Int) : List Int := L.getD p.toNat []
theorem Lnk.row {n : Nat} {L : List (List Int)} (h : Lnk n L) {p : Int} (h0 : 0 ≤ p) (h1 : p < n) : L[p.toNat]? = some (lkr L p) ∧ lkr L p ∈ L := by
  have hl : p.toNat < L.length := by rw [h.len]; omega
  have e : L[p.toNat]? = some (lkr L p) := by
    unfold lkr
    rw [List.getD_eq_getElem?_getD, List.getElem?_eq_getElem hl]
    rfl
  exact ⟨e, List.mem_of_getElem? e⟩
/-! ### all friends needed -/
def stC (L : List (List Int)) : Co := L.map fun r => (r, ((r.length : Nat) : Int))
theorem stC_len (L : List (List Int)) : (stC L).length = L.length := List.length_map _
theorem stC_cow {n : Nat} {L : List (List Int)} (h : Lnk n L) (hn : n ≤ 1000) : CoW (stC L) where
  up := fun e m => by
    obtain ⟨r, hr, rfl⟩ := List.mem_map.mp m
    exact h.up r hr
  nn := fun e m => by
    obtain ⟨r, hr, rfl⟩ := List.mem_map.mp m
    exact Int.natCast_nonneg _
  nb := fun e m => by
    obtain ⟨r, hr, rfl⟩ := List.mem_map.mp m
    have := h.few r hr
    show ((r.length : Nat) : Int) ≤ 1000
    omega
  lt := fun e m => by
    obtain ⟨r, hr, rfl⟩ := List.mem_map.mp m
    rw [stC_len, h.len]
    exact h.rg r hr
  no := fun i e hi => by
    unfold stC at hi
    rw [List.getElem?_map] at hi
    obtain ⟨r, hr, rfl⟩ := Option.map_eq_some_iff.mp hi
    exact h.no i r hr
theorem stC_at {n : Nat} {L : List (List Int)} (h : Lnk n L) {p : Int} (h0 : 0 ≤ p) (h1 : p < n) : fr (stC L) p = lkr L p ∧ nd (stC L) p = (((lkr L p).length : Nat) : Int) := by
  have e : (stC L).getD p.toNat ([], 0) = (lkr L p, (((lkr L p).length : Nat) : Int)) := by
    unfold stC
    rw [List.getD_eq_getElem?_getD, List.getElem?_map, (h.row h0 h1).1]
    rfl
  unfold fr nd
  rw [e]
  exact ⟨rfl, rfl⟩
/-- the friends who are not there -/
def gone (L : List (List Int)) (t : List Int) (p : Int) : List Int := (lkr L p).filter fun x => !decide (x ∈ t)
theorem st_comes {n : Nat} {L : List (List Int)} (h : Lnk n L) {p : Int} (h0 : 0 ≤ p) (h1 : p < n) (t : List Int) : comes (stC L) t p = decide (gone L t p = []) := by
  obtain ⟨e1, e2⟩ := stC_at h h0 h1
  unfold comes cnt gone
  rw [e1, e2]
  refine decide_eq_decide.mpr ?_
  have hsum := List.length_eq_countP_add_countP (fun x => decide (x ∈ t)) (l := lkr L p)
  rw [List.countP_eq_length_filter, List.countP_eq_length_filter] at hsum
  have e : ((lkr L p).filter fun x => decide ¬(decide (x ∈ t) = true)).length = ((lkr L p).filter fun x => !decide (x ∈ t)).length := by
    congr 2
    funext x
    simp
  rw [e] at hsum
  rw [← List.length_eq_zero_iff]
  omega
theorem lk_at {n : Nat} {L : List (List Int)} (h : Lnk n L) {p : Int} (h0 : 0 ≤ p) (h1 : p < n) : atI (tups L) p = some (.tuple (intsD (lkr L p))) := by
  have e : p = ((p.toNat : Nat) : Int) := by omega
  rw [e]
  refine atI_nat ?_
  unfold tups
  rw [List.getElem?_map, (h.row h0 h1).1]
  rw [← e]
  rfl
/-- those who are left after i turns -/
def lft (c : Co) (i : Nat) : List Int := (rng c.length).filter fun x => !decide (x ∈ sof c i)
theorem lft_zero (c : Co) : lft c 0 = rng c.length := by
  unfold lft
  rw [sof_zero]
  exact List.filter_eq_self.mpr fun x _ => by simp
theorem gr_end (c : Co) : nexts c (gr c) = [] := by
  refine List.eq_nil_iff_forall_not_mem.mpr fun x hx => ?_
  obtain ⟨h1, h2, h3⟩ := mem_nexts.mp hx
  exact h2 (cl_shut c [] [] x h1.1 h1.2 (fun z => by cases z) ⟨_, fun y hy => hy, h3⟩)
theorem sof_next (c : Co) (i : Nat) (x : Int) : x ∈ sof c (i + 1) ↔ x ∈ sof c i ∨ x ∈ nexts c (sof c i) := by
  by_cases h : i < (AR c [] []).length
  · have hs : (AR c [] [])[i]? = some ((AR c [] [])[i]) := List.getElem?_eq_getElem h
    rw [← sof_succ hs, mem_srt, List.mem_append, ← (AR_at hs).1]
  · rw [sof_big (by omega), sof_big (by omega), gr_end]
    simp
theorem rounds_le (c : Co) : (AR c [] []).length ≤ c.length := by
  have h1 := cl_len c [] []
  rw [List.nil_append, List.length_nil, Nat.zero_add] at h1
  have : ∀ A : List (List Int), (∀ s ∈ A, s ≠ []) → A.length ≤ A.flatten.length := fun A => by
    induction A with
    | nil => exact fun _ => Nat.le_refl _
    | cons s A ih =>
      intro h
      have h2 := ih fun u m => h u (List.mem_cons_of_mem _ m)
      have h3 := List.length_pos_iff.mpr (h s List.mem_cons_self)
      rw [List.flatten_cons, List.length_append, List.length_cons]
      omega
  refine Nat.le_trans (this _ fun s m => ?_) h1
  obtain ⟨i, hi⟩ := List.getElem?_of_mem m
  exact (AR_at hi).2
theorem lft_all (c : Co) : lft c c.length = nev c := by
  unfold lft nev
  rw [sof_big (rounds_le c)]
theorem lft_step {n : Nat} {L : List (List Int)} (h : Lnk n L) (i : Nat) : (lft (stC L) i).filter (fun p => !decide ((lkr L p).filter (fun x => decide (x ∈ lft (stC L) i)) = [])) = lft (stC L) (i + 1) := by
  have hl : (stC L).length = n := (stC_len L).trans h.len
  unfold lft
  rw [List.filter_filter, hl]
  refine List.filter_congr fun p hp => ?_
  have hp := mem_rng.mp hp
  have hn := sof_next (stC L) i p
  have hc := st_comes h hp.1 hp.2 (sof (stC L) i)
  have hm : p ∈ nexts (stC L) (sof (stC L) i) ↔ p ∉ sof (stC L) i ∧ gone L (sof (stC L) i) p = [] := by
    rw [mem_nexts, hc, hl, decide_eq_true_iff]
    exact ⟨fun z => z.2, fun z => ⟨hp, z⟩⟩
  have hr := h.rg _ (h.row hp.1 hp.2).2
  have e : (lkr L p).filter (fun x => decide (x ∈ (rng n).filter fun x => !decide (x ∈ sof (stC L) i))) = gone L (sof (stC L) i) p := List.filter_congr fun x hx => by
    rw [Bool.eq_iff_iff, decide_eq_true_iff, List.mem_filter, mem_rng]
    exact ⟨fun z => z.2, fun z => ⟨hr x hx, z⟩⟩
  rw [e]
  rw [Bool.eq_iff_iff]
  simp only [Bool.and_eq_true, Bool.not_eq_true', decide_eq_false_iff_not]
  rw [hn, hm]
  constructor
  · rintro ⟨h1, h2⟩ (z | ⟨_, z⟩)
    · exact h2 z
    · exact h1 z
  · intro z
    exact ⟨fun q => z (.inr ⟨fun y => z (.inl y), q⟩), fun y => z (.inl y)⟩
/-- the first places that fail -/
theorem misL_st {n : Nat} {L : List (List Int)} (h : Lnk n L) {r : List Int} (hr : ∀ x ∈ r, 0 ≤ x ∧ x < n) : (List.range r.length).filter (fun i => !decide (gone L (r.take i) (r.getD i 0) = [])) = misL (stC L) r := by
  unfold misL
  refine List.filter_congr fun i hi => ?_
  have hi := List.mem_range.mp hi
  have := hr (r.getD i 0) (by rw [List.getD_eq_getElem?_getD, List.getElem?_eq_getElem hi]; exact List.getElem_mem hi)
  rw [st_comes h this.1 this.2]
/-! ### one friend needed -/
def loC (L : List (List Int)) (E : List Int) : Co := (List.range L.length).map fun i => (L.getD i [], if (i : Int) ∈ E then 0 else 1)
theorem loC_len (L : List (List Int)) (E : List Int) : (loC L E).length = L.length := by unfold loC; rw [List.length_map, List.length_range]
theorem loC_get {L : List (List Int)} {E : List Int} {i : Nat} {e : List Int × Int} (h : (loC L E)[i]? = some e) : ∃ r, L[i]? = some r ∧ e = (r, if (i : Int) ∈ E then 0 else 1) := by
  have hl := (List.getElem?_eq_some_iff.mp h).1
  rw [loC_len] at hl
  unfold loC at h
  rw [List.getElem?_map, List.getElem?_range hl] at h
  cases h
  exact ⟨_, List.getElem?_eq_getElem hl, by
    show (L.getD i [], _) = _
    rw [List.getD_eq_getElem?_getD, List.getElem?_eq_getElem hl]
    rfl⟩
theorem loC_cow {n : Nat} {L : List (List Int)} (h : Lnk n L) (E : List Int) : CoW (loC L E) := by
  have hm : ∀ e ∈ loC L E, ∃ r ∈ L, e.1 = r ∧ 0 ≤ e.2 ∧ e.2 ≤ 1 := fun e m => by
    obtain ⟨i, hi⟩ := List.getElem?_of_mem m
    obtain ⟨r, hr, rfl⟩ := loC_get hi
    refine ⟨r, List.mem_of_getElem? hr, rfl, ?_, ?_⟩ <;> show _ ≤ _ <;> dsimp only <;> split <;> decide
  refine ⟨fun e m => ?_, fun e m => ?_, fun e m => ?_, fun e m => ?_, fun i e hi => ?_⟩
  · obtain ⟨r, hr, e1, _⟩ := hm e m
    rw [e1]
    exact h.up r hr
  · exact (hm e m).choose_spec.2.2.1
  · have := (hm e m).choose_spec.2.2.2
    omega
  · obtain ⟨r, hr, e1, _⟩ := hm e m
    rw [e1, loC_len, h.len]
    exact h.rg r hr
  · obtain ⟨r, hr, rfl⟩ := loC_get hi
    exact h.no i r hr
theorem lo_comes {n : Nat} {L : List (List Int)} (h : Lnk n L) {E : List Int} {p : Int} (h0 : 0 ≤ p) (h1 : p < n) (t : List Int) : comes (loC L E) t p = (decide (p ∈ E) || !decide ((lkr L p).filter (fun x => decide (x ∈ t)) = [])) := by
  have hl : p.toNat < L.length := by rw [h.len]; omega
  have e : (loC L E).getD p.toNat ([], 0) = (lkr L p, if p ∈ E then 0 else 1) := by
    unfold loC
    rw [List.getD_eq_getElem?_getD, List.getElem?_map, List.getElem?_range hl]
    show (L.getD p.toNat [], if ((p.toNat : Nat) : Int) ∈ E then (0 : Int) else 1) = _
    rw [show ((p.toNat : Nat) : Int) = p by omega]
    rfl
  unfold comes cnt fr nd
  rw [e]
  show decide ((if p ∈ E then (0 : Int) else 1) ≤ ((((lkr L p).filter fun x => decide (x ∈ t)).length : Nat) : Int)) = _
  by_cases hE : p ∈ E
  · rw [if_pos hE, decide_eq_true hE, decide_eq_true (Int.natCast_nonneg _)]
    rfl
  · rw [if_neg hE, decide_eq_false hE, Bool.false_or, ← decide_not]
    refine decide_eq_decide.mpr ?_
    rw [← List.length_eq_zero_iff]
    omega
/-- who is free at once -/
structure EnOk (n : Nat) (L : List (List Int)) (E : List Int) : Prop where
  up : E.Pairwise (· < ·)
  rg : ∀ x ∈ E, 0 ≤ x ∧ x < n
theorem lo_first {n : Nat} {L : List (List Int)} (h : Lnk n L) {E : List Int} (hE : EnOk n L E) : nexts (loC L E) [] = E := by
  refine asc_same (((rng_lt _).filter _).filter _) hE.up fun x => ?_
  rw [mem_nexts, loC_len, h.len]
  constructor
  · rintro ⟨h1, _, h3⟩
    rw [lo_comes h h1.1 h1.2] at h3
    simpa using h3
  · intro m
    have := hE.rg x m
    exact ⟨this, fun z => (by cases z), by rw [lo_comes h this.1 this.2, decide_eq_true m]; rfl⟩
/-! ### layer by layer -/
theorem lay_next (d : Co) (k : Nat) : nexts d (sof d k) = (AR d [] []).getD k [] := by
  by_cases h : k < (AR d [] []).length
  · have hs : (AR d [] [])[k]? = some ((AR d [] [])[k]) := List.getElem?_eq_getElem h
    rw [← (AR_at hs).1, List.getD_eq_getElem?_getD, hs]
    rfl
  · rw [sof_big (by omega), gr_end, List.getD_eq_getElem?_getD, List.getElem?_eq_none (by omega)]
    rfl
theorem lay_none {d : Co} {k : Nat} (h : (AR d [] []).getD k [] = []) : (AR d [] []).length ≤ k := by
  refine Nat.le_of_not_lt fun z => ?_
  have hs : (AR d [] [])[k]? = some ((AR d [] [])[k]) := List.getElem?_eq_getElem z
  rw [List.getD_eq_getElem?_getD, hs] at h
  exact (AR_at hs).2 h
theorem lay_some {d : Co} {k : Nat} (h : (AR d [] []).getD k [] ≠ []) : k < (AR d [] []).length := by
  refine Nat.lt_of_not_le fun z => h ?_
  rw [List.getD_eq_getElem?_getD, List.getElem?_eq_none z]
  rfl
theorem lay_step {n : Nat} {L : List (List Int)} (h : Lnk n L) {E : List Int} (hE : EnOk n L E) (k : Nat) :
    (((rng n).filter fun x => !decide (x ∈ sof (loC L E) (k + 1))).filter fun p => !decide ((lkr L p).filter (fun x => decide (x ∈ sof (loC L E) (k + 1))) = [])) = (AR (loC L E) [] []).getD (k + 1) [] := by
  rw [← lay_next]
  have hl : (loC L E).length = n := (loC_len L E).trans h.len
  unfold nexts
  rw [hl]
  refine List.filter_congr fun p hp => ?_
  obtain ⟨m1, m2⟩ := List.mem_filter.mp hp
  have hp := mem_rng.mp m1
  refine (fun hne : p ∉ E => ?_ : p ∉ E → _) fun z => ?_
  · rw [lo_comes h hp.1 hp.2, decide_eq_false hne, Bool.false_or]
  have : p ∈ sof (loC L E) 1 := (sof_next _ 0 p).mpr (.inr (by rw [sof_zero, lo_first h hE]; exact z))
  have := sof_mono (show 1 ≤ k + 1 by omega) this
  simp [this] at m2
def RdM (d : Co) (k : Nat) (kvs : List (Int × PyData)) : Prop := Rd d (min k (AR d [] []).length) kvs
theorem sof_min (d : Co) (k : Nat) : sof d (min k (AR d [] []).length) = sof d k := by
  by_cases h : k ≤ (AR d [] []).length
  · rw [Nat.min_eq_left h]
  · rw [Nat.min_eq_right (by omega), sof_all, sof_big (by omega)]
theorem RdM.step {d : Co} {k : Nat} {kvs : List (Int × PyData)} (h : RdM d k kvs) : RdM d (k + 1) (mergeI kvs (((AR d [] []).getD k []).map fun y => (y, .int (k : Int)))) := by
  unfold RdM at *
  by_cases e : k < (AR d [] []).length
  · rw [Nat.min_eq_left (by omega)] at h
    rw [Nat.min_eq_left (by omega)]
    have hs : (AR d [] [])[k]? = some ((AR d [] []).getD k []) := by
      rw [List.getD_eq_getElem?_getD, List.getElem?_eq_getElem e]
      rfl
    exact h.step hs
  · rw [Nat.min_eq_right (by omega)] at h
    rw [Nat.min_eq_right (by omega), List.getD_eq_getElem?_getD, List.getElem?_eq_none (by omega)]
    exact h
theorem RdM.mem {d : Co} {k : Nat} {kvs : List (Int × PyData)} (h : RdM d k kvs) (x : Int) : (getI kvs x).isSome = decide (x ∈ sof d k) := by
  have hk := (show Rd d _ kvs from h).key x
  rw [sof_min] at hk
  rw [Bool.eq_iff_iff, decide_eq_true_iff, ← hk]
  cases e : getI kvs x with
  | none => exact ⟨fun z => (by cases z), fun z => absurd z (getI_none.mp e)⟩
  | some v => exact ⟨fun _ => Classical.byContradiction fun z => (by rw [getI_none.mpr z] at e; cases e), fun _ => rfl⟩
theorem RdM.inN {d : Co} {k : Nat} {kvs : List (Int × PyData)} (h : RdM d k kvs) {x : Int} : (if true = true then !(getI kvs x).isSome else (getI kvs x).isSome) = !decide (x ∈ sof d k) := by
  rw [if_pos rfl, h.mem]
theorem RdM.inY {d : Co} {k : Nat} {kvs : List (Int × PyData)} (h : RdM d k kvs) {x : Int} : (if false = true then !(getI kvs x).isSome else (getI kvs x).isSome) = decide (x ∈ sof d k) := by
  rw [if_neg (by decide), h.mem]
theorem RdM.start {n : Nat} {L : List (List Int)} (h : Lnk n L) {E : List Int} (hE : EnOk n L E) : RdM (loC L E) 1 (mergeI [] (E.map fun y => (y, .int 0))) := by
  have := RdM.step (d := loC L E) (k := 0) (kvs := []) (by unfold RdM; rw [Nat.zero_min]; exact Rd.zero _)
  rw [← lay_next, sof_zero, lo_first h hE] at this
  exact this
theorem RdM.few {d : Co} {k : Nat} {kvs : List (Int × PyData)} (h : RdM d k kvs) : kvs.length ≤ d.length := by
  have h := (show Rd d _ kvs from h)
  have h1 := nodup_le h.nd (rng_nodup d.length) fun y my => mem_rng.mpr ((Ps.sof d _ (Nat.min_le_right _ _)).rg y ((h.key y).mp my))
  rwa [rng_len, List.length_map] at h1
theorem RdM.done {d : Co} {k : Nat} {kvs : List (Int × PyData)} (h : RdM d (k + 1) kvs) (e : (AR d [] []).getD k [] = []) : Rd d (AR d [] []).length kvs := by
  have := lay_none e
  unfold RdM at h
  rwa [Nat.min_eq_right (by omega)] at h
/-! ### what is read off -/
def vlI (kvs : List (Int × PyData)) (x : Int) : Int := match getI kvs x with | some (.int j) => j | _ => 0
section
variable {d : Co} {kvs : List (Int × PyData)} (h : Rd d (AR d [] []).length kvs)
include h
theorem Rd.keys : srt (kvs.map Prod.fst) = gr d :=
  srt_one ((srt_perm _).trans (perm_of_mem h.nd (gr_nodup d) fun x => by rw [h.key, sof_all])) (srt_up _) (gr_up d)
theorem Rd.at {x : Int} (m : x ∈ kvs.map Prod.fst) : ∃ (j : Nat) (s : List Int), getI kvs x = some (.int (j : Int)) ∧ vlI kvs x = j ∧ (AR d [] [])[j]? = some s ∧ x ∈ s := by
  cases e : getI kvs x with
  | none => exact absurd m (getI_none.mp e)
  | some v =>
    obtain ⟨j, s, _, rfl, h3, h4⟩ := h.val x v e
    exact ⟨j, s, rfl, by unfold vlI; rw [e], h3, h4⟩
theorem Rd.in {x : Int} {j : Nat} {s : List Int} (hs : (AR d [] [])[j]? = some s) (hx : x ∈ s) : x ∈ kvs.map Prod.fst ∧ vlI kvs x = j := by
  have hj := (List.getElem?_eq_some_iff.mp hs).1
  have m : x ∈ kvs.map Prod.fst := (h.key x).mpr (sof_mono (Nat.succ_le_of_lt hj) ((sof_next d j x).mpr (.inr (by rw [← (AR_at hs).1]; exact hx))))
  obtain ⟨i, t, _, e2, e3, e4⟩ := h.at m
  refine ⟨m, e2.trans ?_⟩
  have out : ∀ {a b : Nat} {u v : List Int}, (AR d [] [])[a]? = some u → (AR d [] [])[b]? = some v → x ∈ u → x ∈ v → ¬ a < b := fun {a b u v} ha hb hu hv hlt => by
    have h1 := sof_mono (Nat.succ_le_of_lt hlt) ((sof_next d a x).mpr (.inr (by rw [← (AR_at ha).1]; exact hu)))
    rw [(AR_at hb).1] at hv
    exact (mem_nexts.mp hv).2.1 h1
  have h1 := out e3 hs e4 hx
  have h2 := out hs e3 hx e4
  omega
theorem Rd.layer {j : Nat} (hj : j < (AR d [] []).length) : srt ((kvs.map Prod.fst).filter fun x => decide (vlI kvs x = (j : Int))) = (AR d [] []).getD j [] := by
  have hs : (AR d [] [])[j]? = some ((AR d [] []).getD j []) := by
    rw [List.getD_eq_getElem?_getD, List.getElem?_eq_getElem hj]
    rfl
  have hup : ((AR d [] []).getD j []).Pairwise (· < ·) := by
    rw [← lay_next]
    exact ((rng_lt _).filter _).filter _
  refine srt_one ((srt_perm _).trans (perm_of_mem (List.Nodup.sublist List.filter_sublist h.nd) (hup.imp fun {a b} z => by omega) fun x => ?_)) (srt_up _) (hup.imp fun z => Int.le_of_lt z)
  rw [List.mem_filter, decide_eq_true_iff]
  constructor
  · rintro ⟨m, e⟩
    obtain ⟨i, t, _, e2, e3, e4⟩ := h.at m
    have : i = j := by omega
    subst this
    rw [hs] at e3
    cases e3
    exact e4
  · exact fun m => h.in hs m
theorem Rd.depths (x : Int) : x ∈ (kvs.map Prod.fst).map (vlI kvs) ↔ 0 ≤ x ∧ x < ((AR d [] []).length : Nat) := by
  rw [List.mem_map]
  constructor
  · rintro ⟨y, m, rfl⟩
    obtain ⟨i, t, _, e2, e3, e4⟩ := h.at m
    have := (List.getElem?_eq_some_iff.mp e3).1
    omega
  · rintro ⟨h0, h1⟩
    have hj : x.toNat < (AR d [] []).length := by omega
    have hs : (AR d [] [])[x.toNat]? = some ((AR d [] [])[x.toNat]) := List.getElem?_eq_getElem hj
    obtain ⟨y, hy⟩ := List.exists_mem_of_ne_nil _ (AR_at hs).2
    exact ⟨y, (h.in hs hy).1, by rw [(h.in hs hy).2]; omega⟩
end
/-! ### other numbers, rows and companies as data -/
theorem srt_asc {l : List Int} (h : l.Nodup) : (srt l).Pairwise (· < ·) :=
  (List.Pairwise.and (srt_up l) (List.nodup_iff_pairwise_ne.mp ((srt_perm l).nodup_iff.mpr h))).imp fun {a b} z => by
    have := z.1
    have := z.2
    omega
def rnL (n : Nat) (S : List Int) (L : List (List Int)) : List (List Int) := (rng n).map fun x => rens S (lkr L ((posn x S : Nat) : Int))
theorem posn_ren' {n : Nat} {S : List Int} (hS : Rn n S) {x : Int} (h0 : 0 ≤ x) (h1 : x < n) : posn x S < n ∧ ren S ((posn x S : Nat) : Int) = x := by
  have m : x ∈ S := hS.mem_iff.mpr (mem_rng.mpr ⟨h0, h1⟩)
  have hl := posn_lt m
  rw [hS.len] at hl
  have e := ren_at hS (x := ((posn x S : Nat) : Int)) (by omega) (by omega)
  rw [Int.toNat_natCast, (posn_at m).1] at e
  exact ⟨hl, (Option.some.inj e).symm⟩
theorem rnL_ok {n : Nat} {S : List Int} {L : List (List Int)} (hS : Rn n S) (hL : Lnk n L) : Lnk n (rnL n S L) := by
  have key : ∀ r ∈ rnL n S L, ∃ x : Int, (0 ≤ x ∧ x < n) ∧ r = rens S (lkr L ((posn x S : Nat) : Int)) := fun r m => by
    obtain ⟨x, hx, rfl⟩ := List.mem_map.mp m
    exact ⟨x, mem_rng.mp hx, rfl⟩
  have rw' : ∀ x : Int, 0 ≤ x → x < n → Lnk n L → lkr L ((posn x S : Nat) : Int) ∈ L := fun x h0 h1 h => (h.row (by omega) (by have := (posn_ren' hS h0 h1).1; omega)).2
  refine ⟨by unfold rnL; rw [List.length_map, rng_len], fun r m => ?_, fun r m y my => ?_, fun i r hi m => ?_⟩
  · obtain ⟨x, hx, rfl⟩ := key r m
    have hr := rw' x hx.1 hx.2 hL
    refine srt_asc (List.nodup_iff_pairwise_ne.mpr (List.pairwise_map.mpr ?_))
    refine List.Pairwise.imp_of_mem (fun {a b} ma mb hab e => ?_) (hL.up _ hr)
    have := ren_inj hS (hL.rg _ hr a ma) (hL.rg _ hr b mb) e
    omega
  · obtain ⟨x, hx, rfl⟩ := key r m
    obtain ⟨z, hz, rfl⟩ := List.mem_map.mp (mem_srt.mp my)
    have := hL.rg _ (rw' x hx.1 hx.2 hL) z hz
    exact ren_rg hS this.1 this.2
  · have hl := (List.getElem?_eq_some_iff.mp hi).1
    unfold rnL at hl hi
    rw [List.length_map, rng_len] at hl
    rw [List.getElem?_map] at hi
    have e : (rng n)[i]? = some (i : Int) := by
      unfold rng
      rw [List.getElem?_map, List.getElem?_range hl]
      rfl
    rw [e] at hi
    cases hi
    obtain ⟨h1, h2⟩ := posn_ren' hS (x := (i : Int)) (by omega) (by omega)
    obtain ⟨z, hz, ez⟩ := List.mem_map.mp (mem_srt.mp m)
    have hrow := hL.row (p := ((posn (i : Int) S : Nat) : Int)) (by omega) (by omega)
    have := ren_inj hS (hL.rg _ hrow.2 z hz) (y := ((posn (i : Int) S : Nat) : Int)) ⟨by omega, by omega⟩ (by rw [ez, h2])
    subst this
    rw [Int.toNat_natCast] at hrow
    exact hL.no _ _ hrow.1 hz
theorem enum_tups (L : List (List Int)) : enumD (tups L) = (List.range L.length).map fun i : Nat => PyData.tuple [.int (i : Int), .tuple (intsD (L.getD i []))] := by
  refine List.ext_getElem? fun i => ?_
  unfold enumD tups
  rw [List.getElem?_mapIdx, List.getElem?_map, List.getElem?_map]
  by_cases h : i < L.length
  · rw [List.getElem?_range h, List.getElem?_eq_getElem h]
    show some (PyData.tuple [.int (i : Int), .tuple (intsD L[i])]) = some (PyData.tuple [.int (i : Int), .tuple (intsD (L.getD i []))])
    rw [List.getD_eq_getElem?_getD, List.getElem?_eq_getElem h]
    rfl
  · rw [List.getElem?_eq_none (by omega), List.getElem?_eq_none (by rw [List.length_range]; omega)]
    rfl
theorem lo_enD (L : List (List Int)) (E : List Int) : ((List.range L.length).map fun i : Nat => enD (L.getD i [], if (i : Int) ∈ E then 0 else 1)) = (loC L E).map enD := by
  unfold loC
  rw [List.map_map]
  rfl
theorem st_enD (L : List (List Int)) : (L.map fun r => enD (r, ((r.length : Nat) : Int))) = (stC L).map enD := by
  unfold stC
  rw [List.map_map]
  rfl
theorem Rd.rounds {d : Co} {kvs : List (Int × PyData)} (h : Rd d (AR d [] []).length kvs) : ((rng (AR d [] []).length).map fun k => srt ((kvs.map Prod.fst).filter fun x => decide (vlI kvs x = k))) = AR d [] [] := by
  refine List.ext_getElem? fun j => ?_
  unfold rng
  rw [List.getElem?_map, List.getElem?_map]
  by_cases hj : j < (AR d [] []).length
  · rw [List.getElem?_range hj]
    refine (congrArg some (h.layer hj)).trans ?_
    rw [List.getD_eq_getElem?_getD, List.getElem?_eq_getElem hj]
    rfl
  · rw [List.getElem?_eq_none (by rw [List.length_range]; omega), List.getElem?_eq_none (by omega)]
    rfl
theorem Rd.outs {d : Co} {kvs : List (Int × PyData)} (h : Rd d (AR d [] []).length kvs) {out : List Int} (up : out.Pairwise (· < ·)) (m : ∀ k, k ∈ out ↔ k ∈ (kvs.map Prod.fst).map (vlI kvs)) : out = rng (AR d [] []).length :=
  asc_same up (rng_lt _) fun x => by rw [m, h.depths, mem_rng]
theorem we_iv {X : Cx} {δ : Dl} {μ : Cells} {e : Expr} {Q : Vd → Cells → Prop} (v : Vd) (h : WE X e δ μ fun x μ' => x = v ∧ μ' = μ) (k : Q v μ) : WE X e δ μ Q := h.mono fun x μ' ⟨a, b⟩ => by
  rw [a, b]
  exact k
/-! ### the law's functions -/
/-- rows one by one -/
structure LnP (n : Nat) (L : List (List Int)) : Prop where
  sub : ∀ r ∈ L, r.Sublist (rng n)
  no : ∀ (i : Nat) r, L[i]? = some r → (i : Int) ∉ r
theorem LnP.nil (n : Nat) : LnP n [] := ⟨fun r m => (by cases m), fun i r h => by cases h⟩
theorem LnP.add {n : Nat} {L : List (List Int)} (h : LnP n L) {r : List Int} (h1 : r.Sublist (rng n)) (h2 : ((L.length : Nat) : Int) ∉ r) : LnP n (L ++ [r]) :=
  ⟨fun x m => by
    rcases List.mem_append.mp m with m | m
    · exact h.sub x m
    · rw [List.mem_singleton.mp m]; exact h1, fun i x hx => by
    by_cases e : i < L.length
    · rw [List.getElem?_append_left e] at hx
      exact h.no i x hx
    · rw [List.getElem?_append_right (by omega)] at hx
      have hi : i - L.length = 0 := by
        have := (List.getElem?_eq_some_iff.mp hx).1
        rw [List.length_singleton] at this
        omega
      rw [hi] at hx
      cases hx
      rwa [show i = L.length by omega]⟩
theorem LnP.done {n : Nat} {L : List (List Int)} (h : LnP n L) (hl : L.length = n) : Lnk n L :=
  ⟨hl, fun r m => (rng_lt n).sublist (h.sub r m), fun r m x mx => mem_rng.mp ((h.sub r m).subset mx), h.no⟩
abbrev T_links : TrD := fun xs μ R => ∃ (b : Addr) (bs : List PyData) (n m : Nat), xs = [.a b, .d (.int (n : Int))] ∧ μ = ([(b, bs)] : Cells) ∧ BoxOk m bs ∧ n ≤ 14 ∧ m + 1000 ≤ 1000000000000 ∧ ∀ q L bs', Lnk n L → BoxOk (m + 1000) bs' → R (.a q) [(q, Cont.l (tups L)), (b, Cont.l bs')]
abbrev T_ringed : TrD := fun xs μ R => ∃ (n : Nat) (L : List (List Int)), xs = [.d (.list (tups L))] ∧ Lnk n L ∧ n ≤ 14 ∧ R (.d (.list (intsD (nev (stC L))))) μ
abbrev T_depth : TrD := fun xs μ R => ∃ (n : Nat) (L : List (List Int)) (E : List Int), xs = [.d (.list (tups L)), .d (.list (intsD E))] ∧ Lnk n L ∧ EnOk n L E ∧ n ≤ 14 ∧ ∀ q kvs, Rd (loC L E) (AR (loC L E) [] []).length kvs → R (.a q) ((q, Cont.i kvs) :: μ)
end Ec

set_option Elab.async false
set_option linter.all false
set_option autoImplicit false
set_option maxRecDepth 100000
set_option maxHeartbeats 4000000
set_option pp.maxSteps 60
namespace Lw
open PySem PySem.Spec PyProof.Rows L2 Ec
def topS (i : Nat) : Stmt := PySem.Challenge.pw_enoughcame_k66_whole_all_friends_or_one.main.body.getD i (.Pass ⟨0, 0, 0, 0⟩)
abbrev s_is_number : Stmt := topS 1
theorem sc_is_number : FnScope ["thing"] ["thing"] (defScope s_is_number) := ⟨rfl, rfl, rfl, by decide +kernel, rfl, by decide +kernel, by decide +kernel⟩
abbrev s_count_there : Stmt := topS 3
theorem sc_count_there : FnScope ["company", "person", "there", "friend"] ["company", "person", "there"] (defScope s_count_there) := ⟨rfl, rfl, rfl, by decide +kernel, rfl, by decide +kernel, by decide +kernel⟩
abbrev s_can_come : Stmt := topS 4
theorem sc_can_come : FnScope ["company", "person", "there"] ["company", "person", "there"] (defScope s_can_come) := ⟨rfl, rfl, rfl, by decide +kernel, rfl, by decide +kernel, by decide +kernel⟩
abbrev s_next_people : Stmt := topS 5
theorem sc_next_people : FnScope ["company", "people", "others", "person"] ["company", "people"] (defScope s_next_people) := ⟨rfl, rfl, rfl, by decide +kernel, rfl, by decide +kernel, by decide +kernel⟩
abbrev s_all_rounds : Stmt := topS 6
theorem sc_all_rounds : FnScope ["company", "begin", "barred", "there", "found", "some", "person"] ["company", "begin", "barred"] (defScope s_all_rounds) := ⟨rfl, rfl, rfl, by decide +kernel, rfl, by decide +kernel, by decide +kernel⟩
abbrev s_closure : Stmt := topS 7
theorem sc_closure : FnScope ["company", "begin", "barred", "found", "some"] ["company", "begin", "barred"] (defScope s_closure) := ⟨rfl, rfl, rfl, by decide +kernel, rfl, by decide +kernel, by decide +kernel⟩
abbrev s_greatest : Stmt := topS 8
theorem sc_greatest : FnScope ["company"] ["company"] (defScope s_greatest) := ⟨rfl, rfl, rfl, by decide +kernel, rfl, by decide +kernel, by decide +kernel⟩
abbrev s_never : Stmt := topS 9
theorem sc_never : FnScope ["company", "there", "person"] ["company"] (defScope s_never) := ⟨rfl, rfl, rfl, by decide +kernel, rfl, by decide +kernel, by decide +kernel⟩
abbrev s_rounds : Stmt := topS 10
theorem sc_rounds : FnScope ["company"] ["company"] (defScope s_rounds) := ⟨rfl, rfl, rfl, by decide +kernel, rfl, by decide +kernel, by decide +kernel⟩
abbrev s_misfit : Stmt := topS 12
theorem sc_misfit : FnScope ["company", "row", "found", "place", "person"] ["company", "row"] (defScope s_misfit) := ⟨rfl, rfl, rfl, by decide +kernel, rfl, by decide +kernel, by decide +kernel⟩
abbrev s_is_order : Stmt := topS 13
theorem sc_is_order : FnScope ["company", "thing", "person"] ["company", "thing"] (defScope s_is_order) := ⟨rfl, rfl, rfl, by decide +kernel, rfl, by decide +kernel, by decide +kernel⟩
abbrev s_cell_at_l : Stmt := topS 15
theorem sc_cell_at_l : FnScope ["_law_script", "_law_k"] ["_law_script", "_law_k"] (defScope s_cell_at_l) := ⟨rfl, rfl, rfl, by decide +kernel, rfl, by decide +kernel, by decide +kernel⟩
abbrev s_box_l : Stmt := topS 16
theorem sc_box_l : FnScope ["_law_script", "_law_k", "_law_core"] ["_law_script", "_law_k"] (defScope s_box_l) := ⟨rfl, rfl, rfl, by decide +kernel, rfl, by decide +kernel, by decide +kernel⟩
abbrev s_take_l : Stmt := topS 17
theorem sc_take_l : FnScope ["_law_box_here", "_law_below", "_law_found", "_law_once", "_law_twice"] ["_law_box_here", "_law_below"] (defScope s_take_l) := ⟨rfl, rfl, rfl, by decide +kernel, rfl, by decide +kernel, by decide +kernel⟩
abbrev s_strewn_l : Stmt := topS 18
theorem sc_strewn_l : FnScope ["_law_box_here", "_law_some", "_law_left", "_law_found"] ["_law_box_here", "_law_some"] (defScope s_strewn_l) := ⟨rfl, rfl, rfl, by decide +kernel, rfl, by decide +kernel, by decide +kernel⟩
abbrev s_row_l : Stmt := topS 19
theorem sc_row_l : FnScope ["_law_box_here", "_law_crowd"] ["_law_box_here", "_law_crowd"] (defScope s_row_l) := ⟨rfl, rfl, rfl, by decide +kernel, rfl, by decide +kernel, by decide +kernel⟩
abbrev s_links_l : Stmt := topS 20
theorem sc_links_l : FnScope ["_law_box_here", "_law_count", "_law_found", "_law_soul", "_law_others", "_law_its"] ["_law_box_here", "_law_count"] (defScope s_links_l) := ⟨rfl, rfl, rfl, by decide +kernel, rfl, by decide +kernel, by decide +kernel⟩
abbrev s_ringed_l : Stmt := topS 21
theorem sc_ringed_l : FnScope ["_law_links_here", "_law_left", "_law_turn", "_law_soul", "_law_pal"] ["_law_links_here"] (defScope s_ringed_l) := ⟨rfl, rfl, rfl, by decide +kernel, rfl, by decide +kernel, by decide +kernel⟩
abbrev s_depth_l : Stmt := topS 22
theorem sc_depth_l : FnScope ["_law_links_here", "_law_ends", "_law_found", "_law_layer", "_law_far", "_law_rest", "_law_soul", "_law_pal"] ["_law_links_here", "_law_ends"] (defScope s_depth_l) := ⟨rfl, rfl, rfl, by decide +kernel, rfl, by decide +kernel, by decide +kernel⟩
abbrev s_right_l : Stmt := topS 23
theorem sc_right_l : FnScope ["_law_box_here", "_law_links_here", "_law_names", "_law_strict", "_law_turn", "_law_queue", "_law_wrong", "_law_ends", "_law_loose", "_law_far", "_law_depths", "_law_soul", "_law_pals", "_law_at", "_law_k", "_law_pal"] ["_law_box_here"] (defScope s_right_l) := ⟨rfl, rfl, rfl, by decide +kernel, rfl, by decide +kernel, by decide +kernel⟩
abbrev s_law : Stmt := topS 24
theorem sc_law : FnScope ["_law_script", "_law_k", "_law_box_here", "_law_turn"] ["_law_script"] (defScope s_law) := ⟨rfl, rfl, rfl, by decide +kernel, rfl, by decide +kernel, by decide +kernel⟩
local macro_rules | `(tactic| walk_at "vis") => `(tactic| with_unfolding_all first | exact Or.inl rfl | exact Or.inr (Or.inl rfl) | exact Or.inr (Or.inr rfl))
local macro_rules | `(tactic| walk_at "loc") => `(tactic| with_unfolding_all first | exact Or.inl rfl | exact Or.inr rfl)
local macro_rules | `(tactic| walk_at "nm") => `(tactic| with_reducible assumption)
local macro_rules | `(tactic| walk_at "rfl") => `(tactic| with_unfolding_all rfl)
local macro_rules | `(tactic| walk_at "room") => `(tactic| first | assumption | exact Room.mono (by assumption) (by decide))
local macro_rules | `(tactic| walk_at "ct") => `(tactic| with_unfolding_all first | exact Ct.l _ | exact Ct.t _ | exact Ct.c 0 rfl | exact Ct.c 1 rfl | exact Ct.c 2 rfl | exact Ct.c 3 rfl | exact Ct.c 4 rfl)
local macro_rules | `(tactic| walk_at "vw") => `(tactic| with_unfolding_all first | exact Vw.d _ | exact Vw.c 0 rfl | exact Vw.c 1 rfl | exact Vw.c 2 rfl | exact Vw.c 3 rfl | exact Vw.c 4 rfl)
/-! one step at an expression -/
local macro_rules | `(tactic| walk_at "e") => `(tactic| with_reducible first
  | refine we_name _ (by assumption) (by walk_at "vis") (by walk_at "rfl") ?_
  | refine we_int ?_
  | refine we_bl ?_
  | refine we_non ?_
  | refine we_str ?_
  | refine we_ix ix_seq (by with_unfolding_all exact fun _ _ => rfl) ?_
  | refine we_cmp (op := .Lt) op_lt (nomark _) ?_
  | refine we_cmp (op := .LtE) op_le (nomark _) ?_
  | refine we_cmp (op := .Gt) op_gt (nomark _) ?_
  | refine we_cmp (op := .GtE) op_ge (nomark _) ?_
  | refine we_bin (op := .Add) o_add ?_
  | refine we_bin (op := .Sub) op_sub ?_
  | refine we_bin (op := .Mult) o_mul ?_
  | refine we_bin (op := .Mod) op_mod ?_
  | refine we_bin (op := .FloorDiv) op_fdiv ?_
  | refine we_bin (op := .Pow) op_pow ?_
  | refine we_un (op := .USub) un_neg ?_
  | refine we_cmp (op := .In) op_in_seq (by walk_at "rfl") ?_
  | refine we_cmp (op := .NotIn) op_notIn_seq (by walk_at "rfl") ?_)
local macro_rules | `(tactic| walk_at "eq") => `(tactic| with_reducible first
  | refine we_cmp (op := .Eq) (op_eqD (Room.units (k := 0) (by with_unfolding_all exact Room.mono (by assumption) (Nat.zero_le _)))) (nomark _) ?_
  | refine we_cmp (op := .NotEq) (op_neD (Room.units (k := 0) (by with_unfolding_all exact Room.mono (by assumption) (Nat.zero_le _)))) (nomark _) ?_
  | refine we_cmp (op := .Is) op_isN (nomark _) ?_
  | refine we_cmp (op := .IsNot) op_notN (nomark _) ?_)
/-! one step at a test -/
local macro_rules | `(tactic| walk_at "t") => `(tactic| with_reducible first
  | refine wt_cmp (op := .Lt) op_lt (nomark _) ?_
  | refine wt_cmp (op := .LtE) op_le (nomark _) ?_
  | refine wt_cmp (op := .Gt) op_gt (nomark _) ?_
  | refine wt_cmp (op := .GtE) op_ge (nomark _) ?_
  | refine wt_cmp (op := .In) op_in_seq (by walk_at "rfl") ?_
  | refine wt_cmp (op := .NotIn) op_notIn_seq (by walk_at "rfl") ?_
  | refine wt_cmp (op := .Eq) (op_eqD (Room.units (k := 0) (by with_unfolding_all exact Room.mono (by assumption) (Nat.zero_le _)))) (nomark _) ?_
  | refine wt_cmp (op := .NotEq) (op_neD (Room.units (k := 0) (by with_unfolding_all exact Room.mono (by assumption) (Nat.zero_le _)))) (nomark _) ?_
  | refine wt_cmp (op := .Is) op_isN (nomark _) ?_
  | refine wt_cmp (op := .IsNot) op_notN (nomark _) ?_
  | refine wt_not ?_
  | refine wt_w (ww_and ?_)
  | refine wt_w (ww_or ?_)
  | refine ww_and ?_
  | refine ww_or ?_
  | refine ww_and1 ?_
  | refine ww_or1 ?_
  | refine wt_val ?_ (by with_unfolding_all exact fun _ => rfl))
/-! many steps -/
local macro_rules | `(tactic| walk_at "go1") => `(tactic| with_reducible first
  | walk_at "e"
  | refine ow_add ?_
  | refine ow_sub ?_
  | refine ow_cmp ?_
  | refine uw_neg ?_
  | refine wa_cons ?_ (by walk_at "rfl")
  | refine wa_nil ?_)
local macro_rules | `(tactic| walk_at "go") => `(tactic| repeat (walk_at "go1"))
local macro_rules | `(tactic| walk_at "so") => `(tactic| first | assumption | omega | (exact rfl) | decide | (simp only [List.length_map, List.length_append, List.length_cons, List.length_nil]; omega))
local macro_rules | `(tactic| walk_at "pl") => `(tactic| repeat' first | exact plS_nil | exact plS_map (fun _ => rfl) | refine plS_app ?_ ?_ | refine plS_cons rfl ?_ | assumption)
local macro_rules | `(tactic| walk_at "shp") => `(tactic| first | exact shaped_lst _ | exact shaped_tup _ | exact prs_shaped _ | exact tups_shaped _ | exact natsD_shaped _ | rfl | exact fits_shaped (by assumption))
local macro_rules | `(tactic| walk_at "lk") => `(tactic| with_unfolding_all first | exact Lk.d _ | exact Lk.c 0 rfl | exact Lk.c 1 rfl | exact Lk.c 2 rfl)

section
variable {P : Program} {w : World} {K : PySem.W.Frag} {mg : Str → Option Value} {base : Heap} {c_BadText c_BadLine c_Contradiction c_Stuck c_Misfit c_NoInvitation c_NoPerson c_NoPlace c_NoNumber c_NoOperation c_Blocked c_Early c_Here c_TooMany c_Full : Addr}
theorem ok_is_number {f : Addr} {fd : FuncData} (F : Fun K "is_number" "is_number" s_is_number f fd) (B : Bl mg) : FnG P w K mg base CX0 1 f fd ["thing"] (spW K T_isnum) := by
  refine fn_w F sc_is_number (by decide) (fun xs μ R h => ?_) fun cdv A outer s H E hr hgd xs μ R hT => ?_
  · obtain ⟨d, rfl, _⟩ := h
    rfl
  · obtain ⟨d, rfl, hR⟩ := hT
    refine wb_names (N := ["thing"]) rfl fun hn => ?_
    have n0 := hn 0 _ rfl
    refine wb_one (ws_ret (we_and ?_))
    refine we_isIn B rfl rfl ?_
    walk_at "e"
    refine ⟨.d _, _, rfl, ?_⟩
    split
    · rename_i h1
      refine we_one (we_not ?_)
      refine we_isBo B rfl rfl ?_
      walk_at "e"
      refine ⟨.d _, _, rfl, ?_⟩
      rw [h1, Bool.true_and] at hR
      exact keep hR
    · rename_i h1
      rw [Bool.eq_false_iff.mpr h1, Bool.false_and] at hR
      exact keep hR

theorem ok_count_there {f : Addr} {fd : FuncData} (F : Fun K "count_there" "count_there" s_count_there f fd) (B : Bl mg) : FnG P w K mg base CX0 1 f fd ["company", "person", "there"] (spW K T_cnt) := by
  refine fn_w F sc_count_there (by decide) (fun xs μ R h => ?_) fun cdv A outer s H E hr hgd xs μ R hT => ?_
  · obtain ⟨dc, c, p, dt, t, rfl, _⟩ := h
    rfl
  · obtain ⟨dc, c, p, dt, t, rfl, hc, h0, h1, ht, hR⟩ := hT
    refine wb_names (N := ["company", "person", "there", "friend"]) rfl fun hn => ?_
    have n0 := hn 0 _ rfl
    have n1 := hn 1 _ rfl
    have n2 := hn 2 _ rfl
    have n3 := hn 3 _ rfl
    obtain ⟨ds, de, sq, ha, df, hde, hdf⟩ := co_at hc h0 h1
    refine wb_one (ws_ret (we_len B rfl ?_))
    refine we_lc [("friend", 3)] rfl sc_count_there.nd (blkOk_by (N := ["company", "person", "there", "friend"]) (sc := defScope s_count_there) (by decide +kernel)) (lcP PyData.int (fun x => decide (x ∈ t)) PyData.int ?_)
    refine wi_seq ?_
    walk_at "e"
    walk_at "e"
    walk_at "e"
    walk_at "e"
    refine ow_ix (ct_sq sq) ha ?_
    walk_at "e"
    refine ow_ix (ct_sq hde) (atI_nat (j := 0) rfl) ?_
    refine ⟨_, seqd_sq hdf, _, rfl, ?_, fun x _ => ?_, fun q => ⟨_, .c 0 rfl, ?_⟩⟩
    · exact Nat.le_trans (fr_len hc) (by decide)
    · intro s1 H1 C cl fp
      refine wg_name 3 (X := _) sc_count_there.nd n3 (.inl rfl) (.inr rfl) (List.mem_singleton.mpr rfl) ?_
      intro s1 H1 C cl fp
      show WT _ _ _ _ _
      walk_at "t"
      walk_at "e"
      walk_at "e"
      refine ow_in (ct_sq ht) rfl (flat_ints t) ⟨_, rfl, inD_int x t, ?_⟩
      split
      · intro s1 H1 C cl fp
        walk_at "e"
        exact ⟨rfl, rfl⟩
      · rfl
    · rw [List.length_map]
      exact keep_drop (keep hR)

theorem ok_can_come {f : Addr} {fd : FuncData} (F : Fun K "can_come" "can_come" s_can_come f fd) (B : Bl mg) (c1 : Cal P w K mg base 1 "count_there" T_cnt) : FnG P w K mg base CX0 2 f fd ["company", "person", "there"] (spW K T_can) := by
  refine fn_w F sc_can_come (by decide) (fun xs μ R h => ?_) fun cdv A outer s H E hr hgd xs μ R hT => ?_
  · obtain ⟨dc, c, p, dt, t, rfl, _⟩ := h
    rfl
  · obtain ⟨dc, c, p, dt, t, rfl, hc, h0, h1, ht, hR⟩ := hT
    refine wb_names (N := ["company", "person", "there"]) rfl fun hn => ?_
    have n0 := hn 0 _ rfl
    have n1 := hn 1 _ rfl
    have n2 := hn 2 _ rfl
    obtain ⟨ds, de, sq, ha, df, hde, hdf⟩ := co_at hc h0 h1
    refine wb_one (ws_ret ?_)
    walk_at "e"
    refine we_callP c1 hr rfl ?_
    refine wa_cons ?_
    walk_at "e"
    refine wa_cons ?_
    walk_at "e"
    refine wa_cons ?_
    walk_at "e"
    refine wa_nil ?_
    refine ⟨dc, c, p, dt, t, rfl, hc, h0, h1, ht, ?_⟩
    walk_at "e"
    walk_at "e"
    walk_at "e"
    walk_at "e"
    refine ow_ix (ct_sq sq) ha ?_
    walk_at "e"
    refine ow_ix (ct_sq hde) (atI_nat (j := 1) rfl) ?_
    refine ow_cmp ?_
    exact keep hR

theorem ok_next_people {f : Addr} {fd : FuncData} (F : Fun K "next_people" "next_people" s_next_people f fd) (B : Bl mg) (c1 : Cal P w K mg base 2 "can_come" T_can) : FnG P w K mg base CX0 3 f fd ["company", "people"] (spW K T_next) := by
  refine fn_w F sc_next_people (by decide) (fun xs μ R h => ?_) fun cdv A outer s H E hr hgd xs μ R hT => ?_
  · obtain ⟨dc, c, dt, t, rfl, _⟩ := h
    rfl
  · obtain ⟨dc, c, dt, t, rfl, hc, ht, hR⟩ := hT
    refine wb_names (N := ["company", "people", "others", "person"]) rfl fun hn => ?_
    have n0 := hn 0 _ rfl
    have n1 := hn 1 _ rfl
    have n2 := hn 2 _ rfl
    have n3 := hn 3 _ rfl
    obtain ⟨ds, sq, al⟩ := hc.sq
    have hl := hc.len
    have hlen := allD_len al
    refine wb_cons ?_
    refine ws_setLc 2 [("person", 3)] rfl sc_next_people.nd n2 rfl (sw_true rfl rfl rfl (by decide +kernel)) (blkOk_by (N := ["company", "people", "others", "person"]) (sc := defScope s_next_people) (by decide +kernel)) (lcP PyData.int (fun p => !decide (p ∈ t)) PyData.int ?_)
    refine wi_range1 rfl B.range ?_
    refine wa_one (we_len B rfl ?_)
    walk_at "e"
    refine ⟨ds, ct_sq sq, _, rfl, by omega, by omega, rng ds.length, ?_, by rw [rng_len]; omega, fun x _ => ?_, fun q => ?_⟩
    · rw [Int.toNat_natCast, rangeD_eq]
    · intro s1 H1 C cl fp
      refine wg_name 3 sc_next_people.nd n3 (.inl rfl) (.inr rfl) (List.mem_singleton.mpr rfl) ?_
      intro s1 H1 C cl fp
      show WT _ _ _ _ _
      walk_at "t"
      walk_at "go"
      refine ow_ni (ct_sq ht) rfl (flat_ints t) ⟨_, rfl, by rw [inD_int x t], ?_⟩
      split
      · intro s1 H1 C cl fp
        walk_at "e"
        exact ⟨rfl, rfl⟩
      · rfl
    · refine wb_frz 0 [2] rfl (fun j hj => by cases List.mem_singleton.mp hj; rfl) ?_
      refine wb_one (ws_ret ?_)
      refine we_lc [("person", 3)] rfl sc_next_people.nd (blkOk_by (N := ["company", "people", "others", "person"]) (sc := defScope s_next_people) (by decide +kernel)) (lcP PyData.int (comes c t) PyData.int ?_)
      refine wi_seq ?_
      walk_at "e"
      refine ⟨_, .l _, _, rfl, ?_, fun x hx => ?_, fun q => ?_⟩
      · refine Nat.le_trans (List.length_filter_le _ _) ?_
        rw [rng_len]
        omega
      · have hx' := mem_rng.mp (List.mem_filter.mp hx).1
        intro s1 H1 C cl fp
        refine wg_name 3 sc_next_people.nd n3 (.inl rfl) (.inr rfl) (List.mem_singleton.mpr rfl) ?_
        intro s1 H1 C cl fp
        show WT _ _ _ _ _
        walk_at "t"
        refine we_callP c1 hr rfl ?_
        walk_at "go"
        refine ⟨dc, c, x, dt, t, rfl, hc, hx'.1, by omega, ht, _, rfl, rfl, ?_⟩
        split
        · intro s1 H1 C cl fp
          walk_at "e"
          exact ⟨rfl, rfl⟩
        · rfl
      · refine keep ?_
        have := hR q
        unfold nexts at this
        rw [← hlen] at this
        exact this

theorem ok_all_rounds {f : Addr} {fd : FuncData} (F : Fun K "all_rounds" "all_rounds" s_all_rounds f fd) (B : Bl mg) (c1 : Cal P w K mg base 3 "next_people" T_next) : FnG P w K mg base CX0 4 f fd ["company", "begin", "barred"] (spW K T_rounds) := by
  refine fn_w F sc_all_rounds (by decide) (fun xs μ R h => ?_) fun cdv A outer s H E hr hgd xs μ R hT => ?_
  · obtain ⟨dc, c, dt, t, db, b, rfl, _⟩ := h
    rfl
  · obtain ⟨dc, c, dt, t, db, b, rfl, hc, ht, hb, htl, hR⟩ := hT
    refine wb_names (N := ["company", "begin", "barred", "there", "found", "some", "person"]) rfl fun hn => ?_
    have n0 := hn 0 _ rfl
    have n1 := hn 1 _ rfl
    have n2 := hn 2 _ rfl
    have n3 := hn 3 _ rfl
    have n4 := hn 4 _ rfl
    have n5 := hn 5 _ rfl
    have n6 := hn 6 _ rfl
    have hl := hc.len
    refine wb_cons ?_
    refine ws_par 3 4 rfl sc_all_rounds.nd n3 n4 (by decide) rfl rfl ?_ (by rfl)
    refine we_list B rfl ?_
    walk_at "e"
    refine ⟨_, ct_sq ht, fun p1 => ?_⟩
    refine we_lst (wa_nil ⟨[], rfl, by decide, fun p2 => ?_⟩)
    refine wb_one ?_
    refine ws_while PassesOwn.never (fun m δ' μ' => ∃ t' acc x5, δ' = [some (.d dc), some (.d dt), some (.d db), some (.a p1), some (.a p2), x5, none] ∧ μ' = ((p2, tups acc) :: (p1, intsD t') :: μ : Cells) ∧
      AR c t b = acc ++ rnds (m + 1) c t' b ∧ und c t' ≤ m ∧ acc.length + m ≤ 1000 ∧ t'.length + und c t' ≤ 2000) ⟨c.length, t, [], none, rfl, ?_, rfl, und_le c t, by simp; omega, by have := und_le c t; omega⟩ ?_
    · rfl
    · rintro m δ' μ' ⟨t', acc, x5, rfl, rfl, hA, hu, hm, hs⟩
      refine wt_val (we_bl ⟨true, rfl, ?_⟩)
      rw [if_pos rfl]
      refine wb_cons ?_
      refine ws_setLc 5 [("person", 6)] rfl sc_all_rounds.nd n5 rfl (sw_true rfl rfl rfl (by decide +kernel)) (blkOk_by (N := ["company", "begin", "barred", "there", "found", "some", "person"]) (sc := defScope s_all_rounds) (by decide +kernel)) (lcP PyData.int (fun p => !decide (p ∈ b)) PyData.int ?_)
      refine wi_seq (we_fz (we_callZ 1 c1 hr rfl ?_))
      walk_at "go"
      refine ⟨p1, _, _, rfl, plS_map (fun _ => rfl), .keep (.lend .nil), dc, c, _, t', rfl, hc, .inl rfl, fun q => ⟨rfl, fun y hy => ?_, q, _, _, rfl, rfl, plS_map (fun _ => rfl), _, .l _, _, rfl, ?_, fun x _ => ?_, fun q3 => ?_⟩⟩
      · cases List.mem_singleton.mp hy
        exact noLs_ints _
      · refine Nat.le_trans (List.length_filter_le _ _) (Nat.le_trans (List.length_filter_le _ _) ?_)
        rw [rng_len]
        omega
      · intro s1 H1 C cl fp
        refine wg_name 6 sc_all_rounds.nd n6 (.inl rfl) (.inr rfl) (List.mem_singleton.mpr rfl) ?_
        intro s1 H1 C cl fp
        show WT _ _ _ _ _
        walk_at "t"
        walk_at "go"
        refine ow_ni (ct_sq hb) rfl (flat_ints b) ⟨_, rfl, by rw [inD_int x b], ?_⟩
        split
        · intro s1 H1 C cl fp
          walk_at "e"
          exact ⟨rfl, rfl⟩
        · rfl
      · -- some
        have es : ((nexts c t').filter fun p => !decide (p ∈ b)).map PyData.int = intsD (stp c t' b) := rfl
        have sl := stp_sum c t' b
        rw [es]
        refine wb_cons (ws_if ?_)
        walk_at "t"
        refine we_len B rfl ?_
        walk_at "e"
        refine ⟨_, .c 0 rfl, ?_⟩
        walk_at "e"
        refine ow_eq (.d _) (.d _) rfl rfl ⟨_, rfl, ?_⟩
        have e0 : PyData.eqv (.int ((intsD (stp c t' b)).length : Nat)) (.int 0) = decide (stp c t' b = []) := by
          simp only [PyData.eqv, List.length_map]
          cases stp c t' b <;> simp <;> omega
        rw [e0]
        unfold rnds at hA
        split
        · rename_i e1
          have e2 := of_decide_eq_true e1
          rw [if_pos e2, List.append_nil] at hA
          refine wb_one (ws_ret ?_)
          walk_at "e"
          refine keep_drop (keep_perm (List.Perm.swap _ _ _) (keep_drop (keep ?_)))
          rw [← hA]
          exact hR p2
        · rename_i e1
          have e2 : stp c t' b ≠ [] := fun z => e1 (decide_eq_true z)
          rw [if_neg e2] at hA
          have lt := stp_lt e2
          refine wb_nil ?_
          refine wb_cons (ws_expr ?_)
          refine we_append ?_
          walk_at "e"
          refine ⟨p2, _, ⟨1, rfl⟩, rfl, ?_⟩
          refine we_tuple B rfl ?_
          walk_at "e"
          refine ⟨_, .c 0 rfl, _, _, 1, rfl, rfl, by rw [List.length_map]; omega, ?_⟩
          refine wb_cons (ws_expr ?_)
          refine we_extend ?_
          walk_at "e"
          refine ⟨p1, _, ⟨2, rfl⟩, rfl, ?_⟩
          walk_at "e"
          refine ⟨_, _, _, 2, 0, rfl, rfl, rfl, by rw [List.length_map, List.length_map]; omega, ?_⟩
          refine wb_nilK (keep_drop (keep ⟨m - 1, by omega, t' ++ stp c t' b, acc ++ [stp c t' b], some (.a q3), rfl, ?_, ?_, by omega, by rw [List.length_append, List.length_singleton]; omega, by rw [List.length_append]; omega⟩))
          · simp [tups, intsD]
          · rw [hA, List.append_assoc]
            have : m - 1 + 1 = m := by omega
            rw [this]
            rfl

theorem ok_closure {f : Addr} {fd : FuncData} (F : Fun K "closure" "closure" s_closure f fd) (B : Bl mg) (c1 : Cal P w K mg base 4 "all_rounds" T_rounds) : FnG P w K mg base CX0 5 f fd ["company", "begin", "barred"] (spW K T_closure) := by
  refine fn_w F sc_closure (by decide) (fun xs μ R h => ?_) fun cdv A outer s H E hr hgd xs μ R hT => ?_
  · obtain ⟨dc, c, dt, t, db, b, rfl, _⟩ := h
    rfl
  · obtain ⟨dc, c, dt, t, db, b, rfl, hc, ht, hb, htl, hR⟩ := hT
    refine wb_names (N := ["company", "begin", "barred", "found", "some"]) rfl fun hn => ?_
    have n0 := hn 0 _ rfl
    have n1 := hn 1 _ rfl
    have n2 := hn 2 _ rfl
    have n3 := hn 3 _ rfl
    have n4 := hn 4 _ rfl
    have hl := hc.len
    have hfl := cl_len c t b
    refine wb_cons ?_
    refine ws_set 3 sc_closure.nd n3 (.inl rfl) (.inl rfl) ?_
    refine we_list B rfl ?_
    walk_at "e"
    refine ⟨_, ct_sq ht, fun p1 => ?_⟩
    refine wb_cons ?_
    refine ws_for [4] PassesOwn.never rfl ?_
    refine wi_seq (we_fz (we_callP c1 hr rfl ?_))
    walk_at "go"
    refine ⟨dc, c, dt, t, db, b, rfl, hc, ht, hb, by omega, fun q => ⟨q, _, _, rfl, rfl, plS_map (fun _ => rfl), _, .l _, ?_⟩⟩
    refine ⟨fun i δ' μ' => ∃ x4, δ' = [some (.d dc), some (.d dt), some (.d db), some (.a p1), x4] ∧ μ' = ((p1, intsD (t ++ ((AR c t b).take i).flatten)) :: μ : Cells), ⟨none, rfl, by simp⟩, fun i d δ' μ' hd hI => ?_, fun δ' μ' hI => ?_⟩
    · obtain ⟨x4, rfl, rfl⟩ := hI
      rw [List.getElem?_map] at hd
      cases hq : (AR c t b)[i]? with
      | none =>
        rw [hq] at hd
        cases hd
      | some r =>
        rw [hq] at hd
        cases hd
        refine wg_name 4 sc_closure.nd n4 (.inl rfl) (.inl rfl) (List.mem_singleton.mpr rfl) ?_
        refine wb_cons (ws_expr ?_)
        refine we_extendT ?_
        walk_at "e"
        refine ⟨p1, _, ⟨0, rfl⟩, rfl, ?_⟩
        walk_at "e"
        have lt := (List.getElem?_eq_some_iff.mp hq).1
        have e1 : ((AR c t b).take (i + 1)).flatten = ((AR c t b).take i).flatten ++ r := by rw [List.take_add_one, hq]; simp
        refine ⟨_, _, 0, rfl, rfl, ?_, ?_⟩
        · have : (((AR c t b).take (i + 1)).flatten).length ≤ ((AR c t b).flatten).length := by
            have e2 : (AR c t b).flatten = ((AR c t b).take (i + 1)).flatten ++ ((AR c t b).drop (i + 1)).flatten := by rw [← List.flatten_append, List.take_append_drop]
            rw [e2, List.length_append]
            omega
          rw [e1] at this
          simp only [List.length_append, List.length_map] at this hfl ⊢
          omega
        · refine wb_nil ⟨some (.d (.tuple (intsD r))), rfl, ?_⟩
          rw [e1]
          simp [intsD]
    · obtain ⟨x4, rfl, rfl⟩ := hI
      rw [List.length_map, List.take_length]
      refine wb_one (ws_ret ?_)
      refine we_tuple B rfl (we_sorted B rfl ?_)
      walk_at "e"
      refine ⟨_, .c 0 rfl, (fun _ z => by cases z), (by omega), fun q2 => ⟨_, .c 0 rfl, ?_⟩⟩
      exact keep_drop (keep_drop (keep hR))

theorem ok_greatest {f : Addr} {fd : FuncData} (F : Fun K "greatest" "greatest" s_greatest f fd) (B : Bl mg) (c1 : Cal P w K mg base 5 "closure" T_closure) : FnG P w K mg base CX0 6 f fd ["company"] (spW K T_great) := by
  refine fn_w F sc_greatest (by decide) (fun xs μ R h => ?_) fun cdv A outer s H E hr hgd xs μ R hT => ?_
  · obtain ⟨dc, c, rfl, _⟩ := h
    rfl
  · obtain ⟨dc, c, rfl, hc, hl, hR⟩ := hT
    refine wb_names (N := ["company"]) rfl fun hn => ?_
    have n0 := hn 0 _ rfl
    refine wb_one (ws_ret ?_)
    refine we_callP c1 hr rfl ?_
    walk_at "go"
    refine we_tup (wa_nil ⟨[], rfl, by decide, ?_⟩)
    refine wa_one ?_
    refine we_tup (wa_nil ⟨[], rfl, by decide, ?_⟩)
    exact ⟨dc, c, _, [], _, [], rfl, hc, .inr rfl, .inr rfl, by simpa using hl, keep hR⟩

theorem ok_never {f : Addr} {fd : FuncData} (F : Fun K "never" "never" s_never f fd) (B : Bl mg) (c1 : Cal P w K mg base 6 "greatest" T_great) : FnG P w K mg base CX0 7 f fd ["company"] (spW K T_never) := by
  refine fn_w F sc_never (by decide) (fun xs μ R h => ?_) fun cdv A outer s H E hr hgd xs μ R hT => ?_
  · obtain ⟨dc, c, rfl, _⟩ := h
    rfl
  · obtain ⟨dc, c, rfl, hc, hl, hR⟩ := hT
    refine wb_names (N := ["company", "there", "person"]) rfl fun hn => ?_
    have n0 := hn 0 _ rfl
    have n1 := hn 1 _ rfl
    have n2 := hn 2 _ rfl
    obtain ⟨ds, sq, al⟩ := hc.sq
    have hlen := allD_len al
    refine wb_cons ?_
    refine ws_set 1 sc_never.nd n1 (by walk_at "loc") (by first | exact .inl rfl | exact .inr rfl) ?_
    refine we_callP c1 hr rfl ?_
    refine wa_one ?_
    walk_at "go"
    refine ⟨dc, c, rfl, hc, hl, ?_⟩
    refine wb_one (ws_ret (we_tuple B rfl ?_))
    refine we_lc [("person", 2)] rfl sc_never.nd (blkOk_by (N := ["company", "there", "person"]) (sc := defScope s_never) (by decide +kernel)) (lcP PyData.int (fun p => !decide (p ∈ gr c)) PyData.int ?_)
    refine wi_range1 rfl B.range ?_
    refine wa_one (we_len B rfl ?_)
    walk_at "e"
    refine ⟨ds, ct_sq sq, _, rfl, by omega, by omega, rng ds.length, ?_, by rw [rng_len]; omega, fun x _ => ?_, fun q => ⟨_, .c 0 rfl, ?_⟩⟩
    · rw [Int.toNat_natCast, rangeD_eq]
    · intro s1 H1 C cl fp
      refine wg_name 2 sc_never.nd n2 (by walk_at "loc") (by first | exact .inl rfl | exact .inr rfl) (by decide) ?_
      intro s1 H1 C cl fp
      show WT _ _ _ _ _
      walk_at "t"
      walk_at "go"
      refine ow_ni (.t _) rfl (flat_ints _) ⟨_, rfl, by rw [inD_int], ?_⟩
      split
      · intro s1 H1 C cl fp
        walk_at "e"
        exact ⟨rfl, rfl⟩
      · rfl
    · refine keep_drop (keep ?_)
      unfold nev at hR
      rw [← hlen] at hR
      exact hR

theorem ok_rounds {f : Addr} {fd : FuncData} (F : Fun K "rounds" "rounds" s_rounds f fd) (B : Bl mg) (c_all_rounds : Cal P w K mg base 4 "all_rounds" T_rounds) : FnG P w K mg base CX0 5 f fd ["company"] (spW K T_rnds) := by
  refine fn_w F sc_rounds (by decide) (fun xs μ R h => ?_) fun cdv A outer s H E hr hgd xs μ R hT => ?_
  · obtain ⟨dc, c, rfl, _⟩ := h
    rfl
  · obtain ⟨dc, c, rfl, hc, hR⟩ := hT
    refine wb_names (N := ["company"]) rfl fun hn => ?_
    have n0 := hn 0 _ rfl
    refine wb_one (ws_ret ?_)
    refine we_callP c_all_rounds (by walk_at "room") rfl ?_
    refine wa_cons ?_
    walk_at "e"
    refine wa_cons ?_
    refine we_tup ?_
    refine wa_nil ?_
    refine ⟨[], rfl, by simp, ?_⟩
    refine wa_one ?_
    refine we_tup ?_
    refine wa_nil ?_
    refine ⟨[], rfl, by simp, ?_⟩
    refine ⟨_, c, _, [], _, [], rfl, by walk_at "so", .inr rfl, .inr rfl, by walk_at "so", fun p1 => ?_⟩
    exact keep (hR _)

theorem ok_misfit {f : Addr} {fd : FuncData} (F : Fun K "misfit" "misfit" s_misfit f fd) (B : Bl mg) (c_can_come : Cal P w K mg base 2 "can_come" T_can) : FnG P w K mg base CX0 3 f fd ["company", "row"] (spW K T_misfit) := by
  refine fn_w F sc_misfit (by decide) (fun xs μ R h => ?_) fun cdv A outer s H E hr hgd xs μ R hT => ?_
  · obtain ⟨dc, c, dr, r, rfl, _⟩ := h
    rfl
  · obtain ⟨dc, c, dr, r, rfl, hc, hq, hl, hrg, hR⟩ := hT
    refine wb_names (N := ["company", "row", "found", "place", "person"]) rfl fun hn => ?_
    have n0 := hn 0 _ rfl
    have n1 := hn 1 _ rfl
    have n2 := hn 2 _ rfl
    have n3 := hn 3 _ rfl
    have n4 := hn 4 _ rfl
    have hgd : ∀ i : Nat, i < r.length → r.getD i 0 ∈ r := fun i hi => by
      rw [List.getD_eq_getElem?_getD, List.getElem?_eq_getElem hi]
      exact List.getElem_mem hi
    rcases hq with rfl | rfl
    · skip
      refine wb_cons ?_
      refine ws_setLcW 2 [("place", 3), ("person", 4)] rfl sc_misfit.nd n2 rfl (sw_true rfl rfl rfl (by decide +kernel)) (blkOk_by (N := ["company", "row", "found", "place", "person"]) (sc := defScope s_misfit) (by decide +kernel)) (lcW (fun i : Nat => .tuple [.int (i : Int), .int (r.getD i 0)]) (fun i => (!(comes c (r.take i) (r.getD i 0)))) (fun i => (.int (i : Int))) ?_)
      refine wi_enum rfl B.enum ?_
      refine wa_one ?_
      walk_at "e"
      refine ⟨_, _, rfl, (.l _), List.range r.length, enum_eq _, by rw [List.length_range]; walk_at "so", fun i hx => ?_, fun zq => ?_⟩
      · have hi' : i < r.length := List.mem_range.mp hx
        obtain ⟨g0, g1⟩ := hrg _ (hgd i hi')
        intro s1 H1 C cl fp
        refine wg_tupW (ds := [_, _]) rfl ?_
        refine wgs_cons ?_
        refine wg_name 3 sc_misfit.nd n3 (by walk_at "loc") (by first | exact .inl rfl | exact .inr rfl) (by decide) ?_
        refine wgs_cons ?_
        refine wg_name 4 sc_misfit.nd n4 (by walk_at "loc") (by first | exact .inl rfl | exact .inr rfl) (by decide) ?_
        refine wgs_nil ?_
        intro s1 H1 C cl fp
        show WT _ _ _ _ _
        refine wt_not ?_
        refine wt_val ?_
        refine we_callP c_can_come (by walk_at "room") rfl ?_
        refine wa_cons ?_
        walk_at "e"
        refine wa_cons ?_
        walk_at "e"
        refine wa_one ?_
        refine we_fz ?_
        refine we_slL ?_
        walk_at "e"
        refine wo_none ?_
        refine wo_some ?_
        walk_at "e"
        refine ⟨_, rfl, ?_⟩
        refine ⟨_, (.l _), (fun _ z => by cases z), ?_⟩
        rw [cutZ_take (by rw [List.length_map]; omega), ← List.map_take]
        refine fun p1 => ⟨p1, _, _, rfl, rfl, by walk_at "pl", ?_⟩
        refine ⟨_, _, _, _, (r.take i), rfl, by walk_at "so", by walk_at "so", by walk_at "so", .inl rfl, ?_⟩
        refine ⟨_, rfl, ?_⟩
        refine ⟨rfl, ?_⟩
        split
        · rename_i h1
          intro s1 H1 C cl fp
          walk_at "e"
          exact ⟨rfl, rfl⟩
        · rfl
      have em : ((List.range r.length).filter fun i => !comes c (r.take i) (r.getD i 0)) = misL c r := rfl
      rw [em]
      unfold misV at hR
      refine wb_one (ws_ret (we_if ?_))
      walk_at "t"
      refine we_len B rfl ?_
      walk_at "e"
      refine ⟨_, .c 0 rfl, ?_⟩
      walk_at "go"
      refine ⟨_, rfl, ?_⟩
      cases hm : misL c r with
      | nil =>
        rw [hm] at hR
        refine itF rfl ?_
        walk_at "e"
        exact keep_drop (keep hR)
      | cons i l =>
        rw [hm] at hR
        refine itT (decide_eq_true (by simp)) ?_
        walk_at "go"
        refine ow_ix (.c 0 rfl) (atI_nat (j := 0) rfl) ?_
        exact keep_drop (keep hR)
    · skip
      refine wb_cons ?_
      refine ws_setLcW 2 [("place", 3), ("person", 4)] rfl sc_misfit.nd n2 rfl (sw_true rfl rfl rfl (by decide +kernel)) (blkOk_by (N := ["company", "row", "found", "place", "person"]) (sc := defScope s_misfit) (by decide +kernel)) (lcW (fun i : Nat => .tuple [.int (i : Int), .int (r.getD i 0)]) (fun i => (!(comes c (r.take i) (r.getD i 0)))) (fun i => (.int (i : Int))) ?_)
      refine wi_enum rfl B.enum ?_
      refine wa_one ?_
      walk_at "e"
      refine ⟨_, _, rfl, (.t _), List.range r.length, enum_eq _, by rw [List.length_range]; walk_at "so", fun i hx => ?_, fun zq => ?_⟩
      · have hi' : i < r.length := List.mem_range.mp hx
        obtain ⟨g0, g1⟩ := hrg _ (hgd i hi')
        intro s1 H1 C cl fp
        refine wg_tupW (ds := [_, _]) rfl ?_
        refine wgs_cons ?_
        refine wg_name 3 sc_misfit.nd n3 (by walk_at "loc") (by first | exact .inl rfl | exact .inr rfl) (by decide) ?_
        refine wgs_cons ?_
        refine wg_name 4 sc_misfit.nd n4 (by walk_at "loc") (by first | exact .inl rfl | exact .inr rfl) (by decide) ?_
        refine wgs_nil ?_
        intro s1 H1 C cl fp
        show WT _ _ _ _ _
        refine wt_not ?_
        refine wt_val ?_
        refine we_callP c_can_come (by walk_at "room") rfl ?_
        refine wa_cons ?_
        walk_at "e"
        refine wa_cons ?_
        walk_at "e"
        refine wa_one ?_
        refine we_slT ?_
        walk_at "e"
        refine wo_none ?_
        refine wo_some ?_
        walk_at "e"
        refine ⟨_, rfl, ?_⟩
        refine ⟨_, rfl, ?_⟩
        rw [cutZ_take (by rw [List.length_map]; omega), ← List.map_take]
        refine ⟨_, _, _, _, (r.take i), rfl, by walk_at "so", by walk_at "so", by walk_at "so", .inr rfl, ?_⟩
        refine ⟨_, rfl, ?_⟩
        refine ⟨rfl, ?_⟩
        split
        · rename_i h1
          intro s1 H1 C cl fp
          walk_at "e"
          exact ⟨rfl, rfl⟩
        · rfl
      have em : ((List.range r.length).filter fun i => !comes c (r.take i) (r.getD i 0)) = misL c r := rfl
      rw [em]
      unfold misV at hR
      refine wb_one (ws_ret (we_if ?_))
      walk_at "t"
      refine we_len B rfl ?_
      walk_at "e"
      refine ⟨_, .c 0 rfl, ?_⟩
      walk_at "go"
      refine ⟨_, rfl, ?_⟩
      cases hm : misL c r with
      | nil =>
        rw [hm] at hR
        refine itF rfl ?_
        walk_at "e"
        exact keep_drop (keep hR)
      | cons i l =>
        rw [hm] at hR
        refine itT (decide_eq_true (by simp)) ?_
        walk_at "go"
        refine ow_ix (.c 0 rfl) (atI_nat (j := 0) rfl) ?_
        exact keep_drop (keep hR)

theorem ok_is_order {f : Addr} {fd : FuncData} (F : Fun K "is_order" "is_order" s_is_order f fd) (B : Bl mg) (c1 : Cal P w K mg base 1 "is_number" T_isnum) (c2 : Cal P w K mg base 3 "misfit" T_misfit) : FnG P w K mg base CX0 4 f fd ["company", "thing"] (spW K T_isord) := by
  refine fn_w F sc_is_order (by decide) (fun xs μ R h => ?_) fun cdv A outer s H E hr hgd xs μ R hT => ?_
  · obtain ⟨dc, c, r, rfl, _⟩ := h
    rfl
  · obtain ⟨dc, c, r, rfl, hc, hl, hR⟩ := hT
    refine wb_names (N := ["company", "thing", "person"]) rfl fun hn => ?_
    have n0 := hn 0 _ rfl
    have n1 := hn 1 _ rfl
    have n2 := hn 2 _ rfl
    obtain ⟨ds, sq, al⟩ := hc.sq
    have hlen := allD_len al
    have hcl := hc.len
    refine wb_cons (ws_if ?_)
    refine wt_w (ww_or ?_)
    refine wt_not ?_
    refine wt_val ?_
    refine we_isTu B rfl rfl ?_
    walk_at "e"
    refine ⟨.d _, _, rfl, itF rfl ?_⟩
    refine ww_or1 ?_
    refine wt_not ?_
    refine wt_val ?_
    refine we_all B rfl rfl ?_
    refine we_lc [("person", 2)] rfl sc_is_order.nd (blkOk_by (N := ["company", "thing", "person"]) (sc := defScope s_is_order) (by decide +kernel)) (lcP PyData.int (fun _ => true) (fun _ => .bool true) ?_)
    refine wi_seq ?_
    walk_at "e"
    refine ⟨_, .t _, r, rfl, by omega, fun x hx => ?_, fun q => ?_⟩
    · intro s1 H1 C cl fp
      refine wg_name 2 sc_is_order.nd n2 (by walk_at "loc") (by first | exact .inl rfl | exact .inr rfl) (by decide) ?_
      intro s1 H1 C cl fp
      refine ⟨rfl, itT rfl ?_⟩
      intro s1 H1 C cl fp
      refine we_callP c1 (by walk_at "room") rfl ?_
      walk_at "go"
      exact ⟨_, rfl, rfl, rfl⟩
    rw [filt_all]
    refine ⟨r.map fun _ => true, ?_, (fun _ z => by cases z), ?_⟩
    · have e2 : (r.map fun _ => PyData.bool true) = blsD (r.map fun _ => true) := by simp [blsD]
      rw [e2]
      exact .c 0 rfl
    rw [all_true]
    refine ⟨_, rfl, itF rfl ?_⟩
    refine wb_nil (wb_drop ?_)
    refine wb_one (ws_ret (we_and ?_))
    walk_at "eq"
    refine we_sortedT B rfl ?_
    walk_at "e"
    refine ⟨r, rfl, hl, fun q1 => ?_⟩
    refine we_listRg B rfl rfl rfl ?_
    refine we_len B rfl ?_
    walk_at "e"
    refine ⟨ds, ct_sq sq, _, rfl, by omega, by omega, fun q2 => ?_⟩
    rw [Int.toNat_natCast, hlen, rangeD_eq]
    refine ow_eq (.c 1 rfl) (.c 0 rfl) (shaped_lst _) (shaped_lst _) ⟨_, rfl, ?_⟩
    rw [eqv_lst]
    unfold ordb at hR
    split
    · rename_i h1
      have h1' := of_decide_eq_true h1
      refine we_one ?_
      walk_at "eq"
      refine we_callP c2 (by walk_at "room") rfl ?_
      walk_at "go"
      refine ⟨dc, c, _, r, rfl, hc, .inr rfl, by omega, fun x hx => ?_, ?_⟩
      · have : x ∈ srt r := mem_srt.mpr hx
        rw [h1'] at this
        exact mem_rng.mp this
      walk_at "go"
      refine ow_isN ?_
      rw [h1, Bool.true_and] at hR
      refine keep_drop (keep_drop (keep ?_))
      unfold misV
      cases hm : misL c r with
      | nil =>
        rw [hm] at hR
        exact hR
      | cons i l =>
        rw [hm] at hR
        exact hR
    · rename_i h1
      rw [Bool.eq_false_iff.mpr h1, Bool.false_and] at hR
      exact keep_drop (keep_drop (keep hR))

theorem ok_cell_at_l {f : Addr} {fd : FuncData} (F : Fun K "_law_cell_at" "_law_cell_at" s_cell_at_l f fd) (B : Bl mg) : FnG P w K mg base CX0 1 f fd ["_law_script", "_law_k"] (spW K T_cell) := by
  refine fn_w F sc_cell_at_l (by decide) (fun xs μ R h => ?_) fun cdv A outer s H E hr hgd xs μ R hT => ?_
  · obtain ⟨ns, k, rfl, _⟩ := h
    rfl
  · obtain ⟨ns, k, rfl, hR⟩ := hT
    refine wb_names (N := ["_law_script", "_law_k"]) rfl fun hn => ?_
    have n0 := hn 0 _ rfl
    have n1 := hn 1 _ rfl
    refine wb_cons (ws_if ?_)
    walk_at "t"
    walk_at "e"
    refine we_len B rfl ?_
    walk_at "e"
    refine ⟨_, .s _, ?_⟩
    refine ow_cmp ⟨_, rfl, ?_⟩
    split
    · rename_i hk
      have hk' := of_decide_eq_true hk
      rw [List.length_map] at hk'
      have hl : k < ns.length := by omega
      refine wb_one (ws_ret ?_)
      walk_at "go"
      refine ow_ix (.s _) (atI_nat (j := k) (v := .int ns[k]) (by rw [List.getElem?_map, List.getElem?_eq_getElem hl]; rfl)) ?_
      rw [List.getD_eq_getElem?_getD, List.getElem?_eq_getElem hl] at hR
      exact keep hR
    · rename_i hk
      have hk' : ¬ ((k : Int) < ((intsD ns).length : Nat)) := fun z => hk (decide_eq_true z)
      rw [List.length_map] at hk'
      refine wb_nil ?_
      refine wb_one (ws_ret ?_)
      walk_at "e"
      rw [List.getD_eq_getElem?_getD, List.getElem?_eq_none (by omega)] at hR
      exact keep hR

theorem ok_box_l {f : Addr} {fd : FuncData} (F : Fun K "_law_box" "_law_box" s_box_l f fd) (B : Bl mg) (c1 : Cal P w K mg base 1 "_law_cell_at" T_cell) : FnG P w K mg base CX0 2 f fd ["_law_script", "_law_k"] (spW K T_box) := by
  refine fn_w F sc_box_l (by decide) (fun xs μ R h => ?_) fun cdv A outer s H E hr hgd xs μ R hT => ?_
  · obtain ⟨ns, k, rfl, _⟩ := h
    rfl
  · obtain ⟨ns, k, rfl, hk, hR⟩ := hT
    refine wb_names (N := ["_law_script", "_law_k", "_law_core"]) rfl fun hn => ?_
    have n0 := hn 0 _ rfl
    have n1 := hn 1 _ rfl
    have n2 := hn 2 _ rfl
    refine wb_cons ?_
    refine ws_set 2 sc_box_l.nd n2 (by walk_at "loc") (by first | exact .inl rfl | exact .inr rfl) ?_
    refine we_callP c1 hr rfl ?_
    walk_at "go"
    refine ⟨ns, k, rfl, ?_⟩
    generalize ns.getD k 0 = v
    refine wb_one (ws_ret ?_)
    refine we_lst (wa_cons ?_)
    walk_at "e"
    refine we_abs B rfl ?_
    walk_at "e"
    refine ⟨v, rfl, ?_⟩
    refine we_intB B rfl ?_
    walk_at "e"
    refine we_abs B rfl ?_
    walk_at "e"
    refine ⟨v, rfl, ?_⟩
    walk_at "go"
    refine ow_cnd (by exact ⟨by decide, by decide, by decide⟩) ?_
    refine ow_cmp ⟨_, rfl, ?_⟩
    generalize decide ((10 : Int) ^ Int.toNat 18 ≤ if v < 0 then -v else v) = kk
    refine ow_mul (.inr (by cases kk <;> decide)) ?_
    walk_at "go"
    refine ow_cnd (by decide) ?_
    walk_at "go"
    refine ow_mul (.inl (by decide)) ?_
    walk_at "go"
    refine ⟨_, rfl, (by show 3 ≤ 100000; decide), fun q => ?_⟩
    refine keep (hR q _ ⟨_, _, _, rfl, ?_, ?_, ?_, by decide, by decide⟩)
    · refine Int.mul_nonneg ?_ ?_
      · split <;> omega
      · cases kk <;> decide
    · have := Int.emod_nonneg v (show (2305843009213693951 : Int) ≠ 0 by decide)
      omega
    · have := Int.emod_lt_of_pos v (show (0 : Int) < 2305843009213693951 by decide)
      omega

theorem pow7 : (10 : Int) ^ Int.toNat 7 = 10000000 := by decide
theorem atB0 {x y z : Int} : atI (boxD x y z) 0 = some (.int x) := atI_nat (j := 0) rfl
theorem atB1 {x y z : Int} : atI (boxD x y z) 1 = some (.int y) := atI_nat (j := 1) rfl
theorem atB2 {x y z : Int} : atI (boxD x y z) 2 = some (.int z) := atI_nat (j := 2) rfl
theorem ok_take_s {f : Addr} {fd : FuncData} (F : Fun K "_law_take" "_law_take" s_take_l f fd) (B : Bl mg) : FnG P w K mg base CX0 1 f fd ["_law_box_here", "_law_below"] (spW K (T_takeN 10000000 1)) := by
  refine fn_w F sc_take_l (by decide) (fun xs μ R h => ?_) fun cdv A outer s H E hr hgd xs μ R hT => ?_
  · obtain ⟨b, ds, n, m, rfl, _⟩ := h
    rfl
  · obtain ⟨b, ds, n, m, rfl, rfl, hb, h0, h1, hm, hR⟩ := hT
    obtain ⟨x, y, z, rfl, hx, hy, hy2, hz, hz2⟩ := hb
    refine wb_names (N := ["_law_box_here", "_law_below", "_law_found", "_law_once", "_law_twice"]) rfl fun hn => ?_
    have n0 := hn 0 _ rfl
    have n1 := hn 1 _ rfl
    have n2 := hn 2 _ rfl
    have n3 := hn 3 _ rfl
    have n4 := hn 4 _ rfl
    refine wb_cons (ws_if ?_)
    walk_at "t"
    walk_at "go"
    refine ow_ix (.c 0 rfl) atB0 ?_
    walk_at "go"
    refine ⟨_, rfl, ?_⟩
    split
    · refine wb_cons ?_
      refine ws_set 2 sc_take_l.nd n2 (by walk_at "loc") (by first | exact .inl rfl | exact .inr rfl) ?_
      walk_at "go"
      refine ow_ix (.c 0 rfl) atB0 ?_
      walk_at "go"
      refine ow_cnd h0 ?_
      refine wb_cons ?_
      refine ws_asg [] ?_
      walk_at "go"
      refine ow_ix (.c 0 rfl) atB0 ?_
      walk_at "go"
      refine ow_cnd (C := CDiv) (by exact ⟨h0, by omega⟩) ?_
      refine wg_setL ?_
      walk_at "e"
      walk_at "e"
      refine ⟨b, _, 0, 0, rfl, rfl, rfl, (by show 0 < 3; decide), ?_⟩
      refine wb_one (ws_ret ?_)
      walk_at "e"
      exact keep (hR _ _ (Int.emod_nonneg _ (by omega)) (Int.emod_lt_of_pos _ h0) ⟨x / n, y, z, rfl, Int.ediv_nonneg hx (by omega), hy, hy2, hz, by omega⟩)
    · refine wb_nil ?_
      refine wb_cons (ws_if ?_)
      walk_at "t"
      walk_at "go"
      refine ow_cnd (C := CPow) (by exact ⟨by decide, by decide, by decide⟩) ?_
      refine ow_cmp ⟨_, rfl, ?_⟩
      rw [pow7, decide_eq_false (show ¬ ((10000000 : Int) < n) by omega)]
      rw [if_neg (by decide)]
      refine wb_nil ?_
      refine wb_cons ?_
      refine ws_asg [] ?_
      walk_at "go"
      refine ow_ix (.c 0 rfl) atB2 ?_
      walk_at "go"
      refine wg_setL ?_
      walk_at "e"
      walk_at "e"
      refine ⟨b, _, 2, 0, rfl, rfl, rfl, (by show 2 < 3; decide), ?_⟩
      have eb : ((boxD x y z).set 2 (.int (z + 1))) = boxD x y (z + 1) := rfl
      rw [eb]
      refine wb_cons ?_
      refine ws_set 3 sc_take_l.nd n3 (by walk_at "loc") (by first | exact .inl rfl | exact .inr rfl) ?_
      walk_at "go"
      refine ow_ix (.c 0 rfl) atB1 ?_
      walk_at "go"
      refine ow_ix (.c 0 rfl) atB2 ?_
      refine ow_mul (.inl (by decide)) ?_
      walk_at "go"
      refine ow_ix (.c 0 rfl) atB2 ?_
      walk_at "go"
      refine ow_mul (.inr ⟨by omega, by omega⟩) ?_
      walk_at "go"
      refine ow_cnd (by decide) ?_
      generalize ho : (y + 48271 * (z + 1)) * (39373 + (z + 1)) % 2147483647 = once
      refine wb_cons ?_
      refine ws_set 4 sc_take_l.nd n4 (by walk_at "loc") (by first | exact .inl rfl | exact .inr rfl) ?_
      walk_at "go"
      refine ow_ix (.c 0 rfl) atB2 ?_
      walk_at "go"
      refine ow_ix (.c 0 rfl) atB1 ?_
      walk_at "go"
      refine ow_cnd (C := CDiv) (by exact ⟨by decide, by decide⟩) ?_
      walk_at "go"
      refine ow_cnd (by decide) ?_
      walk_at "go"
      have q1 := Int.emod_nonneg once (show (40009 : Int) ≠ 0 by decide)
      have q2 := Int.emod_lt_of_pos once (show (0 : Int) < 40009 by decide)
      refine ow_mul (.inr ⟨by omega, by omega⟩) ?_
      walk_at "go"
      refine ow_cnd (by decide) ?_
      refine wb_one (ws_ret ?_)
      walk_at "go"
      refine ow_mul (.inr (by decide)) ?_
      walk_at "go"
      refine ow_cnd (by decide) ?_
      walk_at "go"
      refine ow_cnd (C := CDiv) (by exact ⟨by decide, by decide⟩) ?_
      walk_at "go"
      refine ow_cnd h0 ?_
      exact keep (hR _ _ (Int.emod_nonneg _ (by omega)) (Int.emod_lt_of_pos _ h0) ⟨x, y, z + 1, rfl, hx, hy, hy2, by omega, by omega⟩)

theorem ok_strewn_l {f : Addr} {fd : FuncData} (F : Fun K "_law_strewn" "_law_strewn" s_strewn_l f fd) (B : Bl mg) (c1 : Cal P w K mg base 1 "_law_take" T_take) : FnG P w K mg base CX0 2 f fd ["_law_box_here", "_law_some"] (spW K T_strewn) := by
  refine fn_w F sc_strewn_l (by decide) (fun xs μ R h => ?_) fun cdv A outer s H E hr hgd xs μ R hT => ?_
  · obtain ⟨b, bs, ds, m, rfl, _⟩ := h
    rfl
  · obtain ⟨b, bs, ds, m, rfl, rfl, hb, hl, hf, hm, hR⟩ := hT
    refine wb_names (N := ["_law_box_here", "_law_some", "_law_left", "_law_found"]) rfl fun hn => ?_
    have n0 := hn 0 _ rfl
    have n1 := hn 1 _ rfl
    have n2 := hn 2 _ rfl
    have n3 := hn 3 _ rfl
    refine wb_cons ?_
    refine ws_par 2 3 rfl sc_strewn_l.nd n2 n3 (by decide) rfl rfl ?_ (by rfl)
    refine we_list B rfl ?_
    walk_at "e"
    refine ⟨_, .l _, fun p1 => ?_⟩
    refine we_lst (wa_nil ⟨[], rfl, by decide, fun p2 => ?_⟩)
    refine wb_cons ?_
    refine ws_while PassesOwn.never (fun k δ' μ' => ∃ left found bs', δ' = [some (.a b), some (.d (.list ds)), some (.a p1), some (.a p2)] ∧ μ' = ([(p2, Cont.l found), (p1, Cont.l left), (b, Cont.l bs')] : Cells) ∧ (found ++ left).Perm ds ∧ left.length = k ∧ BoxOk (m + found.length) bs') ⟨ds.length, ds, [], bs, rfl, rfl, List.Perm.refl _, rfl, hb⟩ ?_
    rintro k δ' μ' ⟨left, found, bs', rfl, rfl, hp, rfl, hb'⟩
    have hfl : ∀ d ∈ left, fits 3 d = true := fun d m => hf d (hp.mem_iff.mp (List.mem_append_right _ m))
    have hlen := hp.length_eq
    rw [List.length_append] at hlen
    refine wt_keep ?_
    walk_at "t"
    walk_at "go"
    refine we_lst (wa_nil ⟨[], rfl, by decide, fun p3 => ?_⟩)
    refine ow_ne (.c 2 rfl (plS_of_fits hfl)) (.c 0 rfl) (shaped_lst' hfl) rfl ⟨_, rfl, keep_drop (keep ?_)⟩
    cases left with
    | nil =>
      refine itF rfl ?_
      refine wb_one (ws_ret ?_)
      walk_at "e"
      rw [List.append_nil] at hp
      rw [List.length_nil, Nat.add_zero] at hlen
      refine keep_perm (List.Perm.swap _ _ _) (keep_drop (keep ?_))
      exact hR p2 found bs' hp (hb'.mono (by omega))
    | cons d0 t0 =>
      generalize hL : d0 :: t0 = left at hp hfl hlen
      have hpos : 0 < left.length := by rw [← hL]; exact Nat.succ_pos _
      refine itT (by rw [← hL]; rfl) ?_
      refine wb_one (ws_expr ?_)
      refine we_append ?_
      walk_at "e"
      refine ⟨p2, _, ⟨0, rfl⟩, rfl, ?_⟩
      refine we_popAt ?_
      walk_at "e"
      refine ⟨.c 1 rfl, ?_⟩
      refine we_callB 2 c1 (by walk_at "room") rfl ?_
      walk_at "go"
      refine we_len B rfl ?_
      walk_at "e"
      refine ⟨_, .c 1 rfl (plS_of_fits hfl), wa_nil ?_⟩
      refine ⟨b, bs', rfl, b, bs', _, _, rfl, rfl, hb', by omega, by omega, by omega, fun r1 bs1 h0 h1 hb1 => ⟨[], bs1, rfl, ?_⟩⟩
      obtain ⟨j, rfl⟩ : ∃ j : Nat, r1 = (j : Int) := ⟨r1.toNat, by omega⟩
      have hj : j < left.length := by omega
      have hmem := List.getElem_mem hj
      refine ⟨p1, left, j, 1, left[j], rfl, rfl, rfl, by omega, List.getElem?_eq_getElem hj, plS_of_fits hfl _ hmem, ?_⟩
      refine ⟨left[j], found, 0, rfl, rfl, by omega, ?_⟩
      refine ⟨left.length - 1, by omega, left.eraseIdx j, found ++ [left[j]], bs1, rfl, rfl, ?_, by rw [List.length_eraseIdx_of_lt hj], ?_⟩
      · refine List.Perm.trans ?_ hp
        rw [List.append_assoc]
        refine List.Perm.append_left found ?_
        exact (perm_erase hj).symm
      · rw [List.length_append, List.length_singleton, ← Nat.add_assoc]
        exact hb1

theorem ok_row_l {f : Addr} {fd : FuncData} (F : Fun K "_law_row" "_law_row" s_row_l f fd) (B : Bl mg) (c_law_strewn : Cal P w K mg base 2 "_law_strewn" T_strewn) : FnG P w K mg base CX0 3 f fd ["_law_box_here", "_law_crowd"] (spW K T_row) := by
  refine fn_w F sc_row_l (by decide) (fun xs μ R h => ?_) fun cdv A outer s H E hr hgd xs μ R hT => ?_
  · obtain ⟨b, bs, c, m, rfl, _⟩ := h
    rfl
  · obtain ⟨b, bs, c, m, rfl, rfl, hb, hl, hm, hR⟩ := hT
    refine wb_names (N := ["_law_box_here", "_law_crowd"]) rfl fun hn => ?_
    have n0 := hn 0 _ rfl
    have n1 := hn 1 _ rfl
    refine wb_one (ws_ret ?_)
    refine we_tuple B rfl ?_
    refine we_callB 0 c_law_strewn (by walk_at "room") rfl ?_
    refine wa_cons ?_
    walk_at "e"
    refine wa_one ?_
    refine we_fz ?_
    refine we_listRg B rfl rfl rfl ?_
    refine we_len B rfl ?_
    walk_at "e"
    refine ⟨_, (.t _), ?_⟩
    rw [List.length_map]
    refine ⟨_, rfl, by walk_at "so", by walk_at "so", ?_⟩
    rw [Int.toNat_natCast, rangeD_eq]
    refine fun p1 => ⟨p1, _, _, rfl, rfl, by walk_at "pl", ?_⟩
    refine ⟨b, bs, rfl, b, bs, intsD (rng c.length), _, rfl, rfl, hb, by rw [List.length_map, rng_len]; omega, fun d hd => ?_, hm, fun q es bs1 hp hb1 => ?_⟩
    · obtain ⟨i, _, rfl⟩ := List.mem_map.mp hd
      unfold fits
      rfl
    obtain ⟨r, rfl, hp1⟩ := perm_ints hp
    refine ⟨[(q, intsD r)], bs1, rfl, _, .c 0 rfl, ?_⟩
    exact keep_drop (keep (hR r bs1 hp1 hb1))

theorem ok_links_l {f : Addr} {fd : FuncData} (F : Fun K "_law_links" "_law_links" s_links_l f fd) (B : Bl mg) (c_law_take : Cal P w K mg base 1 "_law_take" T_take) : FnG P w K mg base CX0 2 f fd ["_law_box_here", "_law_count"] (spW K T_links) := by
  refine fn_w F sc_links_l (by decide) (fun xs μ R h => ?_) fun cdv A outer s H E hr hgd xs μ R hT => ?_
  · obtain ⟨b, bs, n, m, rfl, _⟩ := h
    rfl
  · obtain ⟨b, bs, n, m, rfl, rfl, hb, hn, hm, hR⟩ := hT
    refine wb_names (N := ["_law_box_here", "_law_count", "_law_found", "_law_soul", "_law_others", "_law_its"]) rfl fun hn => ?_
    have n0 := hn 0 _ rfl
    have n1 := hn 1 _ rfl
    have n2 := hn 2 _ rfl
    have n3 := hn 3 _ rfl
    have n4 := hn 4 _ rfl
    have n5 := hn 5 _ rfl
    refine wb_cons ?_
    refine ws_set 2 sc_links_l.nd n2 (by walk_at "loc") (by first | exact .inl rfl | exact .inr rfl) ?_
    refine we_lst ?_
    refine wa_nil ?_
    refine ⟨[], rfl, by simp, fun p1 => ?_⟩
    refine wb_cons ?_
    refine ws_for [3] PassesOwn.never rfl ?_
    refine wi_rng rfl B.range ?_
    walk_at "e"
    refine ⟨n, rfl, by walk_at "so", fun i δ' μ' => ∃ L bsk x3 x4 x5, δ' = [some (.a b), some (.d (.int ((n : Nat) : Int))), some (.a p1), x3, x4, x5] ∧ μ' = ([(p1, (tups L)), (b, Cont.l bsk)] : Cells) ∧ L.length = i ∧ LnP n L ∧ BoxOk (m + 20 * i) bsk, ⟨[], bs, _, _, _, rfl, rfl, rfl, LnP.nil n, hb⟩, fun i d δ' μ' hd hI => ?_, fun δ' μ' hI => ?_⟩
    · obtain ⟨L, bsk, x3, x4, x5, rfl, rfl, hl2, hP, hbk⟩ := hI
      obtain ⟨hi, rfl⟩ := rng_item hd
      have hi2 : i < n := hi
      refine wg_name 3 sc_links_l.nd n3 (by walk_at "loc") (by first | exact .inl rfl | exact .inr rfl) (by decide) ?_
      refine wb_cons ?_
      refine ws_setLc 4 [("_law_its", 5)] rfl sc_links_l.nd n4 rfl (sw_true rfl rfl rfl (by decide +kernel)) (blkOk_by (N := ["_law_box_here", "_law_count", "_law_found", "_law_soul", "_law_others", "_law_its"]) (sc := defScope s_links_l) (by decide +kernel)) (lcP PyData.int (fun x => (!(decide (x = ((i : Nat) : Int))))) (PyData.int) ?_)
      refine wi_rng rfl B.range ?_
      walk_at "e"
      refine ⟨n, rfl, by walk_at "so", (rng n), rfl, by rw [rng_len]; walk_at "so", fun x hx => ?_, fun zq => ?_⟩
      · skip
        intro s1 H1 C kl fp
        refine wg_name 5 sc_links_l.nd n5 (by walk_at "loc") (by first | exact .inl rfl | exact .inr rfl) (by decide) ?_
        intro s1 H1 C kl fp
        show WT _ _ _ _ _
        refine wt_cmp (op := .NotEq) (op_neD (Room.units (k := 0) (by with_unfolding_all exact Room.mono (by assumption) (Nat.zero_le _)))) (nomark _) ?_
        walk_at "e"
        walk_at "e"
        refine ow_ne (.d _) (.d _) rfl rfl ⟨_, rfl, ?_⟩
        rw [eqv_dint]
        refine ⟨rfl, ?_⟩
        split
        · rename_i h1
          intro s1 H1 C kl fp
          walk_at "e"
          exact ⟨rfl, rfl⟩
        · rfl
      refine wb_frz 0 [4] rfl (fun j hj => by cases List.mem_singleton.mp hj; rfl) ?_
      have hxl : ((rng n).filter fun x => !decide (x = (i : Int))).length ≤ 14 := by
        have := List.length_filter_le (fun x => !decide (x = (i : Int))) (rng n)
        rw [rng_len] at this
        omega
      refine wb_cons (ws_expr ?_)
      refine we_append ?_
      walk_at "e"
      refine ⟨p1, _, ⟨0, rfl⟩, rfl, ?_⟩
      refine we_tuple B rfl ?_
      refine we_fz ?_
      refine we_lc [("_law_its", 5)] rfl sc_links_l.nd (blkOk_by (N := ["_law_box_here", "_law_count", "_law_found", "_law_soul", "_law_others", "_law_its"]) (sc := defScope s_links_l) (by decide +kernel)) (lcS ((rng n).filter fun x => !decide (x = (i : Int))) [(p1, Cont.l (tups L))] b (m + 20 * i) 1 (fun y k => k = true → y ≠ (i : Int)) ?_)
      refine wi_seq ?_
      walk_at "e"
      refine ⟨_, .l _, bsk, rfl, rfl, hbk, by omega, fun y hy j bs2 hj hb2 => ?_, fun ns bs2 zq hs g1 g2 hb2 => ?_⟩
      · have hjl : j < 14 := by
          have := (List.length_filter_le (fun x => !decide (x = (i : Int))) (rng n))
          rw [rng_len] at this
          omega
        intro s1 H1 C cl fp
        refine wg_name 5 sc_links_l.nd n5 (by walk_at "loc") (by first | exact .inl rfl | exact .inr rfl) (by decide) ?_
        intro s1 H1 C cl fp
        show WT _ _ _ _ _
        refine wt_cmp (op := .Eq) (op_eqD (Room.units (k := 0) (by with_unfolding_all exact Room.mono (by assumption) (Nat.zero_le _)))) (nomark _) ?_
        refine we_callB 1 c_law_take (by walk_at "room") rfl ?_
        refine wa_cons ?_
        walk_at "e"
        refine wa_one ?_
        refine WE.mono (Q := fun z μ1 => ∃ k : Int, z = .d (.int k) ∧ 6 ≤ k ∧ k ≤ 30 ∧ μ1 = ([(p1, Cont.l (tups L)), (b, Cont.l bs2)] : Cells)) ?_ ?_
        · refine we_if ?_
          refine wt_cmp (op := .Lt) op_lt (nomark _) ?_
          walk_at "e"
          walk_at "e"
          refine ow_cmp ⟨_, rfl, ?_⟩
          split
          · walk_at "e"
            exact ⟨6, rfl, by decide, by decide, rfl⟩
          · walk_at "e"
            exact ⟨30, rfl, by decide, by decide, rfl⟩
        · rintro _ _ ⟨k, rfl, hk1, hk2, rfl⟩
          refine ⟨b, bs2, rfl, b, bs2, k, _, rfl, rfl, hb2, by omega, by omega, by omega, fun r2 bs3 _ _ hb3 => ⟨[], bs3, rfl, ?_⟩⟩
          walk_at "e"
          refine ow_eq (.d _) (.d _) rfl rfl ⟨_, rfl, ?_⟩
          exact ⟨bs3, rfl, hb3.mono (by omega), fun _ => by simpa using (List.mem_filter.mp hy).2, fun _ s1 H1 C cl fp => by
            walk_at "e"
            exact ⟨rfl, rfl⟩⟩
      refine ⟨zq, _, _, rfl, rfl, by walk_at "pl", ?_⟩
      refine ⟨_, (.l _), ?_⟩
      refine ⟨_, _, 0, rfl, rfl, by walk_at "so", ?_⟩
      refine wb_nil ?_
      exact ⟨L ++ [ns], bs2, _, _, _, rfl, by unfold tups; rw [List.map_append]; rfl, by rw [List.length_append, hl2]; rfl, hP.add (hs.trans List.filter_sublist) (by rw [hl2]; exact fun z => g1 _ z rfl rfl), hb2.mono (by omega)⟩
    · rw [rng_items _] at hI
      obtain ⟨L, bsk, x3, x4, x5, rfl, rfl, hl2, hP, hbk⟩ := hI
      refine wb_one (ws_ret ?_)
      walk_at "e"
      exact (keep (hR _ _ _ (hP.done hl2) (hbk.mono (by omega))))

theorem ok_ringed_l {f : Addr} {fd : FuncData} (F : Fun K "_law_ringed" "_law_ringed" s_ringed_l f fd) (B : Bl mg) : FnG P w K mg base CX0 2 f fd ["_law_links_here"] (spW K T_ringed) := by
  refine fn_w F sc_ringed_l (by decide) (fun xs μ R h => ?_) fun cdv A outer s H E hr hgd xs μ R hT => ?_
  · obtain ⟨n, L, rfl, _⟩ := h
    rfl
  · obtain ⟨n, L, rfl, hL, hn, hR⟩ := hT
    refine wb_names (N := ["_law_links_here", "_law_left", "_law_turn", "_law_soul", "_law_pal"]) rfl fun hn => ?_
    have n0 := hn 0 _ rfl
    have n1 := hn 1 _ rfl
    have n2 := hn 2 _ rfl
    have n3 := hn 3 _ rfl
    have n4 := hn 4 _ rfl
    obtain rfl : L.length = n := hL.len
    have hcl := stC_len L
    refine wb_cons ?_
    refine ws_set 1 sc_ringed_l.nd n1 (by walk_at "loc") (by first | exact .inl rfl | exact .inr rfl) ?_
    refine we_fz ?_
    refine we_listRg B rfl rfl rfl ?_
    refine we_len B rfl ?_
    walk_at "e"
    refine ⟨_, (.l _), ?_⟩
    rw [List.length_map]
    refine ⟨_, rfl, by walk_at "so", by walk_at "so", ?_⟩
    rw [Int.toNat_natCast, rangeD_eq]
    refine fun p1 => ⟨p1, _, _, rfl, rfl, by walk_at "pl", ?_⟩
    rw [show rng L.length = lft (stC L) 0 by rw [lft_zero, hcl]]
    refine wb_cons ?_
    refine ws_for [2] PassesOwn.never rfl ?_
    refine wi_rng rfl B.range ?_
    refine we_len B rfl ?_
    walk_at "e"
    refine ⟨_, (.l _), ?_⟩
    rw [List.length_map]
    refine ⟨L.length, rfl, by walk_at "so", fun i δ' μ' => ∃ x2 x3 x4, δ' = [some (.d (.list (tups L))), some (.d (.list (intsD (lft (stC L) i)))), x2, x3, x4] ∧ μ' = μ ∧ True, ⟨_, _, _, rfl, rfl, trivial⟩, fun i d δ' μ' hd hI => ?_, fun δ' μ' hI => ?_⟩
    · obtain ⟨x2, x3, x4, rfl, hmu, _⟩ := hI
      obtain rfl := hmu.symm
      obtain ⟨hi, rfl⟩ := rng_item hd
      have hll : (lft (stC L) i).length ≤ L.length := by
        have : (lft (stC L) i).length ≤ (rng (stC L).length).length := List.length_filter_le _ _
        rw [rng_len] at this
        omega
      refine wg_name 2 sc_ringed_l.nd n2 (by walk_at "loc") (by first | exact .inl rfl | exact .inr rfl) (by decide) ?_
      refine wb_cons ?_
      refine ws_set 1 sc_ringed_l.nd n1 (by walk_at "loc") (by first | exact .inl rfl | exact .inr rfl) ?_
      refine we_fz ?_
      refine we_lc [("_law_soul", 3)] rfl sc_ringed_l.nd (blkOk_by (N := ["_law_links_here", "_law_left", "_law_turn", "_law_soul", "_law_pal"]) (sc := defScope s_ringed_l) (by decide +kernel)) (lcP PyData.int (fun x => (!(decide (((lkr L x).filter (fun y => (decide (y ∈ (lft (stC L) i))))) = [])))) (PyData.int) ?_)
      refine wi_seq ?_
      walk_at "e"
      refine ⟨_, (.l _), (lft (stC L) i), rfl, by omega, fun x hx => ?_, fun zq => ?_⟩
      · have hxr : 0 ≤ x ∧ x < L.length := by
          have := mem_rng.mp (List.mem_filter.mp hx).1
          rwa [hcl] at this
        have hrl := hL.few _ (hL.row hxr.1 hxr.2).2
        intro s1 H1 C kl fp
        refine wg_name 3 sc_ringed_l.nd n3 (by walk_at "loc") (by first | exact .inl rfl | exact .inr rfl) (by decide) ?_
        intro s1 H1 C kl fp
        show WT _ _ _ _ _
        refine wt_cmp (op := .NotEq) (op_neD (Room.units (k := 0) (by with_unfolding_all exact Room.mono (by assumption) (Nat.zero_le _)))) (nomark _) ?_
        refine we_fz ?_
        refine we_lc [("_law_pal", 4)] rfl sc_ringed_l.nd (by with_unfolding_all exact blkOk_by (N := ["_law_links_here", "_law_left", "_law_turn", "_law_soul", "_law_pal"]) rfl) (lcP PyData.int (fun y => (decide (y ∈ (lft (stC L) i)))) (PyData.int) ?_)
        refine wi_seq ?_
        walk_at "e"
        walk_at "e"
        walk_at "e"
        refine ow_ix (.l _) (lk_at hL hxr.1 hxr.2) ?_
        refine ⟨_, (.t _), (lkr L x), rfl, by omega, fun y hx => ?_, fun zq => ?_⟩
        · skip
          intro s1 H1 C kl fp
          refine wg_name 4 sc_ringed_l.nd n4 (by walk_at "loc") (by first | exact .inl rfl | exact .inr rfl) (by decide) ?_
          intro s1 H1 C kl fp
          show WT _ _ _ _ _
          refine wt_cmp (op := .In) op_in_seq (by walk_at "rfl") ?_
          walk_at "e"
          walk_at "e"
          refine ow_in (.l _) rfl (flat_ints _) ⟨_, rfl, ?_⟩
          rw [inD_int]
          refine ⟨rfl, ?_⟩
          split
          · rename_i h1
            intro s1 H1 C kl fp
            walk_at "e"
            exact ⟨rfl, rfl⟩
          · rfl
        refine ⟨zq, _, _, rfl, rfl, by walk_at "pl", ?_⟩
        refine we_fz ?_
        refine we_lst ?_
        refine wa_nil ?_
        refine ⟨[], rfl, by simp, fun p2 => ⟨p2, _, _, rfl, rfl, by walk_at "pl", ?_⟩⟩
        refine ow_ne (.d _) (.d _) (shaped_lst _) (shaped_lst []) ⟨_, rfl, ?_⟩
        rw [show PyData.eqv (.list (intsD ((lkr L x).filter (fun y => (decide (y ∈ (lft (stC L) i))))))) (.list []) = decide (((lkr L x).filter (fun y => (decide (y ∈ (lft (stC L) i))))) = []) from eqv_lst ((lkr L x).filter (fun y => (decide (y ∈ (lft (stC L) i))))) ([])]
        refine ⟨rfl, ?_⟩
        split
        · rename_i h1
          intro s1 H1 C kl fp
          walk_at "e"
          exact ⟨rfl, rfl⟩
        · rfl
      rw [lft_step hL i]
      refine ⟨zq, _, _, rfl, rfl, by walk_at "pl", ?_⟩
      refine wb_nil ?_
      exact ⟨_, _, _, rfl, rfl, trivial⟩
    · rw [rng_items _] at hI
      obtain ⟨x2, x3, x4, rfl, hmu, _⟩ := hI
      obtain rfl := hmu.symm
      rw [← hcl, lft_all]
      refine wb_one (ws_ret ?_)
      walk_at "e"
      exact keep hR

theorem ok_depth_l {f : Addr} {fd : FuncData} (F : Fun K "_law_depth" "_law_depth" s_depth_l f fd) (B : Bl mg) : FnG P w K mg base CX0 3 f fd ["_law_links_here", "_law_ends"] (spW K T_depth) := by
  refine fn_w F sc_depth_l (by decide) (fun xs μ R h => ?_) fun cdv A outer s H E hr hgd xs μ R hT => ?_
  · obtain ⟨n, L, E, rfl, _⟩ := h
    rfl
  · obtain ⟨n, L, E, rfl, hL, hE, hn, hR⟩ := hT
    refine wb_names (N := ["_law_links_here", "_law_ends", "_law_found", "_law_layer", "_law_far", "_law_rest", "_law_soul", "_law_pal"]) rfl fun hn => ?_
    have n0 := hn 0 _ rfl
    have n1 := hn 1 _ rfl
    have n2 := hn 2 _ rfl
    have n3 := hn 3 _ rfl
    have n4 := hn 4 _ rfl
    have n5 := hn 5 _ rfl
    have n6 := hn 6 _ rfl
    have n7 := hn 7 _ rfl
    obtain rfl : L.length = n := hL.len
    have hcl := loC_len L E
    have hel : E.length ≤ L.length := by
      have := nodup_le (as := E) (bs := rng L.length) (hE.up.imp fun {a b} z => by omega) (rng_nodup _) fun x m => mem_rng.mpr (hE.rg x m)
      rwa [rng_len] at this
    have hrl := rounds_le (loC L E)
    have lay0 : (AR (loC L E) [] []).getD 0 [] = E := by rw [← Ec.lay_next, sof_zero, lo_first hL hE]
    refine wb_cons ?_
    refine ws_tups [2, 3, 4] rfl ?_
    refine wa_cons ?_
    refine we_dictP B rfl rfl ?_
    refine we_fz ?_
    refine we_lc [("_law_soul", 6)] rfl sc_depth_l.nd (blkOk_by (N := ["_law_links_here", "_law_ends", "_law_found", "_law_layer", "_law_far", "_law_rest", "_law_soul", "_law_pal"]) (sc := defScope s_depth_l) (by decide +kernel)) (lcP PyData.int (fun _ => true) (fun y => .tuple [.int y, .int 0]) ?_)
    refine wi_seq ?_
    walk_at "e"
    refine ⟨_, (.l _), E, rfl, by omega, fun y hx => ?_, fun zq => ?_⟩
    · skip
      intro s1 H1 C kl fp
      refine wg_name 6 sc_depth_l.nd n6 (by walk_at "loc") (by first | exact .inl rfl | exact .inr rfl) (by decide) ?_
      intro s1 H1 C kl fp
      refine wts_nil ⟨rfl, itT rfl ?_⟩
      intro s1 H1 C kl fp
      refine we_tup ?_
      refine wa_cons ?_
      walk_at "e"
      refine wa_one ?_
      walk_at "e"
      refine ⟨intsD [y, 0], rfl, by simp, ?_⟩
      exact ⟨rfl, rfl⟩
    rw [filt_all]
    refine ⟨zq, _, _, rfl, rfl, by walk_at "pl", ?_⟩
    refine ⟨(E.map (fun y => (y, .int 0))), by rw [List.map_map]; rfl, fun p1 => ?_⟩
    refine wa_cons ?_
    refine we_list B rfl ?_
    walk_at "e"
    refine ⟨_, (.l _), fun p2 => ?_⟩
    refine wa_one ?_
    walk_at "e"
    refine ⟨rfl, by decide, ?_⟩
    refine wgs_cons (wg_name 2 sc_depth_l.nd n2 (by walk_at "loc") (by first | exact .inl rfl | exact .inr rfl) (by decide) ?_)
    refine wgs_cons (wg_name 3 sc_depth_l.nd n3 (by walk_at "loc") (by first | exact .inl rfl | exact .inr rfl) (by decide) ?_)
    refine wgs_cons (wg_name 4 sc_depth_l.nd n4 (by walk_at "loc") (by first | exact .inl rfl | exact .inr rfl) (by decide) ?_)
    refine wgs_nil ?_
    refine wb_frz 0 [3] rfl (fun j hj => by cases List.mem_singleton.mp hj; rfl) ?_
    refine wb_cons ?_
    refine ws_while PassesOwn.never (fun m δ' μ' => ∃ k kvs x5, δ' = [some (.d (.list (tups L))), some (.d (.list (intsD E))), some (.a p1), some (.d (.list (intsD ((AR (loC L E) [] []).getD k [])))), some (.d (.int (k : Int))), x5, none, none] ∧ μ' = ((p1, Cont.i kvs) :: μ : Cells) ∧ RdM (loC L E) (k + 1) kvs ∧ m = 20 - k ∧ k ≤ 15) ⟨_, 0, _, _, by rw [lay0]; rfl, rfl, RdM.start hL hE, rfl, by omega⟩ ?_
    rintro m δ' μ' ⟨k, kvs, x5, rfl, rfl, hRd, rfl, hk⟩
    have hfew := hRd.few
    rw [hcl] at hfew
    have hnd := (show Rd _ _ kvs from hRd).nd
    refine wt_cmp (op := .NotEq) (op_neD (Room.units (k := 0) (by with_unfolding_all exact Room.mono (by assumption) (Nat.zero_le _)))) (nomark _) ?_
    walk_at "e"
    refine we_fz ?_
    refine we_lst ?_
    refine wa_nil ?_
    refine ⟨[], rfl, by simp, fun p3 => ⟨p3, _, _, rfl, rfl, by walk_at "pl", ?_⟩⟩
    refine ow_ne (.d _) (.d _) (shaped_lst _) (shaped_lst []) ⟨_, rfl, ?_⟩
    rw [show PyData.eqv (.list (intsD ((AR (loC L E) [] []).getD k []))) (.list []) = decide (((AR (loC L E) [] []).getD k []) = []) from eqv_lst ((AR (loC L E) [] []).getD k []) ([])]
    by_cases hY : ((AR (loC L E) [] []).getD k []) = []
    · refine itF (by rw [decide_eq_true hY]; rfl) ?_
      refine wb_one (ws_ret ?_)
      walk_at "e"
      exact keep (hR _ _ (hRd.done hY))
    · refine itT (by rw [decide_eq_false hY]; rfl) ?_
      have hlt := lay_some hY
      have hll : ((AR (loC L E) [] []).getD (k + 1) []).length ≤ L.length := by
        rw [← Ec.lay_next, ← hcl]
        exact nexts_le9 _ _
      refine wb_cons ?_
      refine ws_set 4 sc_depth_l.nd n4 (by walk_at "loc") (by first | exact .inl rfl | exact .inr rfl) ?_
      walk_at "e"
      walk_at "e"
      walk_at "e"
      refine ow_add ?_
      refine wb_cons ?_
      refine ws_setLc 5 [("_law_soul", 6)] rfl sc_depth_l.nd n5 rfl (sw_true rfl rfl rfl (by decide +kernel)) (blkOk_by (N := ["_law_links_here", "_law_ends", "_law_found", "_law_layer", "_law_far", "_law_rest", "_law_soul", "_law_pal"]) (sc := defScope s_depth_l) (by decide +kernel)) (lcP PyData.int (fun x => (!(decide (x ∈ sof (loC L E) (k + 1))))) (PyData.int) ?_)
      refine wi_rng rfl B.range ?_
      refine we_len B rfl ?_
      walk_at "e"
      refine ⟨_, (.l _), ?_⟩
      rw [List.length_map]
      refine ⟨L.length, rfl, by walk_at "so", (rng L.length), rfl, by rw [rng_len]; walk_at "so", fun x hx => ?_, fun zq => ?_⟩
      · skip
        intro s1 H1 C kl fp
        refine wg_name 6 sc_depth_l.nd n6 (by walk_at "loc") (by first | exact .inl rfl | exact .inr rfl) (by decide) ?_
        intro s1 H1 C kl fp
        show WT _ _ _ _ _
        refine wt_cmp (op := .NotIn) (op_niI (Nat.lt_of_le_of_lt (Nat.add_le_add_left (by decide : 1 ≤ 65) _) (room65 (k := 0) (by with_unfolding_all exact Room.mono (by assumption) (Nat.zero_le _))))) (by walk_at "rfl") ?_
        walk_at "e"
        walk_at "e"
        refine ow_inI (.c 0 rfl) ⟨_, rfl, ?_⟩
        rw [hRd.inN]
        refine ⟨rfl, ?_⟩
        split
        · rename_i h1
          intro s1 H1 C kl fp
          walk_at "e"
          exact ⟨rfl, rfl⟩
        · rfl
      refine wb_frz 0 [5] rfl (fun j hj => by cases List.mem_singleton.mp hj; rfl) ?_
      refine wb_cons ?_
      refine ws_setLc 3 [("_law_soul", 6)] rfl sc_depth_l.nd n3 rfl (sw_true rfl rfl rfl (by decide +kernel)) (blkOk_by (N := ["_law_links_here", "_law_ends", "_law_found", "_law_layer", "_law_far", "_law_rest", "_law_soul", "_law_pal"]) (sc := defScope s_depth_l) (by decide +kernel)) (lcP PyData.int (fun x => (!(decide (((lkr L x).filter (fun y => (decide (y ∈ sof (loC L E) (k + 1))))) = [])))) (PyData.int) ?_)
      refine wi_seq ?_
      walk_at "e"
      refine ⟨_, (.l _), ((rng L.length).filter (fun x => (!(decide (x ∈ sof (loC L E) (k + 1)))))), rfl, by have := List.length_filter_le (fun x => !decide (x ∈ sof (loC L E) (k + 1))) (rng L.length); rw [rng_len] at this; omega, fun x hx => ?_, fun zq => ?_⟩
      · have hxr := mem_rng.mp (List.mem_filter.mp hx).1
        have hrw := hL.few _ (hL.row hxr.1 hxr.2).2
        intro s1 H1 C kl fp
        refine wg_name 6 sc_depth_l.nd n6 (by walk_at "loc") (by first | exact .inl rfl | exact .inr rfl) (by decide) ?_
        intro s1 H1 C kl fp
        show WT _ _ _ _ _
        refine wt_cmp (op := .NotEq) (op_neD (Room.units (k := 0) (by with_unfolding_all exact Room.mono (by assumption) (Nat.zero_le _)))) (nomark _) ?_
        refine we_fz ?_
        refine we_lc [("_law_pal", 7)] rfl sc_depth_l.nd (by with_unfolding_all exact blkOk_by (N := ["_law_links_here", "_law_ends", "_law_found", "_law_layer", "_law_far", "_law_rest", "_law_soul", "_law_pal"]) rfl) (lcP PyData.int (fun y => (decide (y ∈ sof (loC L E) (k + 1)))) (PyData.int) ?_)
        refine wi_seq ?_
        walk_at "e"
        walk_at "e"
        walk_at "e"
        refine ow_ix (.l _) (lk_at hL hxr.1 hxr.2) ?_
        refine ⟨_, (.t _), (lkr L x), rfl, by omega, fun y hx => ?_, fun zq => ?_⟩
        · skip
          intro s1 H1 C kl fp
          refine wg_name 7 sc_depth_l.nd n7 (by walk_at "loc") (by first | exact .inl rfl | exact .inr rfl) (by decide) ?_
          intro s1 H1 C kl fp
          show WT _ _ _ _ _
          refine wt_cmp (op := .In) (op_inI (Nat.lt_of_le_of_lt (Nat.add_le_add_left (by decide : 1 ≤ 65) _) (room65 (k := 0) (by with_unfolding_all exact Room.mono (by assumption) (Nat.zero_le _))))) (by walk_at "rfl") ?_
          walk_at "e"
          walk_at "e"
          refine ow_inI (.c 0 rfl) ⟨_, rfl, ?_⟩
          rw [hRd.inY]
          refine ⟨rfl, ?_⟩
          split
          · rename_i h1
            intro s1 H1 C kl fp
            walk_at "e"
            exact ⟨rfl, rfl⟩
          · rfl
        refine ⟨zq, _, _, rfl, rfl, by walk_at "pl", ?_⟩
        refine we_fz ?_
        refine we_lst ?_
        refine wa_nil ?_
        refine ⟨[], rfl, by simp, fun p4 => ⟨p4, _, _, rfl, rfl, by walk_at "pl", ?_⟩⟩
        refine ow_ne (.d _) (.d _) (shaped_lst _) (shaped_lst []) ⟨_, rfl, ?_⟩
        rw [show PyData.eqv (.list (intsD ((lkr L x).filter (fun y => (decide (y ∈ sof (loC L E) (k + 1))))))) (.list []) = decide (((lkr L x).filter (fun y => (decide (y ∈ sof (loC L E) (k + 1))))) = []) from eqv_lst ((lkr L x).filter (fun y => (decide (y ∈ sof (loC L E) (k + 1))))) ([])]
        refine ⟨rfl, ?_⟩
        split
        · rename_i h1
          intro s1 H1 C kl fp
          walk_at "e"
          exact ⟨rfl, rfl⟩
        · rfl
      rw [lay_step hL hE k]
      refine wb_frz 0 [3] rfl (fun j hj => by cases List.mem_singleton.mp hj; rfl) ?_
      refine wb_one (ws_expr ?_)
      refine we_update rfl ?_
      walk_at "e"
      refine ⟨⟨p1, _, 0, rfl, rfl⟩, ?_⟩
      refine we_fz ?_
      refine we_lc [("_law_soul", 6)] rfl sc_depth_l.nd (blkOk_by (N := ["_law_links_here", "_law_ends", "_law_found", "_law_layer", "_law_far", "_law_rest", "_law_soul", "_law_pal"]) (sc := defScope s_depth_l) (by decide +kernel)) (lcP PyData.int (fun _ => true) (fun y => .tuple [.int y, .int ((k : Int) + 1)]) ?_)
      refine wi_seq ?_
      walk_at "e"
      refine ⟨_, (.l _), ((AR (loC L E) [] []).getD (k + 1) []), rfl, by omega, fun y hx => ?_, fun zq => ?_⟩
      · skip
        intro s1 H1 C kl fp
        refine wg_name 6 sc_depth_l.nd n6 (by walk_at "loc") (by first | exact .inl rfl | exact .inr rfl) (by decide) ?_
        intro s1 H1 C kl fp
        refine wts_nil ⟨rfl, itT rfl ?_⟩
        intro s1 H1 C kl fp
        refine we_tup ?_
        refine wa_cons ?_
        walk_at "e"
        refine wa_one ?_
        walk_at "e"
        refine ⟨intsD [y, ((k : Int) + 1)], rfl, by simp, ?_⟩
        exact ⟨rfl, rfl⟩
      rw [filt_all]
      refine ⟨zq, _, _, rfl, rfl, by walk_at "pl", ?_⟩
      refine ⟨p1, kvs, ((AR (loC L E) [] []).getD (k + 1) []).map (fun y => (y, .int ((k : Int) + 1))), 0, rfl, rfl, by rw [List.map_map]; rfl, hnd, by rw [List.length_map]; omega, ?_⟩
      exact ⟨20 - (k + 1), by omega, k + 1, _, _, rfl, rfl, hRd.step, rfl, by omega⟩

theorem ok_right_l {f : Addr} {fd : FuncData} (F : Fun K "_law_right" "_law_right" s_right_l f fd) (B : Bl mg) (c_law_links : Cal P w K mg base 2 "_law_links" T_links) (c_law_take : Cal P w K mg base 1 "_law_take" T_take) (c_law_strewn : Cal P w K mg base 2 "_law_strewn" T_strewn) (c_never : Cal P w K mg base 7 "never" T_never) (c_law_ringed : Cal P w K mg base 2 "_law_ringed" T_ringed) (c_law_row : Cal P w K mg base 3 "_law_row" T_row) (c_misfit : Cal P w K mg base 3 "misfit" T_misfit) (c_is_order : Cal P w K mg base 4 "is_order" T_isord) (c_law_depth : Cal P w K mg base 3 "_law_depth" T_depth) (c_greatest : Cal P w K mg base 6 "greatest" T_great) (c_rounds : Cal P w K mg base 5 "rounds" T_rnds) : FnG P w K mg base CX0 13 f fd ["_law_box_here"] (spW K (T_right 60000)) := by
  refine fn_w F sc_right_l (by decide) (fun xs μ R h => ?_) fun cdv A outer s H E hr hgd xs μ R hT => ?_
  · obtain ⟨b, bs, m, rfl, _⟩ := h
    rfl
  · obtain ⟨b, bs, m, rfl, rfl, hb, hm, hR⟩ := hT
    refine wb_names (N := ["_law_box_here", "_law_links_here", "_law_names", "_law_strict", "_law_turn", "_law_queue", "_law_wrong", "_law_ends", "_law_loose", "_law_far", "_law_depths", "_law_soul", "_law_pals", "_law_at", "_law_k", "_law_pal"]) rfl fun hn => ?_
    have n0 := hn 0 _ rfl
    have n1 := hn 1 _ rfl
    have n2 := hn 2 _ rfl
    have n3 := hn 3 _ rfl
    have n4 := hn 4 _ rfl
    have n5 := hn 5 _ rfl
    have n6 := hn 6 _ rfl
    have n7 := hn 7 _ rfl
    have n8 := hn 8 _ rfl
    have n9 := hn 9 _ rfl
    have n10 := hn 10 _ rfl
    have n11 := hn 11 _ rfl
    have n12 := hn 12 _ rfl
    have n13 := hn 13 _ rfl
    have n14 := hn 14 _ rfl
    have n15 := hn 15 _ rfl
    refine wb_cons ?_
    refine ws_set 1 sc_right_l.nd n1 (by walk_at "loc") (by first | exact .inl rfl | exact .inr rfl) ?_
    refine we_fz ?_
    refine we_callB 0 c_law_links (by walk_at "room") rfl ?_
    refine wa_cons ?_
    walk_at "e"
    refine wa_one ?_
    refine we_callB 0 c_law_take (by walk_at "room") rfl ?_
    refine wa_cons ?_
    walk_at "e"
    refine wa_one ?_
    walk_at "e"
    refine ⟨b, bs, rfl, b, bs, 15, _, rfl, rfl, hb, by omega, by omega, by omega, fun v bs1 v0 v1 hb1 => ⟨[], bs1, rfl, ?_⟩⟩
    obtain ⟨n, hn0⟩ : ∃ n : Nat, v = n := ⟨v.toNat, by omega⟩
    refine ⟨b, bs1, rfl, b, bs1, n, _, by rw [hn0], rfl, hb1, by omega, by omega, fun q1 L bs2 hL hb2 => ⟨[(q1, tups L)], bs2, rfl, ?_⟩⟩
    refine ⟨q1, _, _, rfl, rfl, by walk_at "pl", ?_⟩
    obtain rfl : L.length = n := hL.len
    have hlen : L.length ≤ 14 := by omega
    clear hn0
    refine wb_cons ?_
    refine ws_set 2 sc_right_l.nd n2 (by walk_at "loc") (by first | exact .inl rfl | exact .inr rfl) ?_
    refine we_fz ?_
    refine we_callB 0 c_law_strewn (by walk_at "room") rfl ?_
    refine wa_cons ?_
    walk_at "e"
    refine wa_one ?_
    refine we_fz ?_
    refine we_listRg B rfl rfl rfl ?_
    refine we_len B rfl ?_
    walk_at "e"
    refine ⟨_, (.l _), ?_⟩
    rw [List.length_map]
    refine ⟨_, rfl, by walk_at "so", by walk_at "so", ?_⟩
    rw [Int.toNat_natCast, rangeD_eq]
    refine fun p1 => ⟨p1, _, _, rfl, rfl, by walk_at "pl", ?_⟩
    refine ⟨b, bs2, rfl, b, bs2, intsD (rng L.length), _, rfl, rfl, hb2, by rw [List.length_map, rng_len]; omega, (fun d hd => by obtain ⟨i, _, rfl⟩ := List.mem_map.mp hd; unfold fits; rfl), by omega, fun ps es bs3 hep hb3 => ?_⟩
    obtain ⟨S, rfl, hS⟩ := perm_ints hep
    refine ⟨[(ps, intsD S)], bs3, rfl, ?_⟩
    refine ⟨ps, _, _, rfl, rfl, by walk_at "pl", ?_⟩
    have hSl : S.length = L.length := Rn.len hS
    have hL2 := rnL_ok hS hL
    have hll := hL2.len
    refine wb_cons ?_
    refine ws_set 1 sc_right_l.nd n1 (by walk_at "loc") (by first | exact .inl rfl | exact .inr rfl) ?_
    refine we_fz ?_
    refine we_lc [("_law_soul", 11)] rfl sc_right_l.nd (blkOk_by (N := ["_law_box_here", "_law_links_here", "_law_names", "_law_strict", "_law_turn", "_law_queue", "_law_wrong", "_law_ends", "_law_loose", "_law_far", "_law_depths", "_law_soul", "_law_pals", "_law_at", "_law_k", "_law_pal"]) (sc := defScope s_right_l) (by decide +kernel)) (lcP PyData.int (fun _ => true) (fun x => .tuple (intsD (rens S (lkr L ((posn x S : Nat) : Int))))) ?_)
    refine wi_rng rfl B.range ?_
    refine we_len B rfl ?_
    walk_at "e"
    refine ⟨_, (.l _), ?_⟩
    rw [List.length_map]
    refine ⟨L.length, rfl, by walk_at "so", (rng L.length), rfl, by rw [rng_len]; walk_at "so", fun x hx => ?_, fun zq => ?_⟩
    · have hxr := mem_rng.mp hx
      obtain ⟨hps1, hps2⟩ := posn_ren' hS hxr.1 hxr.2
      have hrow := hL.row (p := ((posn x S : Nat) : Int)) (by omega) (by omega)
      have hrl := hL.few _ hrow.2
      intro s1 H1 C kl fp
      refine wg_name 11 sc_right_l.nd n11 (by walk_at "loc") (by first | exact .inl rfl | exact .inr rfl) (by decide) ?_
      intro s1 H1 C kl fp
      refine wts_nil ⟨rfl, itT rfl ?_⟩
      intro s1 H1 C kl fp
      refine we_tuple B rfl ?_
      refine we_fz ?_
      refine we_sorted B rfl ?_
      refine we_fz ?_
      refine we_lc [("_law_pal", 15)] rfl sc_right_l.nd (by with_unfolding_all exact blkOk_by (N := ["_law_box_here", "_law_links_here", "_law_names", "_law_strict", "_law_turn", "_law_queue", "_law_wrong", "_law_ends", "_law_loose", "_law_far", "_law_depths", "_law_soul", "_law_pals", "_law_at", "_law_k", "_law_pal"]) rfl) (lcP PyData.int (fun _ => true) (fun y => .int (ren S y)) ?_)
      refine wi_seq ?_
      walk_at "e"
      walk_at "e"
      refine we_index ?_
      walk_at "e"
      refine ⟨by walk_at "lk", ?_⟩
      walk_at "e"
      refine ⟨_, _, (.l _), (fun _ z => by cases z), rfl, hS.mem_iff.mpr hx, ?_⟩
      refine ow_ix (.l _) (lk_at hL (by omega) (by omega)) ?_
      refine ⟨_, (.t _), (lkr L ((posn x S : Nat) : Int)), rfl, by omega, fun y hx => ?_, fun zq => ?_⟩
      · have hyr := hL.rg _ hrow.2 y hx
        intro s1 H1 C kl fp
        refine wg_name 15 sc_right_l.nd n15 (by walk_at "loc") (by first | exact .inl rfl | exact .inr rfl) (by decide) ?_
        intro s1 H1 C kl fp
        refine wts_nil ⟨rfl, itT rfl ?_⟩
        intro s1 H1 C kl fp
        walk_at "e"
        walk_at "e"
        walk_at "e"
        refine ow_ix (.l _) (atI_ren (by omega) (by omega)) ?_
        exact ⟨rfl, rfl⟩
      rw [filt_all]
      rw [show ((lkr L ((posn x S : Nat) : Int)).map fun y : Int => PyData.int (ren S y)) = intsD ((lkr L ((posn x S : Nat) : Int)).map (ren S)) from List.map_map.symm]
      refine ⟨zq, _, _, rfl, rfl, by walk_at "pl", ?_⟩
      refine ⟨_, (.l _), (fun _ z => by cases z), by walk_at "so", fun p2 => ⟨p2, _, _, rfl, rfl, by walk_at "pl", ?_⟩⟩
      refine ⟨_, (.l _), ?_⟩
      exact ⟨rfl, rfl⟩
    rw [filt_all]
    rw [show ((rng L.length).map fun x : Int => PyData.tuple (intsD (rens S (lkr L ((posn x S : Nat) : Int))))) = tups (rnL L.length S L) from by unfold tups rnL; rw [List.map_map]; rfl]
    refine ⟨zq, _, _, rfl, rfl, by walk_at "pl", ?_⟩
    refine wb_cons ?_
    refine ws_set 3 sc_right_l.nd n3 (by walk_at "loc") (by first | exact .inl rfl | exact .inr rfl) ?_
    refine we_tuple B rfl ?_
    refine we_fz ?_
    refine we_lc [("_law_pals", 12)] rfl sc_right_l.nd (blkOk_by (N := ["_law_box_here", "_law_links_here", "_law_names", "_law_strict", "_law_turn", "_law_queue", "_law_wrong", "_law_ends", "_law_loose", "_law_far", "_law_depths", "_law_soul", "_law_pals", "_law_at", "_law_k", "_law_pal"]) (sc := defScope s_right_l) (by decide +kernel)) (lcP (fun r : List Int => PyData.tuple (intsD r)) (fun _ => true) (fun r => enD (r, ((r.length : Nat) : Int))) ?_)
    refine wi_seq ?_
    walk_at "e"
    refine ⟨_, (.l _), (rnL L.length S L), rfl, by omega, fun r hx => ?_, fun zq => ?_⟩
    · have hrl := hL2.few r hx
      intro s1 H1 C kl fp
      refine wg_name 12 sc_right_l.nd n12 (by walk_at "loc") (by first | exact .inl rfl | exact .inr rfl) (by decide) ?_
      intro s1 H1 C kl fp
      refine wts_nil ⟨rfl, itT rfl ?_⟩
      intro s1 H1 C kl fp
      refine we_tup ?_
      refine wa_cons ?_
      walk_at "e"
      refine wa_one ?_
      refine we_len B rfl ?_
      walk_at "e"
      refine ⟨_, (.t _), ?_⟩
      rw [List.length_map]
      refine ⟨[(.tuple (intsD r)), (.int ((r.length : Nat) : Int))], rfl, by simp, ?_⟩
      exact ⟨rfl, rfl⟩
    rw [filt_all]
    rw [st_enD]
    refine ⟨zq, _, _, rfl, rfl, by walk_at "pl", ?_⟩
    refine ⟨_, (.l _), ?_⟩
    have hsl : (stC (rnL L.length S L)).length = L.length := (stC_len _).trans hll
    have hsw := stC_cow hL2 (by omega)
    have hso := coD_ok' (c := stC (rnL L.length S L)) (by omega) (hsw.frs (by omega))
    refine wb_cons (ws_if ?_)
    refine wt_cmp (op := .NotEq) (op_neD (Room.units (k := 0) (by with_unfolding_all exact Room.mono (by assumption) (Nat.zero_le _)))) (nomark _) ?_
    refine we_fz ?_
    refine we_list B rfl ?_
    refine we_callP c_never (by walk_at "room") rfl ?_
    refine wa_one ?_
    walk_at "e"
    refine ⟨_, (stC (rnL L.length S L)), rfl, hso, by omega, ?_⟩
    refine ⟨_, (.t _), fun p3 => ⟨p3, _, _, rfl, rfl, by walk_at "pl", ?_⟩⟩
    refine we_callP c_law_ringed (by walk_at "room") rfl ?_
    refine wa_one ?_
    walk_at "e"
    refine ⟨L.length, rnL L.length S L, rfl, hL2, by omega, ?_⟩
    refine ow_ne (.d _) (.d _) (shaped_lst _) (shaped_lst _) ⟨_, rfl, ?_⟩
    rw [eqv_lst]
    refine itF (by rw [decide_eq_true rfl]; rfl) ?_
    refine wb_nil ?_
    refine wb_cons ?_
    refine ws_for [4] PassesOwn.never rfl ?_
    refine wi_rng rfl B.range ?_
    walk_at "e"
    refine ⟨3, rfl, by walk_at "so", fun i δ' μ' => ∃ bsk x4 x5 x6 x7 x8 x9 x10 x11 x13 x15, δ' = [some (.a b), some (.d (.list (tups (rnL L.length S L)))), some (.d (.list (intsD S))), some (.d (coD (stC (rnL L.length S L)))), x4, x5, x6, x7, x8, x9, x10, x11, none, x13, none, x15] ∧ μ' = ([(b, Cont.l bsk)] : Cells) ∧ BoxOk (m + 11001 + 10000 * i) bsk, ⟨bs3, _, _, _, _, _, _, _, _, _, _, rfl, rfl, hb3.mono (by omega)⟩, fun i d δ' μ' hd hI => ?_, fun δ' μ' hI => ?_⟩
    · obtain ⟨bsk, x4, x5, x6, x7, x8, x9, x10, x11, x13, x15, rfl, rfl, hbk⟩ := hI
      obtain ⟨hi, rfl⟩ := rng_item hd
      have hi3 : i < 3 := hi
      refine wg_name 4 sc_right_l.nd n4 (by walk_at "loc") (by first | exact .inl rfl | exact .inr rfl) (by decide) ?_
      refine wb_cons ?_
      refine ws_set 5 sc_right_l.nd n5 (by walk_at "loc") (by first | exact .inl rfl | exact .inr rfl) ?_
      refine we_callB 0 c_law_row (by walk_at "room") rfl ?_
      refine wa_cons ?_
      walk_at "e"
      refine wa_one ?_
      walk_at "e"
      refine ⟨b, bsk, rfl, b, bsk, (stC (rnL L.length S L)), _, rfl, rfl, hbk, by omega, by omega, fun r bs4 hr hb4 => ⟨[], bs4, rfl, ?_⟩⟩
      have hrow := row_of_perm hr
      rw [hsl] at hrow
      have hrr : ∀ x ∈ r, 0 ≤ x ∧ x < L.length := fun x m => (hrow.rg x).mp m
      have hrl := hrow.len
      refine wb_cons ?_
      refine ws_setLcW 6 [("_law_at", 13), ("_law_soul", 11)] rfl sc_right_l.nd n6 rfl (sw_true rfl rfl rfl (by decide +kernel)) (blkOk_by (N := ["_law_box_here", "_law_links_here", "_law_names", "_law_strict", "_law_turn", "_law_queue", "_law_wrong", "_law_ends", "_law_loose", "_law_far", "_law_depths", "_law_soul", "_law_pals", "_law_at", "_law_k", "_law_pal"]) (sc := defScope s_right_l) (by decide +kernel)) (lcW (fun i : Nat => .tuple [.int (i : Int), .int (r.getD i 0)]) (fun x => !decide (gone (rnL L.length S L) (r.take x) (r.getD x 0) = [])) (fun x : Nat => .int (x : Int)) ?_)
      refine wi_enum rfl B.enum ?_
      refine wa_one ?_
      walk_at "e"
      refine ⟨_, _, rfl, (.t _), List.range r.length, enum_eq _, by rw [List.length_range]; walk_at "so", fun x hx => ?_, fun zq => ?_⟩
      · have hgr := hrr (r.getD x 0) (by rw [List.getD_eq_getElem?_getD, List.getElem?_eq_getElem (List.mem_range.mp hx)]; exact List.getElem_mem _)
        have hfw := hL2.few _ (hL2.row hgr.1 hgr.2).2
        intro s1 H1 C kl fp
        refine wg_tupW (ds := [_, _]) rfl ?_
        refine wgs_cons ?_
        refine wg_name 13 sc_right_l.nd n13 (by walk_at "loc") (by first | exact .inl rfl | exact .inr rfl) (by decide) ?_
        refine wgs_cons ?_
        refine wg_name 11 sc_right_l.nd n11 (by walk_at "loc") (by first | exact .inl rfl | exact .inr rfl) (by decide) ?_
        refine wgs_nil ?_
        intro s1 H1 C kl fp
        show WT _ _ _ _ _
        refine wt_cmp (op := .NotEq) (op_neD (Room.units (k := 0) (by with_unfolding_all exact Room.mono (by assumption) (Nat.zero_le _)))) (nomark _) ?_
        refine we_fz ?_
        refine we_lc [("_law_pal", 15)] rfl sc_right_l.nd (by with_unfolding_all exact blkOk_by (N := ["_law_box_here", "_law_links_here", "_law_names", "_law_strict", "_law_turn", "_law_queue", "_law_wrong", "_law_ends", "_law_loose", "_law_far", "_law_depths", "_law_soul", "_law_pals", "_law_at", "_law_k", "_law_pal"]) rfl) (lcP PyData.int (fun y => (!decide (y ∈ (r.take x)))) (PyData.int) ?_)
        refine wi_seq ?_
        walk_at "e"
        walk_at "e"
        walk_at "e"
        refine ow_ix (.l _) (lk_at hL2 hgr.1 hgr.2) ?_
        refine ⟨_, (.t _), (lkr (rnL L.length S L) (r.getD x 0)), rfl, by omega, fun y hx => ?_, fun zq => ?_⟩
        · skip
          intro s1 H1 C kl fp
          refine wg_name 15 sc_right_l.nd n15 (by walk_at "loc") (by first | exact .inl rfl | exact .inr rfl) (by decide) ?_
          intro s1 H1 C kl fp
          show WT _ _ _ _ _
          refine wt_cmp (op := .NotIn) op_notIn_seq (by walk_at "rfl") ?_
          walk_at "e"
          refine we_slT ?_
          walk_at "e"
          refine wo_none ?_
          refine wo_some ?_
          walk_at "e"
          refine ⟨_, rfl, ?_⟩
          refine ⟨_, rfl, ?_⟩
          rw [cutZ_takeA, ← List.map_take]
          refine ow_ni (.t _) rfl (flat_ints _) ⟨_, rfl, ?_⟩
          rw [inD_int]
          refine ⟨rfl, ?_⟩
          split
          · rename_i h1
            intro s1 H1 C kl fp
            walk_at "e"
            exact ⟨rfl, rfl⟩
          · rfl
        refine ⟨zq, _, _, rfl, rfl, by walk_at "pl", ?_⟩
        refine we_fz ?_
        refine we_lst ?_
        refine wa_nil ?_
        refine ⟨[], rfl, by simp, fun p4 => ⟨p4, _, _, rfl, rfl, by walk_at "pl", ?_⟩⟩
        refine ow_ne (.d _) (.d _) (shaped_lst _) (shaped_lst []) ⟨_, rfl, ?_⟩
        rw [show PyData.eqv (.list (intsD ((lkr (rnL L.length S L) (r.getD x 0)).filter (fun y => (!decide (y ∈ (r.take x))))))) (.list []) = decide (((lkr (rnL L.length S L) (r.getD x 0)).filter (fun y => (!decide (y ∈ (r.take x))))) = []) from eqv_lst ((lkr (rnL L.length S L) (r.getD x 0)).filter (fun y => (!decide (y ∈ (r.take x))))) ([])]
        refine ⟨rfl, ?_⟩
        split
        · rename_i h1
          intro s1 H1 C kl fp
          walk_at "e"
          exact ⟨rfl, rfl⟩
        · rfl
      rw [misL_st hL2 hrr]
      refine wb_frz 0 [6] rfl (fun j hj => by cases List.mem_singleton.mp hj; rfl) ?_
      have hor : ordb (stC (rnL L.length S L)) r = (misL (stC (rnL L.length S L)) r).isEmpty := by
        unfold ordb
        rw [hsl, hrow.srt, decide_eq_true rfl, Bool.true_and]
      rcases hmis : misL (stC (rnL L.length S L)) r with _ | ⟨i0, tl⟩
      · skip
        rw [hmis] at hor
        have hmv : misV (stC (rnL L.length S L)) r = PyData.none := by unfold misV; rw [hmis]
        refine wb_cons (ws_if ?_)
        refine wt_w ?_
        refine ww_or ?_
        refine wt_cmp (op := .NotEq) (op_neD (Room.units (k := 0) (by with_unfolding_all exact Room.mono (by assumption) (Nat.zero_le _)))) (nomark _) ?_
        refine we_callP c_misfit (by walk_at "room") rfl ?_
        refine wa_cons ?_
        walk_at "e"
        refine wa_one ?_
        walk_at "e"
        refine ⟨_, (stC (rnL L.length S L)), _, r, rfl, hso, .inr rfl, by omega, (fun x m => by have := hrr x m; omega), ?_⟩
        rw [hmv]
        refine we_if ?_
        refine wt_cmp (op := .NotEq) (op_neD (Room.units (k := 0) (by with_unfolding_all exact Room.mono (by assumption) (Nat.zero_le _)))) (nomark _) ?_
        walk_at "e"
        refine we_fz ?_
        refine we_lst ?_
        refine wa_nil ?_
        refine ⟨[], rfl, by simp, fun p5 => ⟨p5, _, _, rfl, rfl, by walk_at "pl", ?_⟩⟩
        refine ow_ne (.d _) (.d _) (by walk_at "shp") (shaped_lst []) ⟨_, rfl, ?_⟩
        rw [show PyData.eqv (.list (natsD [])) (.list []) = true from rfl]
        refine itF (rfl) ?_
        walk_at "e"
        refine ow_ne (.d _) (.d _) rfl rfl ⟨_, rfl, ?_⟩
        rw [show PyData.eqv PyData.none PyData.none = true from rfl]
        refine itF (rfl) ?_
        refine ww_or1 ?_
        refine wt_cmp (op := .NotEq) (op_neD (Room.units (k := 0) (by with_unfolding_all exact Room.mono (by assumption) (Nat.zero_le _)))) (nomark _) ?_
        refine we_callP c_is_order (by walk_at "room") rfl ?_
        refine wa_cons ?_
        walk_at "e"
        refine wa_one ?_
        walk_at "e"
        refine ⟨_, (stC (rnL L.length S L)), r, rfl, hso, by omega, ?_⟩
        refine we_cmp (op := .Eq) (op_eqD (Room.units (k := 0) (by with_unfolding_all exact Room.mono (by assumption) (Nat.zero_le _)))) (nomark _) ?_
        walk_at "e"
        refine we_fz ?_
        refine we_lst ?_
        refine wa_nil ?_
        refine ⟨[], rfl, by simp, fun p6 => ⟨p6, _, _, rfl, rfl, by walk_at "pl", ?_⟩⟩
        refine ow_eq (.d _) (.d _) (by walk_at "shp") (shaped_lst []) ?_
        rw [show PyData.eqv (.list (natsD [])) (.list []) = true from rfl]
        refine ow_ne (.d _) (.d _) rfl rfl ⟨_, rfl, ?_⟩
        rw [eqv_dbool]
        refine itF (by rw [hor]; rfl) ?_
        refine wb_nil ?_
        refine wb_nil ?_
        exact ⟨_, _, _, _, _, _, _, _, _, _, _, rfl, rfl, hb4.mono (by omega)⟩
      · skip
        rw [hmis] at hor
        have hmv : misV (stC (rnL L.length S L)) r = PyData.int (i0 : Int) := by unfold misV; rw [hmis]
        refine wb_cons (ws_if ?_)
        refine wt_w ?_
        refine ww_or ?_
        refine wt_cmp (op := .NotEq) (op_neD (Room.units (k := 0) (by with_unfolding_all exact Room.mono (by assumption) (Nat.zero_le _)))) (nomark _) ?_
        refine we_callP c_misfit (by walk_at "room") rfl ?_
        refine wa_cons ?_
        walk_at "e"
        refine wa_one ?_
        walk_at "e"
        refine ⟨_, (stC (rnL L.length S L)), _, r, rfl, hso, .inr rfl, by omega, (fun x m => by have := hrr x m; omega), ?_⟩
        rw [hmv]
        refine we_if ?_
        refine wt_cmp (op := .NotEq) (op_neD (Room.units (k := 0) (by with_unfolding_all exact Room.mono (by assumption) (Nat.zero_le _)))) (nomark _) ?_
        walk_at "e"
        refine we_fz ?_
        refine we_lst ?_
        refine wa_nil ?_
        refine ⟨[], rfl, by simp, fun p7 => ⟨p7, _, _, rfl, rfl, by walk_at "pl", ?_⟩⟩
        refine ow_ne (.d _) (.d _) (by walk_at "shp") (shaped_lst []) ⟨_, rfl, ?_⟩
        rw [show PyData.eqv (.list (natsD (i0 :: tl))) (.list []) = false from rfl]
        refine itT (rfl) ?_
        walk_at "e"
        walk_at "e"
        walk_at "e"
        refine ow_ix (.l _) (atI_nat (j := 0) rfl) ?_
        refine ow_ne (.d _) (.d _) rfl rfl ⟨_, rfl, ?_⟩
        rw [eqv_dint]
        refine itF (by rw [decide_eq_true rfl]; rfl) ?_
        refine ww_or1 ?_
        refine wt_cmp (op := .NotEq) (op_neD (Room.units (k := 0) (by with_unfolding_all exact Room.mono (by assumption) (Nat.zero_le _)))) (nomark _) ?_
        refine we_callP c_is_order (by walk_at "room") rfl ?_
        refine wa_cons ?_
        walk_at "e"
        refine wa_one ?_
        walk_at "e"
        refine ⟨_, (stC (rnL L.length S L)), r, rfl, hso, by omega, ?_⟩
        refine we_cmp (op := .Eq) (op_eqD (Room.units (k := 0) (by with_unfolding_all exact Room.mono (by assumption) (Nat.zero_le _)))) (nomark _) ?_
        walk_at "e"
        refine we_fz ?_
        refine we_lst ?_
        refine wa_nil ?_
        refine ⟨[], rfl, by simp, fun p8 => ⟨p8, _, _, rfl, rfl, by walk_at "pl", ?_⟩⟩
        refine ow_eq (.d _) (.d _) (by walk_at "shp") (shaped_lst []) ?_
        rw [show PyData.eqv (.list (natsD (i0 :: tl))) (.list []) = false from rfl]
        refine ow_ne (.d _) (.d _) rfl rfl ⟨_, rfl, ?_⟩
        rw [eqv_dbool]
        refine itF (by rw [hor]; rfl) ?_
        refine wb_nil ?_
        refine wb_nil ?_
        exact ⟨_, _, _, _, _, _, _, _, _, _, _, rfl, rfl, hb4.mono (by omega)⟩
    · rw [rng_items _] at hI
      obtain ⟨bsk, x4, x5, x6, x7, x8, x9, x10, x11, x13, x15, rfl, rfl, hbk⟩ := hI
      have hbk := hbk.mono (show m + 11001 + 10000 * 3 ≤ m + 41001 by omega)
      refine wb_cons ?_
      refine ws_set 7 sc_right_l.nd n7 (by walk_at "loc") (by first | exact .inl rfl | exact .inr rfl) ?_
      refine we_lc [("_law_soul", 11)] rfl sc_right_l.nd (blkOk_by (N := ["_law_box_here", "_law_links_here", "_law_names", "_law_strict", "_law_turn", "_law_queue", "_law_wrong", "_law_ends", "_law_loose", "_law_far", "_law_depths", "_law_soul", "_law_pals", "_law_at", "_law_k", "_law_pal"]) (sc := defScope s_right_l) (by decide +kernel)) (lcS (rng L.length) [] b (m + 41001) 1 (fun y k => True) ?_)
      refine wi_rng rfl B.range ?_
      refine we_len B rfl ?_
      walk_at "e"
      refine ⟨_, (.l _), ?_⟩
      rw [List.length_map]
      rw [hll]
      refine ⟨L.length, rfl, by omega, bsk, rfl, rfl, hbk, by rw [rng_len]; omega, fun y hy j bs2 hj hb2 => ?_, fun E bs2 zq hs g1 g2 hb2 => ?_⟩
      · rw [rng_len] at hj
        have hyr := mem_rng.mp hy
        have hfw := hL2.few _ (hL2.row hyr.1 hyr.2).2
        intro s1 H1 C cl fp
        refine wg_name 11 sc_right_l.nd n11 (by walk_at "loc") (by first | exact .inl rfl | exact .inr rfl) (by decide) ?_
        intro s1 H1 C cl fp
        show WT _ _ _ _ _
        refine wt_w (ww_or ?_)
        refine wt_cmp (op := .Eq) (op_eqD (Room.units (k := 0) (by with_unfolding_all exact Room.mono (by assumption) (Nat.zero_le _)))) (nomark _) ?_
        walk_at "e"
        walk_at "e"
        walk_at "e"
        refine ow_ix (.l _) (lk_at hL2 hyr.1 hyr.2) ?_
        refine we_tup ?_
        refine wa_nil ?_
        refine ⟨[], rfl, by simp, ?_⟩
        refine ow_eq (.d _) (.d _) (shaped_tup _) rfl ⟨_, rfl, ?_⟩
        rw [show PyData.eqv (.tuple (intsD (lkr (rnL L.length S L) y))) (.tuple []) = decide ((lkr (rnL L.length S L) y) = []) from eqv_tup (lkr (rnL L.length S L) y) ([])]
        split
        · skip
          exact ⟨bs2, rfl, hb2.mono (by omega), trivial, fun _ s1 H1 C cl fp => by
            walk_at "e"
            exact ⟨rfl, rfl⟩⟩
        · skip
          refine ww_or1 ?_
          refine wt_cmp (op := .Eq) (op_eqD (Room.units (k := 0) (by with_unfolding_all exact Room.mono (by assumption) (Nat.zero_le _)))) (nomark _) ?_
          refine we_callB 0 c_law_take (by walk_at "room") rfl ?_
          refine wa_cons ?_
          walk_at "e"
          refine wa_one ?_
          walk_at "e"
          refine ⟨b, bs2, rfl, b, bs2, 5, _, rfl, rfl, hb2, by omega, by omega, by omega, fun r48 bs5 r49 r50 hb5 => ⟨[], bs5, rfl, ?_⟩⟩
          walk_at "e"
          refine ow_eq (.d _) (.d _) rfl rfl ⟨_, rfl, ?_⟩
          rw [eqv_dint]
          exact ⟨_, rfl, hb5.mono (by omega), trivial, fun _ s1 H1 C cl fp => by
            walk_at "e"
            exact ⟨rfl, rfl⟩⟩
      rw [rng_len] at hb2
      have hE : EnOk L.length (rnL L.length S L) E := ⟨(rng_lt _).sublist hs, fun x m => mem_rng.mp (hs.subset m)⟩
      have hEl : E.length ≤ L.length := by
        have := hs.length_le
        rwa [rng_len] at this
      refine wb_frz 0 [7] rfl (fun j hj => by cases List.mem_singleton.mp hj; rfl) ?_
      refine wb_cons ?_
      refine ws_set 8 sc_right_l.nd n8 (by walk_at "loc") (by first | exact .inl rfl | exact .inr rfl) ?_
      refine we_tuple B rfl ?_
      refine we_fz ?_
      refine we_lcW [("_law_soul", 11), ("_law_pals", 12)] rfl sc_right_l.nd (blkOk_by (N := ["_law_box_here", "_law_links_here", "_law_names", "_law_strict", "_law_turn", "_law_queue", "_law_wrong", "_law_ends", "_law_loose", "_law_far", "_law_depths", "_law_soul", "_law_pals", "_law_at", "_law_k", "_law_pal"]) (sc := defScope s_right_l) (by decide +kernel)) (lcW (fun i : Nat => PyData.tuple [.int (i : Int), .tuple (intsD ((rnL L.length S L).getD i []))]) (fun _ => true) (fun x : Nat => enD ((rnL L.length S L).getD x [], if (x : Int) ∈ E then 0 else 1)) ?_)
      refine wi_enum rfl B.enum ?_
      refine wa_one ?_
      walk_at "e"
      refine ⟨_, _, rfl, (.l _), (List.range (rnL L.length S L).length), enum_tups _, by rw [List.length_range]; omega, fun x hx => ?_, fun zq => ?_⟩
      · skip
        intro s1 H1 C kl fp
        refine wg_tupW (ds := [_, _]) rfl ?_
        refine wgs_cons ?_
        refine wg_name 11 sc_right_l.nd n11 (by walk_at "loc") (by first | exact .inl rfl | exact .inr rfl) (by decide) ?_
        refine wgs_cons ?_
        refine wg_name 12 sc_right_l.nd n12 (by walk_at "loc") (by first | exact .inl rfl | exact .inr rfl) (by decide) ?_
        refine wgs_nil ?_
        intro s1 H1 C kl fp
        refine wts_nil ⟨rfl, itT rfl ?_⟩
        intro s1 H1 C kl fp
        refine we_tup ?_
        refine wa_cons ?_
        walk_at "e"
        refine wa_one ?_
        refine we_iv (.d (.int (if (x : Int) ∈ E then 0 else 1))) ?_ ?_
        · skip
          by_cases hxe : (x : Int) ∈ E
          · skip
            refine we_if ?_
            refine wt_cmp (op := .In) op_in_seq (by walk_at "rfl") ?_
            walk_at "e"
            walk_at "e"
            refine ow_in (.l _) rfl (flat_ints _) ⟨_, rfl, ?_⟩
            rw [inD_int]
            refine itT (decide_eq_true hxe) ?_
            walk_at "e"
            exact ⟨by rw [if_pos hxe], rfl⟩
          · skip
            refine we_if ?_
            refine wt_cmp (op := .In) op_in_seq (by walk_at "rfl") ?_
            walk_at "e"
            walk_at "e"
            refine ow_in (.l _) rfl (flat_ints _) ⟨_, rfl, ?_⟩
            rw [inD_int]
            refine itF (decide_eq_false hxe) ?_
            walk_at "e"
            exact ⟨by rw [if_neg hxe], rfl⟩
        refine ⟨[(.tuple (intsD ((rnL L.length S L).getD x []))), (.int (if (x : Int) ∈ E then 0 else 1))], rfl, by simp, ?_⟩
        exact ⟨rfl, rfl⟩
      rw [filt_all]
      rw [lo_enD]
      refine ⟨zq, _, _, rfl, rfl, by walk_at "pl", ?_⟩
      refine ⟨_, (.l _), ?_⟩
      have hloc : (loC (rnL L.length S L) E).length = L.length := (loC_len _ _).trans hll
      have hlw := loC_cow hL2 E
      have hlo := coD_ok' (c := loC (rnL L.length S L) E) (by omega) (hlw.frs (by omega))
      refine wb_cons ?_
      refine ws_set 9 sc_right_l.nd n9 (by walk_at "loc") (by first | exact .inl rfl | exact .inr rfl) ?_
      refine we_callP c_law_depth (by walk_at "room") rfl ?_
      refine wa_cons ?_
      walk_at "e"
      refine wa_one ?_
      walk_at "e"
      refine ⟨L.length, rnL L.length S L, E, rfl, hL2, hE, by omega, fun pd kvs hRd => ?_⟩
      have hkv : kvs.length ≤ 14 := by
        have h1 := nodup_le hRd.nd (rng_nodup _) fun y my => mem_rng.mpr ((Ps.sof (loC (rnL L.length S L) E) _ (Nat.le_refl _)).rg y ((hRd.key y).mp my))
        rw [rng_len, List.length_map] at h1
        omega
      refine wb_cons (ws_if ?_)
      refine wt_cmp (op := .NotEq) (op_neD (Room.units (k := 0) (by with_unfolding_all exact Room.mono (by assumption) (Nat.zero_le _)))) (nomark _) ?_
      refine we_fz ?_
      refine we_list B rfl ?_
      refine we_callP c_greatest (by walk_at "room") rfl ?_
      refine wa_one ?_
      walk_at "e"
      refine ⟨_, (loC (rnL L.length S L) E), rfl, hlo, by omega, ?_⟩
      refine ⟨_, (.t _), fun p9 => ⟨p9, _, _, rfl, rfl, by walk_at "pl", ?_⟩⟩
      refine we_fz ?_
      refine we_sortI B rfl rfl ?_
      walk_at "e"
      refine ⟨_, .c 0 rfl, by omega, fun p10 => ⟨p10, _, _, rfl, rfl, plS_map fun _ => rfl, ?_⟩⟩
      rw [hRd.keys]
      refine ow_ne (.d _) (.d _) (shaped_lst _) (shaped_lst _) ⟨_, rfl, ?_⟩
      rw [eqv_lst]
      refine itF (by rw [decide_eq_true rfl]; rfl) ?_
      refine wb_nil ?_
      refine wb_cons ?_
      refine ws_set 10 sc_right_l.nd n10 (by walk_at "loc") (by first | exact .inl rfl | exact .inr rfl) ?_
      refine we_sortSetL B rfl rfl rfl ?_
      refine we_lock 0 [9] rfl (fun ds z => by cases z) (fun j hj => by cases List.mem_singleton.mp hj; rfl) ?_
      refine we_fz ?_
      refine we_lc [("_law_soul", 11)] rfl sc_right_l.nd (blkOk_by (N := ["_law_box_here", "_law_links_here", "_law_names", "_law_strict", "_law_turn", "_law_queue", "_law_wrong", "_law_ends", "_law_loose", "_law_far", "_law_depths", "_law_soul", "_law_pals", "_law_at", "_law_k", "_law_pal"]) (sc := defScope s_right_l) (by decide +kernel)) (lcP PyData.int (fun _ => true) (fun x => .int (vlI kvs x)) ?_)
      refine wi_keysI ?_
      refine we_name _ n9 (by walk_at "vis") rfl ?_
      refine ⟨pd, kvs, rfl, kvs.map Prod.fst, rfl, by rw [List.length_map]; omega, fun x hx => ?_, fun zq => ?_⟩
      · obtain ⟨j0, s0, hg0, hv0, _, _⟩ := hRd.at hx
        intro s1 H1 C cl fp
        refine wg_name 11 sc_right_l.nd n11 (by walk_at "loc") (by first | exact .inl rfl | exact .inr rfl) (by decide) ?_
        intro s1 H1 C cl fp
        refine wts_nil ⟨rfl, itT rfl ?_⟩
        intro s1 H1 C cl fp
        refine we_dget (Nat.lt_of_le_of_lt (Nat.add_le_add_left (by decide : 1 ≤ 64) _) (Room.units (k := 0) (by with_unfolding_all exact Room.mono (by assumption) (Nat.zero_le _)))) ?_
        refine we_name _ n9 (by walk_at "vis") rfl ?_
        walk_at "e"
        refine ⟨kvs, x, _, .k _ _, rfl, hg0, ?_⟩
        exact ⟨by rw [hv0], rfl⟩
      rw [filt_all]
      rw [show ((kvs.map Prod.fst).map fun x => PyData.int (vlI kvs x)) = intsD ((kvs.map Prod.fst).map (vlI kvs)) from List.map_map.symm]
      refine ⟨zq, _, _, rfl, rfl, by walk_at "pl", rfl, ?_⟩
      refine ⟨_, .d _, by rw [List.length_map, List.length_map]; omega, fun p19 out hup hme => ?_⟩
      obtain rfl := hRd.outs hup hme
      have hal := rounds_le (loC (rnL L.length S L) E)
      refine wb_frz 0 [10] rfl (fun j hj => by cases List.mem_singleton.mp hj; rfl) ?_
      refine wb_one (ws_ret ?_)
      refine we_cmp (op := .Eq) (op_eqD (Room.units (k := 0) (by with_unfolding_all exact Room.mono (by assumption) (Nat.zero_le _)))) (nomark _) ?_
      refine we_fz ?_
      refine we_callP c_rounds (by walk_at "room") rfl ?_
      refine wa_one ?_
      walk_at "e"
      refine ⟨_, (loC (rnL L.length S L) E), rfl, hlo, fun p11 => ⟨p11, _, _, rfl, rfl, by walk_at "pl", ?_⟩⟩
      refine we_fz ?_
      refine we_lc [("_law_k", 14)] rfl sc_right_l.nd (blkOk_by (N := ["_law_box_here", "_law_links_here", "_law_names", "_law_strict", "_law_turn", "_law_queue", "_law_wrong", "_law_ends", "_law_loose", "_law_far", "_law_depths", "_law_soul", "_law_pals", "_law_at", "_law_k", "_law_pal"]) (sc := defScope s_right_l) (by decide +kernel)) (lcP PyData.int (fun _ => true) (fun k => .tuple (intsD (srt ((kvs.map Prod.fst).filter fun x => decide (vlI kvs x = k))))) ?_)
      refine wi_seq ?_
      walk_at "e"
      refine ⟨_, .l _, rng (AR (loC (rnL L.length S L) E) [] []).length, rfl, by rw [rng_len]; omega, fun k hk => ?_, fun zq => ?_⟩
      · intro s1 H1 C cl fp
        refine wg_name 14 sc_right_l.nd n14 (by walk_at "loc") (by first | exact .inl rfl | exact .inr rfl) (by decide) ?_
        intro s1 H1 C cl fp
        refine wts_nil ⟨rfl, itT rfl ?_⟩
        intro s1 H1 C cl fp
        refine we_tuple B rfl ?_
        refine we_fz ?_
        refine we_sorted B rfl ?_
        refine we_lock 0 [9] rfl (fun ds z => by cases z) (fun j hj => by cases List.mem_singleton.mp hj; rfl) ?_
        refine we_fz ?_
        refine we_lc [("_law_soul", 11)] rfl sc_right_l.nd (by with_unfolding_all exact blkOk_by (N := ["_law_box_here", "_law_links_here", "_law_names", "_law_strict", "_law_turn", "_law_queue", "_law_wrong", "_law_ends", "_law_loose", "_law_far", "_law_depths", "_law_soul", "_law_pals", "_law_at", "_law_k", "_law_pal"]) rfl) (lcP PyData.int (fun x => decide (vlI kvs x = k)) (PyData.int) ?_)
        refine wi_keysI ?_
        refine we_name _ n9 (by walk_at "vis") rfl ?_
        refine ⟨pd, kvs, rfl, kvs.map Prod.fst, rfl, by rw [List.length_map]; omega, fun x hx => ?_, fun zq => ?_⟩
        · obtain ⟨j0, s0, hg0, hv0, _, _⟩ := hRd.at hx
          intro s1 H1 C cl fp
          refine wg_name 11 sc_right_l.nd n11 (by walk_at "loc") (by first | exact .inl rfl | exact .inr rfl) (by decide) ?_
          intro s1 H1 C cl fp
          show WT _ _ _ _ _
          refine wt_cmp (op := .Eq) (op_eqD (Room.units (k := 0) (by with_unfolding_all exact Room.mono (by assumption) (Nat.zero_le _)))) (nomark _) ?_
          refine we_dget (Nat.lt_of_le_of_lt (Nat.add_le_add_left (by decide : 1 ≤ 64) _) (Room.units (k := 0) (by with_unfolding_all exact Room.mono (by assumption) (Nat.zero_le _)))) ?_
          refine we_name _ n9 (by walk_at "vis") rfl ?_
          walk_at "e"
          refine ⟨kvs, x, _, .k _ _, rfl, hg0, ?_⟩
          walk_at "e"
          refine ow_eq (.d _) (.d _) rfl rfl ⟨_, rfl, ?_⟩
          rw [eqv_dint, ← hv0]
          refine ⟨rfl, ?_⟩
          split
          · rename_i h1
            intro s1 H1 C kl fp
            walk_at "e"
            exact ⟨rfl, rfl⟩
          · rfl
        refine ⟨zq, _, _, rfl, rfl, by walk_at "pl", rfl, ?_⟩
        refine ⟨_, (.l _), (fun _ z => by cases z), by have := List.length_filter_le (fun x => decide (vlI kvs x = k)) (kvs.map Prod.fst); rw [List.length_map] at this; omega, fun p20 => ⟨p20, _, _, rfl, rfl, by walk_at "pl", ?_⟩⟩
        refine ⟨_, (.l _), ?_⟩
        exact ⟨rfl, rfl⟩
      rw [filt_all]
      rw [show ((rng (AR (loC (rnL L.length S L) E) [] []).length).map fun k => PyData.tuple (intsD (srt ((kvs.map Prod.fst).filter fun x => decide (vlI kvs x = k))))) = tups ((rng (AR (loC (rnL L.length S L) E) [] []).length).map fun k => srt ((kvs.map Prod.fst).filter fun x => decide (vlI kvs x = k))) from by unfold tups; rw [List.map_map]; rfl]
      rw [hRd.rounds]
      refine ⟨zq, _, _, rfl, rfl, by walk_at "pl", ?_⟩
      refine ow_eq (.d _) (.d _) (tups_shaped _) (tups_shaped _) ?_
      rw [eqv_ltups, decide_eq_true rfl]
      exact keep_drop (keep (hR _ (hb2.mono (by omega))))

theorem ok_law {f : Addr} {fd : FuncData} (F : Fun K "law" "law" s_law f fd) (B : Bl mg) (c1 : Cal P w K mg base 2 "_law_box" T_box) (c2 : Cal P w K mg base 13 "_law_right" (T_right 60000)) : FnG P w K mg base CX0 14 f fd ["_law_script"] (spW K T_law) := by
  refine fn_w F sc_law (by decide) (fun xs μ R h => ?_) fun cdv A outer s H E hr hgd xs μ R hT => ?_
  · obtain ⟨ns, rfl, _⟩ := h
    rfl
  · obtain ⟨ns, rfl, hl, rfl, hR⟩ := hT
    refine wb_names (N := ["_law_script", "_law_k", "_law_box_here", "_law_turn"]) rfl fun hn => ?_
    have n0 := hn 0 _ rfl
    have n1 := hn 1 _ rfl
    have n2 := hn 2 _ rfl
    have n3 := hn 3 _ rfl
    refine wb_cons ?_
    refine ws_for [1] PassesOwn.never rfl ?_
    refine wi_range1 rfl B.range ?_
    refine wa_one (we_int ⟨2, rfl, by decide, by decide, ?_⟩)
    refine ⟨fun i δ' μ' => ∃ x1 x2, δ' = [some (.s ns), x1, x2, none] ∧ μ' = [], ⟨none, none, rfl, rfl⟩, fun i d δ' μ' hd hI => ?_, fun δ' μ' hI => ?_⟩
    · obtain ⟨x1, x2, rfl, rfl⟩ := hI
      have hi := (List.getElem?_eq_some_iff.mp hd).1
      rw [rangeD_len] at hi
      rw [rangeD_get hi] at hd
      cases hd
      rw [Int.zero_add]
      refine wg_name 1 sc_law.nd n1 (by walk_at "loc") (by first | exact .inl rfl | exact .inr rfl) (by decide) ?_
      refine wb_cons ?_
      refine ws_set 2 sc_law.nd n2 (by walk_at "loc") (by first | exact .inl rfl | exact .inr rfl) ?_
      refine we_callP c1 (by walk_at "room") rfl ?_
      walk_at "go"
      refine ⟨ns, i, rfl, by omega, fun b ds hb => ?_⟩
      refine wb_one (ws_if ?_)
      walk_at "t"
      refine wt_val ?_
      refine we_all B rfl rfl ?_
      refine we_lc [("_law_turn", 3)] rfl sc_law.nd (blkOk_by (N := ["_law_script", "_law_k", "_law_box_here", "_law_turn"]) (sc := defScope s_law) (by decide +kernel)) ?_
      refine wi_range1 rfl B.range ?_
      refine wa_one (we_int ⟨2, rfl, by decide, by decide, ?_⟩)
      refine ⟨fun j acc μ' => ∃ ds', acc = blsD (List.replicate j true) ∧ μ' = ([(b, Cont.l ds')] : Cells) ∧ BoxOk (60000 * j) ds', ⟨ds, rfl, rfl, hb⟩, by decide, fun j acc μ' hI => ?_, fun j d acc μ' hd hI => ?_, fun acc μ' hI p => ?_⟩
      · obtain ⟨ds', rfl, _⟩ := hI
        rw [List.length_map, List.length_replicate]
        exact Nat.le_refl _
      · obtain ⟨ds', rfl, rfl, hb'⟩ := hI
        have hj := (List.getElem?_eq_some_iff.mp hd).1
        rw [rangeD_len] at hj
        have hj' : j < 2 := hj
        intro s1 H1 C cl fp
        have hd' := hd
        rw [rangeD_get hj] at hd'
        cases hd'
        refine wg_name 3 sc_law.nd n3 (by walk_at "loc") (by first | exact .inl rfl | exact .inr rfl) (by decide) ?_
        intro s1 H1 C cl fp
        refine wts_nil ?_
        refine itT rfl ?_
        intro s1 H1 C cl fp
        refine we_callB 0 c2 (by walk_at "room") rfl ?_
        walk_at "go"
        refine ⟨b, ds', rfl, b, ds', _, rfl, rfl, hb', by omega, fun ds2 hb2 => ⟨[], ds2, rfl, _, rfl, ds2, ?_, rfl, hb2.mono (by omega)⟩⟩
        rw [List.replicate_succ']
        simp [blsD]
      · obtain ⟨ds', rfl, rfl, hb'⟩ := hI
        rw [rangeD_len]
        refine ⟨List.replicate 2 true, .c 0 rfl, (fun _ z => by cases z), _, rfl, ?_⟩
        refine itF rfl ?_
        refine wb_nilK (keep_drop (keep_drop (keep ?_)))
        exact ⟨_, _, rfl, rfl⟩
    · obtain ⟨x1, x2, rfl, rfl⟩ := hI
      refine wb_one (ws_ret (we_bl ?_))
      exact keep hR

end
def spLaw (K : PySem.W.Frag) : Sp := fun vs H Q _ => ∃ (a : Addr) (ns : List Int), vs = [.ref a] ∧ SqL K H a (ns.map V.int) ∧ ns.length ≤ 63 ∧ ∀ H', Q (.bl true) H'
theorem all_mk {l : PySem.W.OpenLaw} {w : World} {K : PySem.W.Frag} {h : Heap} {mg : Str → Option Value} {fa : Addr} (X : K.In h) (G : h.Ns mainGlobals mg) (hfa : mg "law" = some (.ref fa))
    {od0 an0 : Option Addr} {sl0 : Array (Option Value)} {oc0 kV0 dc0 pm0 cd0 ct0 : Value} {f0 : Addr}
    {od1 an1 : Option Addr} {sl1 : Array (Option Value)} {oc1 kV1 dc1 pm1 cd1 ct1 : Value} {f1 : Addr}
    {od2 an2 : Option Addr} {sl2 : Array (Option Value)} {oc2 kV2 dc2 pm2 cd2 ct2 : Value} {f2 : Addr}
    {od3 an3 : Option Addr} {sl3 : Array (Option Value)} {oc3 kV3 dc3 pm3 cd3 ct3 : Value} {f3 : Addr}
    {od4 an4 : Option Addr} {sl4 : Array (Option Value)} {oc4 kV4 dc4 pm4 cd4 ct4 : Value} {f4 : Addr}
    {od5 an5 : Option Addr} {sl5 : Array (Option Value)} {oc5 kV5 dc5 pm5 cd5 ct5 : Value} {f5 : Addr}
    {od6 an6 : Option Addr} {sl6 : Array (Option Value)} {oc6 kV6 dc6 pm6 cd6 ct6 : Value} {f6 : Addr}
    {od7 an7 : Option Addr} {sl7 : Array (Option Value)} {oc7 kV7 dc7 pm7 cd7 ct7 : Value} {f7 : Addr}
    {od8 an8 : Option Addr} {sl8 : Array (Option Value)} {oc8 kV8 dc8 pm8 cd8 ct8 : Value} {f8 : Addr}
    {od9 an9 : Option Addr} {sl9 : Array (Option Value)} {oc9 kV9 dc9 pm9 cd9 ct9 : Value} {f9 : Addr}
    {od10 an10 : Option Addr} {sl10 : Array (Option Value)} {oc10 kV10 dc10 pm10 cd10 ct10 : Value} {f10 : Addr}
    {od11 an11 : Option Addr} {sl11 : Array (Option Value)} {oc11 kV11 dc11 pm11 cd11 ct11 : Value} {f11 : Addr}
    {od12 an12 : Option Addr} {sl12 : Array (Option Value)} {oc12 kV12 dc12 pm12 cd12 ct12 : Value} {f12 : Addr}
    {od13 an13 : Option Addr} {sl13 : Array (Option Value)} {oc13 kV13 dc13 pm13 cd13 ct13 : Value} {f13 : Addr}
    {od14 an14 : Option Addr} {sl14 : Array (Option Value)} {oc14 kV14 dc14 pm14 cd14 ct14 : Value} {f14 : Addr}
    {od15 an15 : Option Addr} {sl15 : Array (Option Value)} {oc15 kV15 dc15 pm15 cd15 ct15 : Value} {f15 : Addr}
    {od16 an16 : Option Addr} {sl16 : Array (Option Value)} {oc16 kV16 dc16 pm16 cd16 ct16 : Value} {f16 : Addr}
    {od17 an17 : Option Addr} {sl17 : Array (Option Value)} {oc17 kV17 dc17 pm17 cd17 ct17 : Value} {f17 : Addr}
    {od18 an18 : Option Addr} {sl18 : Array (Option Value)} {oc18 kV18 dc18 pm18 cd18 ct18 : Value} {f18 : Addr}
    {od19 an19 : Option Addr} {sl19 : Array (Option Value)} {oc19 kV19 dc19 pm19 cd19 ct19 : Value} {f19 : Addr}
    {od20 an20 : Option Addr} {sl20 : Array (Option Value)} {oc20 kV20 dc20 pm20 cd20 ct20 : Value} {f20 : Addr}
    (a0 : PySem.W.nsIn K mainGlobals "is_number" = some (some (.ref f0)))
    (l0 : K.lookup f0 = some ⟨oc0, od0, .func (PySem.W.fnOf "is_number" "is_number" (defArgs s_is_number) (defBody s_is_number) (defScope s_is_number) .none kV0 dc0 pm0 an0 cd0 ct0), sl0⟩)
    (c0 : PySem.W.codeIn K cd0 "is_number" = true)
    (k0 : PySem.W.keepIn K (.ref f0) = true)
    (a1 : PySem.W.nsIn K mainGlobals "count_there" = some (some (.ref f1)))
    (l1 : K.lookup f1 = some ⟨oc1, od1, .func (PySem.W.fnOf "count_there" "count_there" (defArgs s_count_there) (defBody s_count_there) (defScope s_count_there) .none kV1 dc1 pm1 an1 cd1 ct1), sl1⟩)
    (c1 : PySem.W.codeIn K cd1 "count_there" = true)
    (k1 : PySem.W.keepIn K (.ref f1) = true)
    (a2 : PySem.W.nsIn K mainGlobals "can_come" = some (some (.ref f2)))
    (l2 : K.lookup f2 = some ⟨oc2, od2, .func (PySem.W.fnOf "can_come" "can_come" (defArgs s_can_come) (defBody s_can_come) (defScope s_can_come) .none kV2 dc2 pm2 an2 cd2 ct2), sl2⟩)
    (c2 : PySem.W.codeIn K cd2 "can_come" = true)
    (k2 : PySem.W.keepIn K (.ref f2) = true)
    (a3 : PySem.W.nsIn K mainGlobals "next_people" = some (some (.ref f3)))
    (l3 : K.lookup f3 = some ⟨oc3, od3, .func (PySem.W.fnOf "next_people" "next_people" (defArgs s_next_people) (defBody s_next_people) (defScope s_next_people) .none kV3 dc3 pm3 an3 cd3 ct3), sl3⟩)
    (c3 : PySem.W.codeIn K cd3 "next_people" = true)
    (k3 : PySem.W.keepIn K (.ref f3) = true)
    (a4 : PySem.W.nsIn K mainGlobals "all_rounds" = some (some (.ref f4)))
    (l4 : K.lookup f4 = some ⟨oc4, od4, .func (PySem.W.fnOf "all_rounds" "all_rounds" (defArgs s_all_rounds) (defBody s_all_rounds) (defScope s_all_rounds) .none kV4 dc4 pm4 an4 cd4 ct4), sl4⟩)
    (c4 : PySem.W.codeIn K cd4 "all_rounds" = true)
    (k4 : PySem.W.keepIn K (.ref f4) = true)
    (a5 : PySem.W.nsIn K mainGlobals "closure" = some (some (.ref f5)))
    (l5 : K.lookup f5 = some ⟨oc5, od5, .func (PySem.W.fnOf "closure" "closure" (defArgs s_closure) (defBody s_closure) (defScope s_closure) .none kV5 dc5 pm5 an5 cd5 ct5), sl5⟩)
    (c5 : PySem.W.codeIn K cd5 "closure" = true)
    (k5 : PySem.W.keepIn K (.ref f5) = true)
    (a6 : PySem.W.nsIn K mainGlobals "greatest" = some (some (.ref f6)))
    (l6 : K.lookup f6 = some ⟨oc6, od6, .func (PySem.W.fnOf "greatest" "greatest" (defArgs s_greatest) (defBody s_greatest) (defScope s_greatest) .none kV6 dc6 pm6 an6 cd6 ct6), sl6⟩)
    (c6 : PySem.W.codeIn K cd6 "greatest" = true)
    (k6 : PySem.W.keepIn K (.ref f6) = true)
    (a7 : PySem.W.nsIn K mainGlobals "never" = some (some (.ref f7)))
    (l7 : K.lookup f7 = some ⟨oc7, od7, .func (PySem.W.fnOf "never" "never" (defArgs s_never) (defBody s_never) (defScope s_never) .none kV7 dc7 pm7 an7 cd7 ct7), sl7⟩)
    (c7 : PySem.W.codeIn K cd7 "never" = true)
    (k7 : PySem.W.keepIn K (.ref f7) = true)
    (a8 : PySem.W.nsIn K mainGlobals "rounds" = some (some (.ref f8)))
    (l8 : K.lookup f8 = some ⟨oc8, od8, .func (PySem.W.fnOf "rounds" "rounds" (defArgs s_rounds) (defBody s_rounds) (defScope s_rounds) .none kV8 dc8 pm8 an8 cd8 ct8), sl8⟩)
    (c8 : PySem.W.codeIn K cd8 "rounds" = true)
    (k8 : PySem.W.keepIn K (.ref f8) = true)
    (a9 : PySem.W.nsIn K mainGlobals "misfit" = some (some (.ref f9)))
    (l9 : K.lookup f9 = some ⟨oc9, od9, .func (PySem.W.fnOf "misfit" "misfit" (defArgs s_misfit) (defBody s_misfit) (defScope s_misfit) .none kV9 dc9 pm9 an9 cd9 ct9), sl9⟩)
    (c9 : PySem.W.codeIn K cd9 "misfit" = true)
    (k9 : PySem.W.keepIn K (.ref f9) = true)
    (a10 : PySem.W.nsIn K mainGlobals "is_order" = some (some (.ref f10)))
    (l10 : K.lookup f10 = some ⟨oc10, od10, .func (PySem.W.fnOf "is_order" "is_order" (defArgs s_is_order) (defBody s_is_order) (defScope s_is_order) .none kV10 dc10 pm10 an10 cd10 ct10), sl10⟩)
    (c10 : PySem.W.codeIn K cd10 "is_order" = true)
    (k10 : PySem.W.keepIn K (.ref f10) = true)
    (a11 : PySem.W.nsIn K mainGlobals "_law_cell_at" = some (some (.ref f11)))
    (l11 : K.lookup f11 = some ⟨oc11, od11, .func (PySem.W.fnOf "_law_cell_at" "_law_cell_at" (defArgs s_cell_at_l) (defBody s_cell_at_l) (defScope s_cell_at_l) .none kV11 dc11 pm11 an11 cd11 ct11), sl11⟩)
    (c11 : PySem.W.codeIn K cd11 "_law_cell_at" = true)
    (k11 : PySem.W.keepIn K (.ref f11) = true)
    (a12 : PySem.W.nsIn K mainGlobals "_law_box" = some (some (.ref f12)))
    (l12 : K.lookup f12 = some ⟨oc12, od12, .func (PySem.W.fnOf "_law_box" "_law_box" (defArgs s_box_l) (defBody s_box_l) (defScope s_box_l) .none kV12 dc12 pm12 an12 cd12 ct12), sl12⟩)
    (c12 : PySem.W.codeIn K cd12 "_law_box" = true)
    (k12 : PySem.W.keepIn K (.ref f12) = true)
    (a13 : PySem.W.nsIn K mainGlobals "_law_take" = some (some (.ref f13)))
    (l13 : K.lookup f13 = some ⟨oc13, od13, .func (PySem.W.fnOf "_law_take" "_law_take" (defArgs s_take_l) (defBody s_take_l) (defScope s_take_l) .none kV13 dc13 pm13 an13 cd13 ct13), sl13⟩)
    (c13 : PySem.W.codeIn K cd13 "_law_take" = true)
    (k13 : PySem.W.keepIn K (.ref f13) = true)
    (a14 : PySem.W.nsIn K mainGlobals "_law_strewn" = some (some (.ref f14)))
    (l14 : K.lookup f14 = some ⟨oc14, od14, .func (PySem.W.fnOf "_law_strewn" "_law_strewn" (defArgs s_strewn_l) (defBody s_strewn_l) (defScope s_strewn_l) .none kV14 dc14 pm14 an14 cd14 ct14), sl14⟩)
    (c14 : PySem.W.codeIn K cd14 "_law_strewn" = true)
    (k14 : PySem.W.keepIn K (.ref f14) = true)
    (a15 : PySem.W.nsIn K mainGlobals "_law_row" = some (some (.ref f15)))
    (l15 : K.lookup f15 = some ⟨oc15, od15, .func (PySem.W.fnOf "_law_row" "_law_row" (defArgs s_row_l) (defBody s_row_l) (defScope s_row_l) .none kV15 dc15 pm15 an15 cd15 ct15), sl15⟩)
    (c15 : PySem.W.codeIn K cd15 "_law_row" = true)
    (k15 : PySem.W.keepIn K (.ref f15) = true)
    (a16 : PySem.W.nsIn K mainGlobals "_law_links" = some (some (.ref f16)))
    (l16 : K.lookup f16 = some ⟨oc16, od16, .func (PySem.W.fnOf "_law_links" "_law_links" (defArgs s_links_l) (defBody s_links_l) (defScope s_links_l) .none kV16 dc16 pm16 an16 cd16 ct16), sl16⟩)
    (c16 : PySem.W.codeIn K cd16 "_law_links" = true)
    (k16 : PySem.W.keepIn K (.ref f16) = true)
    (a17 : PySem.W.nsIn K mainGlobals "_law_ringed" = some (some (.ref f17)))
    (l17 : K.lookup f17 = some ⟨oc17, od17, .func (PySem.W.fnOf "_law_ringed" "_law_ringed" (defArgs s_ringed_l) (defBody s_ringed_l) (defScope s_ringed_l) .none kV17 dc17 pm17 an17 cd17 ct17), sl17⟩)
    (c17 : PySem.W.codeIn K cd17 "_law_ringed" = true)
    (k17 : PySem.W.keepIn K (.ref f17) = true)
    (a18 : PySem.W.nsIn K mainGlobals "_law_depth" = some (some (.ref f18)))
    (l18 : K.lookup f18 = some ⟨oc18, od18, .func (PySem.W.fnOf "_law_depth" "_law_depth" (defArgs s_depth_l) (defBody s_depth_l) (defScope s_depth_l) .none kV18 dc18 pm18 an18 cd18 ct18), sl18⟩)
    (c18 : PySem.W.codeIn K cd18 "_law_depth" = true)
    (k18 : PySem.W.keepIn K (.ref f18) = true)
    (a19 : PySem.W.nsIn K mainGlobals "_law_right" = some (some (.ref f19)))
    (l19 : K.lookup f19 = some ⟨oc19, od19, .func (PySem.W.fnOf "_law_right" "_law_right" (defArgs s_right_l) (defBody s_right_l) (defScope s_right_l) .none kV19 dc19 pm19 an19 cd19 ct19), sl19⟩)
    (c19 : PySem.W.codeIn K cd19 "_law_right" = true)
    (k19 : PySem.W.keepIn K (.ref f19) = true)
    (a20 : PySem.W.nsIn K mainGlobals "law" = some (some (.ref f20)))
    (l20 : K.lookup f20 = some ⟨oc20, od20, .func (PySem.W.fnOf "law" "law" (defArgs s_law) (defBody s_law) (defScope s_law) .none kV20 dc20 pm20 an20 cd20 ct20), sl20⟩)
    (c20 : PySem.W.codeIn K cd20 "law" = true)
    (k20 : PySem.W.keepIn K (.ref f20) = true)
    (z0 : PySem.W.nsIn K mainGlobals "len" = some none)
    (z1 : PySem.W.nsIn K mainGlobals "range" = some none)
    (z2 : PySem.W.nsIn K mainGlobals "list" = some none)
    (z3 : PySem.W.nsIn K mainGlobals "tuple" = some none)
    (z4 : PySem.W.nsIn K mainGlobals "sorted" = some none)
    (z5 : PySem.W.nsIn K mainGlobals "all" = some none)
    (z6 : PySem.W.nsIn K mainGlobals "any" = some none)
    (z7 : PySem.W.nsIn K mainGlobals "isinstance" = some none)
    (z8 : PySem.W.nsIn K mainGlobals "min" = some none)
    (z9 : PySem.W.nsIn K mainGlobals "max" = some none)
    (z10 : PySem.W.nsIn K mainGlobals "abs" = some none)
    (z11 : PySem.W.nsIn K mainGlobals "int" = some none)
    (z12 : PySem.W.nsIn K mainGlobals "str" = some none)
    (z13 : PySem.W.nsIn K mainGlobals "repr" = some none)
    (z14 : PySem.W.nsIn K mainGlobals "set" = some none)
    (z15 : PySem.W.nsIn K mainGlobals "sum" = some none)
    (z16 : PySem.W.nsIn K mainGlobals "enumerate" = some none)
    (z17 : PySem.W.nsIn K mainGlobals "zip" = some none)
    (z18 : PySem.W.nsIn K mainGlobals "bool" = some none)
    (z19 : PySem.W.nsIn K mainGlobals "dict" = some none)
    : ∃ fd : FuncData, (∀ (s : Shared) (v : Value), BindsTo s fd ⟨[v], []⟩ [("_law_script", v)]) ∧ ∀ base : Heap, K.In base → base.Ns mainGlobals mg → FnG l.prog w K mg base CX0 14 fa fd ["_law_script"] (spLaw K) := by
  have e := hfa.symm.trans (PySem.W.mg_of X G a20)
  cases e
  have B : Bl mg := ⟨PySem.W.mg_none_of X G z0, PySem.W.mg_none_of X G z1, PySem.W.mg_none_of X G z2, PySem.W.mg_none_of X G z3, PySem.W.mg_none_of X G z4, PySem.W.mg_none_of X G z5, PySem.W.mg_none_of X G z6, PySem.W.mg_none_of X G z7, PySem.W.mg_none_of X G z8, PySem.W.mg_none_of X G z9, PySem.W.mg_none_of X G z10, PySem.W.mg_none_of X G z11, PySem.W.mg_none_of X G z12, PySem.W.mg_none_of X G z13, PySem.W.mg_none_of X G z14, PySem.W.mg_none_of X G z15, PySem.W.mg_none_of X G z16, PySem.W.mg_none_of X G z17, PySem.W.mg_none_of X G z18, PySem.W.mg_none_of X G z19⟩
  have F0 := fun_mk (st := s_is_number) l0 c0 k0
  have F1 := fun_mk (st := s_count_there) l1 c1 k1
  have F2 := fun_mk (st := s_can_come) l2 c2 k2
  have F3 := fun_mk (st := s_next_people) l3 c3 k3
  have F4 := fun_mk (st := s_all_rounds) l4 c4 k4
  have F5 := fun_mk (st := s_closure) l5 c5 k5
  have F6 := fun_mk (st := s_greatest) l6 c6 k6
  have F7 := fun_mk (st := s_never) l7 c7 k7
  have F8 := fun_mk (st := s_rounds) l8 c8 k8
  have F9 := fun_mk (st := s_misfit) l9 c9 k9
  have F10 := fun_mk (st := s_is_order) l10 c10 k10
  have F11 := fun_mk (st := s_cell_at_l) l11 c11 k11
  have F12 := fun_mk (st := s_box_l) l12 c12 k12
  have F13 := fun_mk (st := s_take_l) l13 c13 k13
  have F14 := fun_mk (st := s_strewn_l) l14 c14 k14
  have F15 := fun_mk (st := s_row_l) l15 c15 k15
  have F16 := fun_mk (st := s_links_l) l16 c16 k16
  have F17 := fun_mk (st := s_ringed_l) l17 c17 k17
  have F18 := fun_mk (st := s_depth_l) l18 c18 k18
  have F19 := fun_mk (st := s_right_l) l19 c19 k19
  have F20 := fun_mk (st := s_law) l20 c20 k20
  have b0 := F0.binds (ps := ["thing"]) fun _ _ _ _ _ _ us hl => match us, hl with | [_], _ => rfl
  have g0 := PySem.W.mg_of X G a0
  have b1 := F1.binds (ps := ["company", "person", "there"]) fun _ _ _ _ _ _ us hl => match us, hl with | [_, _, _], _ => rfl
  have g1 := PySem.W.mg_of X G a1
  have b2 := F2.binds (ps := ["company", "person", "there"]) fun _ _ _ _ _ _ us hl => match us, hl with | [_, _, _], _ => rfl
  have g2 := PySem.W.mg_of X G a2
  have b3 := F3.binds (ps := ["company", "people"]) fun _ _ _ _ _ _ us hl => match us, hl with | [_, _], _ => rfl
  have g3 := PySem.W.mg_of X G a3
  have b4 := F4.binds (ps := ["company", "begin", "barred"]) fun _ _ _ _ _ _ us hl => match us, hl with | [_, _, _], _ => rfl
  have g4 := PySem.W.mg_of X G a4
  have b5 := F5.binds (ps := ["company", "begin", "barred"]) fun _ _ _ _ _ _ us hl => match us, hl with | [_, _, _], _ => rfl
  have g5 := PySem.W.mg_of X G a5
  have b6 := F6.binds (ps := ["company"]) fun _ _ _ _ _ _ us hl => match us, hl with | [_], _ => rfl
  have g6 := PySem.W.mg_of X G a6
  have b7 := F7.binds (ps := ["company"]) fun _ _ _ _ _ _ us hl => match us, hl with | [_], _ => rfl
  have g7 := PySem.W.mg_of X G a7
  have b8 := F8.binds (ps := ["company"]) fun _ _ _ _ _ _ us hl => match us, hl with | [_], _ => rfl
  have g8 := PySem.W.mg_of X G a8
  have b9 := F9.binds (ps := ["company", "row"]) fun _ _ _ _ _ _ us hl => match us, hl with | [_, _], _ => rfl
  have g9 := PySem.W.mg_of X G a9
  have b10 := F10.binds (ps := ["company", "thing"]) fun _ _ _ _ _ _ us hl => match us, hl with | [_, _], _ => rfl
  have g10 := PySem.W.mg_of X G a10
  have b11 := F11.binds (ps := ["_law_script", "_law_k"]) fun _ _ _ _ _ _ us hl => match us, hl with | [_, _], _ => rfl
  have g11 := PySem.W.mg_of X G a11
  have b12 := F12.binds (ps := ["_law_script", "_law_k"]) fun _ _ _ _ _ _ us hl => match us, hl with | [_, _], _ => rfl
  have g12 := PySem.W.mg_of X G a12
  have b13 := F13.binds (ps := ["_law_box_here", "_law_below"]) fun _ _ _ _ _ _ us hl => match us, hl with | [_, _], _ => rfl
  have g13 := PySem.W.mg_of X G a13
  have b14 := F14.binds (ps := ["_law_box_here", "_law_some"]) fun _ _ _ _ _ _ us hl => match us, hl with | [_, _], _ => rfl
  have g14 := PySem.W.mg_of X G a14
  have b15 := F15.binds (ps := ["_law_box_here", "_law_crowd"]) fun _ _ _ _ _ _ us hl => match us, hl with | [_, _], _ => rfl
  have g15 := PySem.W.mg_of X G a15
  have b16 := F16.binds (ps := ["_law_box_here", "_law_count"]) fun _ _ _ _ _ _ us hl => match us, hl with | [_, _], _ => rfl
  have g16 := PySem.W.mg_of X G a16
  have b17 := F17.binds (ps := ["_law_links_here"]) fun _ _ _ _ _ _ us hl => match us, hl with | [_], _ => rfl
  have g17 := PySem.W.mg_of X G a17
  have b18 := F18.binds (ps := ["_law_links_here", "_law_ends"]) fun _ _ _ _ _ _ us hl => match us, hl with | [_, _], _ => rfl
  have g18 := PySem.W.mg_of X G a18
  have b19 := F19.binds (ps := ["_law_box_here"]) fun _ _ _ _ _ _ us hl => match us, hl with | [_], _ => rfl
  have g19 := PySem.W.mg_of X G a19
  have b20 := F20.binds (ps := ["_law_script"]) fun _ _ _ _ _ _ us hl => match us, hl with | [_], _ => rfl
  have g20 := PySem.W.mg_of X G a20
  refine ⟨PySem.W.fnOf "law" "law" (defArgs s_law) (defBody s_law) (defScope s_law) .none kV20 dc20 pm20 an20 cd20 ct20, fun s v => .of_eq rfl, fun base _ _ => ?_⟩
  have O0 : FnG l.prog w K mg base CX0 1 f11 _ ["_law_script", "_law_k"] (spW K T_cell) := ok_cell_at_l F11 B 
  have C1 : Cal l.prog w K mg base 1 "_law_cell_at" T_cell := cal_of O0 g11 F11.kp b11
  have O2 : FnG l.prog w K mg base CX0 2 f12 _ ["_law_script", "_law_k"] (spW K T_box) := ok_box_l F12 B C1
  have C3 : Cal l.prog w K mg base 2 "_law_box" T_box := cal_of O2 g12 F12.kp b12
  have O4 : FnG l.prog w K mg base CX0 1 f13 _ ["_law_box_here", "_law_below"] (spW K T_take) := ok_take_s F13 B
  have C5 : Cal l.prog w K mg base 1 "_law_take" T_take := cal_of O4 g13 F13.kp b13
  have O6 : FnG l.prog w K mg base CX0 2 f16 _ ["_law_box_here", "_law_count"] (spW K T_links) := ok_links_l F16 B C5
  have C7 : Cal l.prog w K mg base 2 "_law_links" T_links := cal_of O6 g16 F16.kp b16
  have O8 : FnG l.prog w K mg base CX0 2 f14 _ ["_law_box_here", "_law_some"] (spW K T_strewn) := ok_strewn_l F14 B C5
  have C9 : Cal l.prog w K mg base 2 "_law_strewn" T_strewn := cal_of O8 g14 F14.kp b14
  have O10 : FnG l.prog w K mg base CX0 1 f1 _ ["company", "person", "there"] (spW K T_cnt) := ok_count_there F1 B 
  have C11 : Cal l.prog w K mg base 1 "count_there" T_cnt := cal_of O10 g1 F1.kp b1
  have O12 : FnG l.prog w K mg base CX0 2 f2 _ ["company", "person", "there"] (spW K T_can) := ok_can_come F2 B C11
  have C13 : Cal l.prog w K mg base 2 "can_come" T_can := cal_of O12 g2 F2.kp b2
  have O14 : FnG l.prog w K mg base CX0 3 f3 _ ["company", "people"] (spW K T_next) := ok_next_people F3 B C13
  have C15 : Cal l.prog w K mg base 3 "next_people" T_next := cal_of O14 g3 F3.kp b3
  have O16 : FnG l.prog w K mg base CX0 4 f4 _ ["company", "begin", "barred"] (spW K T_rounds) := ok_all_rounds F4 B C15
  have C17 : Cal l.prog w K mg base 4 "all_rounds" T_rounds := cal_of O16 g4 F4.kp b4
  have O18 : FnG l.prog w K mg base CX0 5 f5 _ ["company", "begin", "barred"] (spW K T_closure) := ok_closure F5 B C17
  have C19 : Cal l.prog w K mg base 5 "closure" T_closure := cal_of O18 g5 F5.kp b5
  have O20 : FnG l.prog w K mg base CX0 6 f6 _ ["company"] (spW K T_great) := ok_greatest F6 B C19
  have C21 : Cal l.prog w K mg base 6 "greatest" T_great := cal_of O20 g6 F6.kp b6
  have O22 : FnG l.prog w K mg base CX0 7 f7 _ ["company"] (spW K T_never) := ok_never F7 B C21
  have C23 : Cal l.prog w K mg base 7 "never" T_never := cal_of O22 g7 F7.kp b7
  have O24 : FnG l.prog w K mg base CX0 2 f17 _ ["_law_links_here"] (spW K T_ringed) := ok_ringed_l F17 B 
  have C25 : Cal l.prog w K mg base 2 "_law_ringed" T_ringed := cal_of O24 g17 F17.kp b17
  have O26 : FnG l.prog w K mg base CX0 3 f15 _ ["_law_box_here", "_law_crowd"] (spW K T_row) := ok_row_l F15 B C9
  have C27 : Cal l.prog w K mg base 3 "_law_row" T_row := cal_of O26 g15 F15.kp b15
  have O28 : FnG l.prog w K mg base CX0 3 f9 _ ["company", "row"] (spW K T_misfit) := ok_misfit F9 B C13
  have C29 : Cal l.prog w K mg base 3 "misfit" T_misfit := cal_of O28 g9 F9.kp b9
  have O30 : FnG l.prog w K mg base CX0 1 f0 _ ["thing"] (spW K T_isnum) := ok_is_number F0 B 
  have C31 : Cal l.prog w K mg base 1 "is_number" T_isnum := cal_of O30 g0 F0.kp b0
  have O32 : FnG l.prog w K mg base CX0 4 f10 _ ["company", "thing"] (spW K T_isord) := ok_is_order F10 B C31 C29
  have C33 : Cal l.prog w K mg base 4 "is_order" T_isord := cal_of O32 g10 F10.kp b10
  have O34 : FnG l.prog w K mg base CX0 3 f18 _ ["_law_links_here", "_law_ends"] (spW K T_depth) := ok_depth_l F18 B 
  have C35 : Cal l.prog w K mg base 3 "_law_depth" T_depth := cal_of O34 g18 F18.kp b18
  have O36 : FnG l.prog w K mg base CX0 5 f8 _ ["company"] (spW K T_rnds) := ok_rounds F8 B C17
  have C37 : Cal l.prog w K mg base 5 "rounds" T_rnds := cal_of O36 g8 F8.kp b8
  have O38 : FnG l.prog w K mg base CX0 13 f19 _ ["_law_box_here"] (spW K (T_right 60000)) := ok_right_l F19 B C7 C5 C9 C23 C25 C27 C29 C33 C35 C21 C37
  have C39 : Cal l.prog w K mg base 13 "_law_right" (T_right 60000) := cal_of O38 g19 F19.kp b19
  exact FnG.imp (ok_law F20 B C3 C39) fun vs H Q E h => law_end h
end Lw
open PySem PySem.W PyProof.Rows
set_option maxHeartbeats 0 in
theorem PySem.Challenge.cw_enoughcame_k66_whole_all_friends_or_one_holds : PySem.Challenge.rw_enoughcame_k66_whole_all_friends_or_one.Holds := by
  w_on; o_law; k_head; (case hw => w_witness2)
  k_fill
  refine Ec.walk_g (l := PySem.Challenge.rw_enoughcame_k66_whole_all_friends_or_one) (n := 63) (k := 14) (x := "_law_script") (sp := fun w => Lw.spLaw _) rfl (by decide) rfl ⟨rfl, by decide, by decide⟩ (fun w h Y => PySem.W.kIn_of Y) ?F (fun _ _ a ns hl _ hS => ⟨a, ns, rfl, hS, hl, fun _ => rfl⟩)
  case F =>
    intro w mg fa h KX G hmg
    refine' Lw.all_mk KX G hmg ?a0 ?l0 ?c0 ?k0 ?a1 ?l1 ?c1 ?k1 ?a2 ?l2 ?c2 ?k2 ?a3 ?l3 ?c3 ?k3 ?a4 ?l4 ?c4 ?k4 ?a5 ?l5 ?c5 ?k5 ?a6 ?l6 ?c6 ?k6 ?a7 ?l7 ?c7 ?k7 ?a8 ?l8 ?c8 ?k8 ?a9 ?l9 ?c9 ?k9 ?a10 ?l10 ?c10 ?k10 ?a11 ?l11 ?c11 ?k11 ?a12 ?l12 ?c12 ?k12 ?a13 ?l13 ?c13 ?k13 ?a14 ?l14 ?c14 ?k14 ?a15 ?l15 ?c15 ?k15 ?a16 ?l16 ?c16 ?k16 ?a17 ?l17 ?c17 ?k17 ?a18 ?l18 ?c18 ?k18 ?a19 ?l19 ?c19 ?k19 ?a20 ?l20 ?c20 ?k20 ?z0 ?z1 ?z2 ?z3 ?z4 ?z5 ?z6 ?z7 ?z8 ?z9 ?z10 ?z11 ?z12 ?z13 ?z14 ?z15 ?z16 ?z17 ?z18 ?z19
    (case a0 => k_is)
    (case l0 => k_is)
    (case c0 => k_is)
    (case k0 => k_is)
    (case a1 => k_is)
    (case l1 => k_is)
    (case c1 => k_is)
    (case k1 => k_is)
    (case a2 => k_is)
    (case l2 => k_is)
    (case c2 => k_is)
    (case k2 => k_is)
    (case a3 => k_is)
    (case l3 => k_is)
    (case c3 => k_is)
    (case k3 => k_is)
    (case a4 => k_is)
    (case l4 => k_is)
    (case c4 => k_is)
    (case k4 => k_is)
    (case a5 => k_is)
    (case l5 => k_is)
    (case c5 => k_is)
    (case k5 => k_is)
    (case a6 => k_is)
    (case l6 => k_is)
    (case c6 => k_is)
    (case k6 => k_is)
    (case a7 => k_is)
    (case l7 => k_is)
    (case c7 => k_is)
    (case k7 => k_is)
    (case a8 => k_is)
    (case l8 => k_is)
    (case c8 => k_is)
    (case k8 => k_is)
    (case a9 => k_is)
    (case l9 => k_is)
    (case c9 => k_is)
    (case k9 => k_is)
    (case a10 => k_is)
    (case l10 => k_is)
    (case c10 => k_is)
    (case k10 => k_is)
    (case a11 => k_is)
    (case l11 => k_is)
    (case c11 => k_is)
    (case k11 => k_is)
    (case a12 => k_is)
    (case l12 => k_is)
    (case c12 => k_is)
    (case k12 => k_is)
    (case a13 => k_is)
    (case l13 => k_is)
    (case c13 => k_is)
    (case k13 => k_is)
    (case a14 => k_is)
    (case l14 => k_is)
    (case c14 => k_is)
    (case k14 => k_is)
    (case a15 => k_is)
    (case l15 => k_is)
    (case c15 => k_is)
    (case k15 => k_is)
    (case a16 => k_is)
    (case l16 => k_is)
    (case c16 => k_is)
    (case k16 => k_is)
    (case a17 => k_is)
    (case l17 => k_is)
    (case c17 => k_is)
    (case k17 => k_is)
    (case a18 => k_is)
    (case l18 => k_is)
    (case c18 => k_is)
    (case k18 => k_is)
    (case a19 => k_is)
    (case l19 => k_is)
    (case c19 => k_is)
    (case k19 => k_is)
    (case a20 => k_is)
    (case l20 => k_is)
    (case c20 => k_is)
    (case k20 => k_is)
    (case z0 => k_is)
    (case z1 => k_is)
    (case z2 => k_is)
    (case z3 => k_is)
    (case z4 => k_is)
    (case z5 => k_is)
    (case z6 => k_is)
    (case z7 => k_is)
    (case z8 => k_is)
    (case z9 => k_is)
    (case z10 => k_is)
    (case z11 => k_is)
    (case z12 => k_is)
    (case z13 => k_is)
    (case z14 => k_is)
    (case z15 => k_is)
    (case z16 => k_is)
    (case z17 => k_is)
    (case z18 => k_is)
    (case z19 => k_is)
