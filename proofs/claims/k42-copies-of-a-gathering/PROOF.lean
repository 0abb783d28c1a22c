import PyProof.Rows.All
import Wide.All
import OpenK.AllK
import Wide.FinOn
import HandS.ForMost
import PyProof.ReprRoads
import HandS.ExcOwn
import KE.GoesEnum
import KE.GoesMore
import HandS.Zip
import HandS.TupAny
import HandS.TupMul
import HandS.Conv
import HandS.IsInst
import HandS.SortInts
import HandS.Ends
import HandS.TryOnly
import HandS.Deep
import HandS.TupLe
import HandS.Strs
import HandS.Style
import KE.DataMinMax
import KE.SortData
import HandS.SetFor
import HandS.TupSets
import HandS.Iter
import KE.KDictPairs
import HandS.ExcInit
import HandS.ExcIs
import HandS.ExcField
import HandS.FStr
import HandS.FStrTup
import KE.KExcInit
import KE.KTryMore
import PyProof.ExcBaseAll.LookupError
import PyProof.ExcBaseAll.OverflowError
import PyProof.ExcBaseAll.RuntimeError
import PyProof.ExcBaseAll.ValueError
import KE.KExcIs
import HandS.WordsExc
import PyProof.ReprLen
import PyProof.FitsInt
import HandS.DictTup
import HandS.TupLen
import KE.KDictDisplayH
import HandS.Finally
import OpenK.KOps
import HandS.Defaults
import HandS.SortKw
import PyProof.InstNe
import HandS.ExcValue
import PyProof.EqKinds
import PySem.Challenge.RW_enoughcame_k42_copies_of_a_gathering
set_option Elab.async false
set_option linter.all false
set_option maxRecDepth 100000
set_option maxHeartbeats 4000000
namespace Ec
open PySem PySem.Spec PyProof.Rows L2
theorem same_t {K : PySem.W.Frag} {H H' : Hp} {a : Addr} {xs : List V} (e : Same H H') (h : SqT K H a xs) : SqT K H' a xs := by
  rcases h with (h | ⟨o, h⟩) | h
  · exact .inl (.inl (e _ _ h))
  · exact .inl (.inr ⟨o, e _ _ h⟩)
  · exact .inr h
theorem same_new {H : Hp} {p : Addr} {o : HO} (h : H p = none) : Same H (upd H p o) := fun b x e => by
  rw [upd_ne (ne_of_none e h)]
  exact e
mutual
inductive De (K : PySem.W.Frag) (F : Hp) : V → PyData → Prop
  | non : De K F .non .none
  | bl (b : Bool) : De K F (.bl b) (.bool b)
  | int (i : Int) : De K F (.int i) (.int i)
  | str (x : Str) : De K F (.str x) (.str x)
  | lst {a : Addr} {vs : List V} {ds : List PyData} (h : F a = some (.lst vs)) (g : DeAll K F vs ds) : De K F (.ref a) (.list ds)
  | tup {a : Addr} {vs : List V} {ds : List PyData} {o : Obj} (h : F a = some (.frz o (.tup vs))) (n : o.dict = none) (g : DeAll K F vs ds) : De K F (.ref a) (.tuple ds)
inductive DeAll (K : PySem.W.Frag) (F : Hp) : List V → List PyData → Prop
  | nil : DeAll K F [] []
  | cons {v : V} {vs : List V} {d : PyData} {ds : List PyData} (h : De K F v d) (g : DeAll K F vs ds) : DeAll K F (v :: vs) (d :: ds)
end
mutual
theorem De.dp {K : PySem.W.Frag} {F : Hp} : ∀ {d : PyData} {v : V}, De K F v d → Dp K F v d
  | .none, _, h => by cases h; exact .non
  | .bool b, _, h => by cases h; exact .bl b
  | .int i, _, h => by cases h; exact .int i
  | .str x, _, h => by cases h; exact .str x
  | .list ds, _, h => by
    cases h with
    | lst hs ha => exact .lst (.of hs) ha.dps
  | .tuple ds, _, h => by
    cases h with
    | tup hs hn ha => exact .tup (.inl (.inr ⟨_, hs⟩)) ha.dps
  | .dict _, _, h => by cases h
theorem DeAll.dps {K : PySem.W.Frag} {F : Hp} : ∀ {ds : List PyData} {vs : List V}, DeAll K F vs ds → DpAll K F vs ds
  | [], _, h => by cases h; exact .nil
  | d :: ds, _, h => by
    cases h with
    | cons h1 h2 => exact .cons h1.dp h2.dps
end
mutual
theorem dp_up {K : PySem.W.Frag} {H H' : Hp} (e : Same H H') : ∀ (d : PyData) (v : V), De K H v d → De K H' v d
  | .none, _, h => by cases h; exact .non
  | .bool b, _, h => by cases h; exact .bl b
  | .int i, _, h => by cases h; exact .int i
  | .str x, _, h => by cases h; exact .str x
  | .list ds, _, h => by
    cases h with
    | lst hs ha => exact .lst (e _ _ hs) (dps_up e ds _ ha)
  | .tuple ds, _, h => by
    cases h with
    | tup hs hn ha => exact .tup (e _ _ hs) hn (dps_up e ds _ ha)
  | .dict _, _, h => by cases h
theorem dps_up {K : PySem.W.Frag} {H H' : Hp} (e : Same H H') : ∀ (ds : List PyData) (vs : List V), DeAll K H vs ds → DeAll K H' vs ds
  | [], _, h => by cases h; exact .nil
  | d :: ds, _, h => by
    cases h with
    | cons h1 h2 => exact .cons (dp_up e d _ h1) (dps_up e ds _ h2)
end
theorem dps_len {K : PySem.W.Frag} {H : Hp} : ∀ {ds : List PyData} {vs : List V}, DeAll K H vs ds → vs.length = ds.length
  | [], _, h => by cases h; rfl
  | d :: ds, _, h => by
    cases h with
    | cons h1 h2 => simp only [List.length_cons, dps_len h2]
theorem dps_get {K : PySem.W.Frag} {H : Hp} : ∀ {ds : List PyData} {vs : List V} {i : Nat} {d : PyData}, DeAll K H vs ds → ds[i]? = some d → ∃ v, vs[i]? = some v ∧ De K H v d
  | [], _, _, _, _, e => by simp at e
  | d :: ds, _, 0, _, h, e => by
    cases h with
    | cons h1 h2 =>
      simp at e
      subst e
      exact ⟨_, rfl, h1⟩
  | d :: ds, _, i + 1, x, h, e => by
    cases h with
    | cons h1 h2 =>
      obtain ⟨v, e1, e2⟩ := dps_get (i := i) (d := x) h2 (by simpa using e)
      exact ⟨v, by simpa using e1, e2⟩
theorem dps_app {K : PySem.W.Frag} {H : Hp} : ∀ {ds es : List PyData} {vs ws : List V}, DeAll K H vs ds → DeAll K H ws es → DeAll K H (vs ++ ws) (ds ++ es)
  | [], _, _, _, h, g => by cases h; exact g
  | d :: ds, _, _, _, h, g => by
    cases h with
    | cons h1 h2 => exact .cons h1 (dps_app h2 g)
theorem dps_take {K : PySem.W.Frag} {H : Hp} : ∀ {ds : List PyData} {vs : List V} (n : Nat), DeAll K H vs ds → DeAll K H (vs.take n) (ds.take n)
  | _, _, 0, _ => by simpa using DeAll.nil
  | [], _, n + 1, h => by cases h; simpa using DeAll.nil
  | d :: ds, _, n + 1, h => by
    cases h with
    | cons h1 h2 => exact .cons h1 (dps_take n h2)
theorem dps_drop {K : PySem.W.Frag} {H : Hp} : ∀ {ds : List PyData} {vs : List V} (n : Nat), DeAll K H vs ds → DeAll K H (vs.drop n) (ds.drop n)
  | _, _, 0, h => h
  | [], _, n + 1, h => by cases h; simpa using DeAll.nil
  | d :: ds, _, n + 1, h => by
    cases h with
    | cons h1 h2 => exact dps_drop n h2
theorem dp_int {K : PySem.W.Frag} {H : Hp} {v : V} {i : Int} (h : De K H v (.int i)) : v = .int i := by cases h; rfl
theorem dp_bl {K : PySem.W.Frag} {H : Hp} {v : V} {b : Bool} (h : De K H v (.bool b)) : v = .bl b := by cases h; rfl
theorem dp_non {K : PySem.W.Frag} {H : Hp} {v : V} (h : De K H v .none) : v = .non := by cases h; rfl
theorem dp_lst {K : PySem.W.Frag} {H : Hp} {v : V} {ds : List PyData} (h : De K H v (.list ds)) : ∃ a vs, v = .ref a ∧ SqL K H a vs ∧ DeAll K H vs ds := by
  cases h with
  | lst h1 h2 => exact ⟨_, _, rfl, .of h1, h2⟩
theorem dp_lstX {K : PySem.W.Frag} {H : Hp} {v : V} {ds : List PyData} (h : De K H v (.list ds)) : ∃ a vs, v = .ref a ∧ H a = some (.lst vs) ∧ DeAll K H vs ds := by
  cases h with
  | lst h1 h2 => exact ⟨_, _, rfl, h1, h2⟩
theorem dp_tupX {K : PySem.W.Frag} {H : Hp} {v : V} {ds : List PyData} (h : De K H v (.tuple ds)) : ∃ a vs o, v = .ref a ∧ H a = some (.frz o (.tup vs)) ∧ o.dict = none ∧ DeAll K H vs ds := by
  cases h with
  | tup h1 h2 h3 => exact ⟨_, _, _, rfl, h1, h2, h3⟩
theorem dp_tup {K : PySem.W.Frag} {H : Hp} {v : V} {ds : List PyData} (h : De K H v (.tuple ds)) : ∃ a vs, v = .ref a ∧ SqT K H a vs ∧ DeAll K H vs ds := by
  obtain ⟨a, vs, o, e, h1, _, h3⟩ := dp_tupX h
  exact ⟨a, vs, e, .inl (.inr ⟨o, h1⟩), h3⟩
abbrev intsD (ns : List Int) : List PyData := ns.map PyData.int
theorem dps_ints {K : PySem.W.Frag} {H : Hp} : ∀ {ns : List Int} {vs : List V}, DeAll K H vs (intsD ns) → vs = ns.map V.int
  | [], _, h => by cases h; rfl
  | n :: ns, _, h => by
    cases h with
    | cons h1 h2 =>
      rw [dp_int h1, dps_ints h2]
      rfl
theorem ints_dps {K : PySem.W.Frag} {H : Hp} : ∀ (ns : List Int), DeAll K H (ns.map V.int) (intsD ns)
  | [] => .nil
  | n :: ns => .cons (.int n) (ints_dps ns)
theorem dps_bls {K : PySem.W.Frag} {H : Hp} : ∀ {ns : List Bool} {vs : List V}, DeAll K H vs (ns.map PyData.bool) → vs = ns.map V.bl
  | [], _, h => by cases h; rfl
  | n :: ns, _, h => by
    cases h with
    | cons h1 h2 =>
      rw [dp_bl h1, dps_bls h2]
      rfl
inductive Cont where
  | l (ds : List PyData)
  | i (kvs : List (Int × PyData))
  | t (kvs : List (List Int × PyData))
  | o (C : Addr) (fs : List (Str × PyData))
instance : Coe (List PyData) Cont := ⟨Cont.l⟩
def hashI (k : List Int) : Int := reduceHash (Builtin.Tuple.tupleHashOf (k.map hashInt))
def DTO (a : Addr) (xs : List (List Int × Addr × Value)) : HO := .ext fun h => (a == sysModules) = false ∧ ∃ o es ep, h.get? a = some o ∧ o.ExactDict ∧ o.data = .dict es ep ∧ es.toList = xs.map (fun x => { hash := hashI x.1, key := .ref x.2.1, val := x.2.2 }) ∧ (xs.map (·.1)).Nodup
def DtE (K : PySem.W.Frag) (F : Hp) (x : List Int × Addr × Value) (p : List Int × PyData) : Prop := x.1 = p.1 ∧ (∃ o, F x.2.1 = some (.frz o (.tup (p.1.map V.int))) ∧ o.dict = none) ∧ ∃ w, RelV w x.2.2 ∧ De K F w p.2
def ZkOk (K : PySem.W.Frag) (F : Hp) (p : Addr) (kvs : List (List Int × PyData)) : Prop := ∃ (od : Obj) (xs : List (List Int × Addr × Value)), F p = some (.frz od (.frz od (DTO p xs))) ∧ Paired (DtE K F) xs kvs
theorem ZkOk.up {K : PySem.W.Frag} {F F' : Hp} {p : Addr} {kvs : List (List Int × PyData)} (e : Same F F') (h : ZkOk K F p kvs) : ZkOk K F' p kvs := by
  obtain ⟨od, xs, h1, h2⟩ := h
  exact ⟨od, xs, e _ _ h1, Paired.mapP h2 fun x p ⟨e1, ⟨o, e2, e3⟩, w, e4, e5⟩ => ⟨e1, ⟨o, e _ _ e2, e3⟩, w, e4, dp_up e _ _ e5⟩⟩
def ptr (p : Addr) : PyData := .dict [(.int p, .none)]
def zd (p : Addr) (kvs : List (List Int × PyData)) : PyData := .dict ((.int p, .str "z") :: kvs.map fun q => (.tuple (intsD q.1), q.2))
def ptr2 (a b : Addr) : PyData := .dict [(.int a, .int b)]
def exI (p C : Addr) (f : Str) (x : PyData) : PyData := .dict [(.str f, x), (.int p, .int C)]
def exv (a : Addr) (cls : Value) (d : Option Addr) : HO := .ext fun h => ∃ oe vs, h.get? a = some oe ∧ oe.cls = cls ∧ oe.dict = d ∧ oe.data = .fields vs
def isP : PyData → Bool
  | .dict _ => true
  | _ => false
inductive Dq (K : PySem.W.Frag) (F : Hp) : V → PyData → Prop
  | d {v : V} {x : PyData} (h : De K F v x) : Dq K F v x
  | p (a : Addr) : Dq K F (.ref a) (ptr a)
  | z {a : Addr} {kvs : List (List Int × PyData)} (h : ZkOk K F a kvs) : Dq K F (.ref a) (zd a kvs)
  | q {T a b : Addr} {o : Obj} (h : F T = some (.frz o (.tup [.ref a, .ref b]))) (n : o.dict = none) : Dq K F (.ref T) (ptr2 a b)
  | e {p C dd : Addr} {f : Str} {x : PyData} {w : V} (h : F p = some (exv p (.ref C) (some dd))) (g : F dd = some (.xd [(f, w)])) (o : De K F w x) : Dq K F (.ref p) (exI p C f x)
abbrev DqAll (K : PySem.W.Frag) (F : Hp) : List V → List PyData → Prop := Paired (Dq K F)
abbrev plS (ds : List PyData) : Prop := ∀ d ∈ ds, isP d = false
theorem Dq.up {K : PySem.W.Frag} {H H' : Hp} (e : Same H H') {v : V} {d : PyData} : Dq K H v d → Dq K H' v d
  | .d h => .d (dp_up e _ _ h)
  | .p a => .p a
  | .z h => .z (h.up e)
  | .q h n => .q (e _ _ h) n
  | .e h g o => .e (e _ _ h) (e _ _ g) (dp_up e _ _ o)
theorem dqs_up {K : PySem.W.Frag} {H H' : Hp} (e : Same H H') : ∀ (ds : List PyData) (vs : List V), DqAll K H vs ds → DqAll K H' vs ds
  | _, _, .nil => .nil
  | _, _, .cons h t => .cons (h.up e) (dqs_up e _ _ t)
theorem dqs_len {K : PySem.W.Frag} {H : Hp} : ∀ {ds : List PyData} {vs : List V}, DqAll K H vs ds → vs.length = ds.length
  | _, _, .nil => rfl
  | _, _, .cons _ t => by simp only [List.length_cons, dqs_len t]
theorem dqs_get {K : PySem.W.Frag} {H : Hp} : ∀ {ds : List PyData} {vs : List V} {i : Nat} {d : PyData}, DqAll K H vs ds → ds[i]? = some d → ∃ v, vs[i]? = some v ∧ Dq K H v d
  | _, _, _, _, .nil, e => by simp at e
  | _, _, 0, _, .cons h _, e => by
    simp at e
    subst e
    exact ⟨_, rfl, h⟩
  | _, _, i + 1, x, .cons _ t, e => by
    obtain ⟨v, e1, e2⟩ := dqs_get (i := i) (d := x) t (by simpa using e)
    exact ⟨v, by simpa using e1, e2⟩
theorem dqs_app {K : PySem.W.Frag} {H : Hp} : ∀ {ds es : List PyData} {vs ws : List V}, DqAll K H vs ds → DqAll K H ws es → DqAll K H (vs ++ ws) (ds ++ es)
  | _, _, _, _, .nil, g => g
  | _, _, _, _, .cons h t, g => .cons h (dqs_app t g)
theorem dqs_set {K : PySem.W.Frag} {H : Hp} {v : V} {d : PyData} (hv : Dq K H v d) : ∀ {ds : List PyData} {vs : List V} (n : Nat), DqAll K H vs ds → DqAll K H (vs.set n v) (ds.set n d)
  | _, _, _, .nil => .nil
  | _, _, 0, .cons _ t => .cons hv t
  | _, _, n + 1, .cons h t => .cons h (dqs_set hv n t)
theorem DqAll.of {K : PySem.W.Frag} {H : Hp} : ∀ {ds : List PyData} {vs : List V}, DeAll K H vs ds → DqAll K H vs ds
  | [], _, h => by
    cases h
    exact .nil
  | d :: ds, _, h => by
    cases h with
    | cons h1 h2 => exact .cons (.d h1) (DqAll.of h2)
theorem Dq.to {K : PySem.W.Frag} {H : Hp} {v : V} {d : PyData} (e : isP d = false) : Dq K H v d → De K H v d
  | .d h => h
  | .p a => by cases e
  | .z h => by cases e
  | .q _ _ => by cases e
  | .e _ _ _ => by cases e
theorem DqAll.to {K : PySem.W.Frag} {H : Hp} : ∀ {ds : List PyData} {vs : List V}, plS ds → DqAll K H vs ds → DeAll K H vs ds
  | _, _, _, .nil => .nil
  | _, _, e, .cons h t => .cons (h.to (e _ List.mem_cons_self)) (DqAll.to (fun d m => e d (List.mem_cons_of_mem _ m)) t)
theorem plS_map {α : Type} {l : List α} {f : α → PyData} (h : ∀ x, isP (f x) = false) : plS (l.map f) := fun d m => by
  obtain ⟨x, _, rfl⟩ := List.mem_map.mp m
  exact h x
theorem plS_app {as bs : List PyData} (h : plS as) (g : plS bs) : plS (as ++ bs) := fun d m => (List.mem_append.mp m).elim (h d) (g d)
theorem plS_nil : plS [] := fun _ h => by cases h
theorem plS_cons {a : PyData} {as : List PyData} (h : isP a = false) (g : plS as) : plS (a :: as) := fun d m => by
  rcases List.mem_cons.mp m with rfl | m
  · exact h
  · exact g d m
def FlE (K : PySem.W.Frag) (F : Hp) (x : Str × V) (p : Str × PyData) : Prop := x.1 = p.1 ∧ Dq K F x.2 p.2
theorem FlE.up {K : PySem.W.Frag} {F F' : Hp} (e : Same F F') {xs : List (Str × V)} {fs : List (Str × PyData)} (h : Paired (FlE K F) xs fs) : Paired (FlE K F') xs fs := Paired.mapP h fun x p ⟨a, b⟩ => ⟨a, b.up e⟩
def CelOk (K : PySem.W.Frag) (F H : Hp) (b : Addr) : Cont → Prop
  | .l ds => ∃ vs, H b = some (.lst vs) ∧ DqAll K F vs ds
  | .i kvs => ∃ ws : List V, DeAll K F ws (kvs.map Prod.snd) ∧ H b = some (.dK (List.zipWith (fun k w => (Sum.inl k.1, w)) kvs ws))
  | .t kvs => ∃ xs, H b = some (DTO b xs) ∧ Paired (DtE K F) xs kvs
  | .o C fs => ∃ (dx : Addr) (vs : List (Str × V)), H b = some (.ins C dx vs) ∧ Paired (FlE K F) vs fs
def LkOk (K : PySem.W.Frag) (F : Hp) (b : Addr) : Cont → Prop
  | .l _ => False
  | .i kvs => ∃ (od : Obj) (ws : List V), DeAll K F ws (kvs.map Prod.snd) ∧ F b = some (.frz od (.dK (List.zipWith (fun k w => (Sum.inl k.1, w)) kvs ws)))
  | .t kvs => ∃ (od : Obj) (xs : List (List Int × Addr × Value)), F b = some (.frz od (DTO b xs)) ∧ Paired (DtE K F) xs kvs
  | .o C fs => ∃ (od : Obj) (dx : Addr) (vs : List (Str × V)), F b = some (.frz od (.ins C dx vs)) ∧ Paired (FlE K F) vs fs
theorem LkOk.up {K : PySem.W.Frag} {F F' : Hp} {b : Addr} {c : Cont} (e : Same F F') (h : LkOk K F b c) : LkOk K F' b c := by
  cases c with
  | l ds => exact h
  | i kvs =>
    obtain ⟨od, ws, h1, h2⟩ := h
    exact ⟨od, ws, dps_up e _ _ h1, e _ _ h2⟩
  | t kvs =>
    obtain ⟨od, xs, h1, h2⟩ := h
    exact ⟨od, xs, e _ _ h1, Paired.mapP h2 fun x p ⟨e1, ⟨o, e2, e3⟩, w, e4, e5⟩ => ⟨e1, ⟨o, e _ _ e2, e3⟩, w, e4, dp_up e _ _ e5⟩⟩
  | o C fs =>
    obtain ⟨od, dx, vs, h1, h2⟩ := h
    exact ⟨od, dx, vs, e _ _ h1, FlE.up e h2⟩
inductive Vd where
  | d (x : PyData)
  | a (p : Addr)
  | w (x : PyData)
  | s (ns : List Int)
  | k (p : Addr) (c : Cont)
  | e (p C : Addr) (f : Str) (x : PyData)
  | z (p : Addr) (kvs : List (List Int × PyData))
  | q (a b : Addr)
  | m (p : Addr) (b : Bool) (ds : List PyData)
abbrev Vd.x (ds : List PyData) : Vd := .d (.tuple ds)
abbrev Cells := List (Addr × Cont)
abbrev Dl := List (Option Vd)
abbrev ks (μ : Cells) : List Addr := μ.map Prod.fst
def VOk (K : PySem.W.Frag) (F : Hp) : Vd → V → Prop
  | .d x, v => De K F v x
  | .a p, v => v = .ref p
  | .s ns, v => ∃ a, v = .ref a ∧ SqL K F a (ns.map V.int)
  | .w (.list ds), v => ∃ a vs, v = .ref a ∧ SqT K F a vs ∧ DqAll K F vs ds
  | .w x, v => ∃ a vs ds, x = .tuple ds ∧ v = .ref a ∧ SqT K F a vs ∧ DeAll K F vs ds
  | .k p c, v => v = .ref p ∧ LkOk K F p c
  | .e p C f x, v => v = .ref p ∧ ∃ (dd : Addr) (w : V), F p = some (exv p (.ref C) (some dd)) ∧ F dd = some (.xd [(f, w)]) ∧ De K F w x
  | .z p kvs, v => v = .ref p ∧ ZkOk K F p kvs
  | .q a b, v => ∃ (T : Addr) (o : Obj), v = .ref T ∧ F T = some (.frz o (.tup [.ref a, .ref b])) ∧ o.dict = none
  | .m p true ds, v => v = .ref p ∧ ∃ vs o, F p = some (.frz o (.tup vs)) ∧ o.dict = none ∧ DqAll K F vs ds
  | .m p false ds, v => v = .ref p ∧ ∃ vs, F p = some (.lst vs) ∧ DqAll K F vs ds
theorem VOk.up {K : PySem.W.Frag} {F F' : Hp} (e : Same F F') : ∀ {x : Vd} {v : V}, VOk K F x v → VOk K F' x v
  | .d x, _, h => dp_up e x _ h
  | .a _, _, h => h
  | .s ns, _, ⟨a, e1, e2⟩ => ⟨a, e1, e.seq e2⟩
  | .w (.list _), _, ⟨a, vs, e2, e3, e4⟩ => ⟨a, vs, e2, same_t e e3, dqs_up e _ _ e4⟩
  | .w (.tuple _), _, ⟨a, vs, ds, e1, e2, e3, e4⟩ => ⟨a, vs, ds, e1, e2, same_t e e3, dps_up e _ _ e4⟩
  | .w .none, _, ⟨_, _, _, e1, _⟩ => by cases e1
  | .w (.bool _), _, ⟨_, _, _, e1, _⟩ => by cases e1
  | .w (.int _), _, ⟨_, _, _, e1, _⟩ => by cases e1
  | .w (.str _), _, ⟨_, _, _, e1, _⟩ => by cases e1
  | .w (.dict _), _, ⟨_, _, _, e1, _⟩ => by cases e1
  | .k p c, _, ⟨e1, e2⟩ => ⟨e1, e2.up e⟩
  | .e p C f x, _, ⟨e1, dd, w, e2, e3, e4⟩ => ⟨e1, dd, w, e _ _ e2, e _ _ e3, dp_up e _ _ e4⟩
  | .z p kvs, _, ⟨e1, e2⟩ => ⟨e1, e2.up e⟩
  | .q a b, _, ⟨T, o, e1, e2, e3⟩ => ⟨T, o, e1, e _ _ e2, e3⟩
  | .m p true ds, _, ⟨e1, vs, o, h1, h2, h3⟩ => ⟨e1, vs, o, e _ _ h1, h2, dqs_up e _ _ h3⟩
  | .m p false ds, _, ⟨e1, vs, h1, h3⟩ => ⟨e1, vs, e _ _ h1, dqs_up e _ _ h3⟩
abbrev VAll (K : PySem.W.Frag) (F : Hp) : List Vd → List V → Prop := Paired (VOk K F)
theorem VAll.up {K : PySem.W.Frag} {F F' : Hp} (e : Same F F') : ∀ {xs : List Vd} {vs : List V}, VAll K F xs vs → VAll K F' xs vs
  | _, _, .nil => .nil
  | _, _, .cons h t => .cons (h.up e) (VAll.up e t)
def Own : HO → Prop
  | .tup _ => False
  | .frz _ _ => False
  | _ => True
theorem CelOk.obj {K : PySem.W.Frag} {F H : Hp} {b : Addr} {c : Cont} (h : CelOk K F H b c) : ∃ o, H b = some o ∧ Own o := by
  cases c with
  | l ds =>
    obtain ⟨vs, e, _⟩ := h
    exact ⟨_, e, trivial⟩
  | i kvs =>
    obtain ⟨ws, _, e⟩ := h
    exact ⟨_, e, trivial⟩
  | t kvs =>
    obtain ⟨xs, e, _⟩ := h
    exact ⟨_, e, trivial⟩
  | o C fs =>
    obtain ⟨dx, vs, e, _⟩ := h
    exact ⟨_, e, trivial⟩
theorem CelOk.ne {K : PySem.W.Frag} {F H : Hp} {b : Addr} {c : Cont} (h : CelOk K F H b c) : H b ≠ none := by
  obtain ⟨o, e, _⟩ := h.obj
  rw [e]
  exact fun z => by cases z
theorem CelOk.to {K : PySem.W.Frag} {F F' H H' : Hp} {b : Addr} {c : Cont} (h : CelOk K F H b c) (e : Same F F') (k : ∀ o, H b = some o → H' b = some o) : CelOk K F' H' b c := by
  cases c with
  | l ds =>
    obtain ⟨vs, h1, h2⟩ := h
    exact ⟨vs, k _ h1, dqs_up e _ _ h2⟩
  | i kvs =>
    obtain ⟨ws, h1, h2⟩ := h
    exact ⟨ws, dps_up e _ _ h1, k _ h2⟩
  | t kvs =>
    obtain ⟨xs, h1, h2⟩ := h
    exact ⟨xs, k _ h1, Paired.mapP h2 fun x p ⟨e1, ⟨o, e2, e3⟩, w, e4, e5⟩ => ⟨e1, ⟨o, e _ _ e2, e3⟩, w, e4, dp_up e _ _ e5⟩⟩
  | o C fs =>
    obtain ⟨dx, vs, h1, h2⟩ := h
    exact ⟨dx, vs, k _ h1, FlE.up e h2⟩
structure RpM (K : PySem.W.Frag) (F H : Hp) (μ : Cells) : Prop where
  ex : Same F H
  nd : (ks μ).Nodup
  cel : ∀ b c, (b, c) ∈ μ → F b = none ∧ CelOk K F H b c
structure Rp (K : PySem.W.Frag) (F H : Hp) (σ : L2.St) (δ : Dl) (μ : Cells) : Prop where
  m : RpM K F H μ
  len : σ.length = δ.length
  env : ∀ (i : Nat) (x : Vd), δ[i]? = some (some x) → ∃ v, σ[i]? = some (some v) ∧ VOk K F x v
structure Fw (bs bs' : List Addr) (F H F' H' : Hp) : Prop where
  f : Same F F'
  k : ∀ b o, H b = some o → b ∉ bs → H' b = some o
  c : ∀ b, F b = none → H b ≠ none → b ∉ bs → F' b = none
  s : ∀ b ∈ bs', b ∈ bs ∨ H b = none
theorem Fw.refl {bs : List Addr} {F H : Hp} : Fw bs bs F H F H := ⟨Same.refl F, fun _ _ e _ => e, fun _ e _ _ => e, fun _ h => .inl h⟩
theorem Fw.trans {b0 b1 b2 : List Addr} {F H F1 H1 F2 H2 : Hp} (x : Fw b0 b1 F H F1 H1) (y : Fw b1 b2 F1 H1 F2 H2) : Fw b0 b2 F H F2 H2 := by
  have out : ∀ b, H b ≠ none → b ∉ b0 → b ∉ b1 := fun b h n m => (x.s b m).elim n h
  refine ⟨x.f.trans y.f, fun b o e n => y.k b o (x.k b o e n) (out b (by rw [e]; exact fun z => by cases z) n), fun b e h n => ?_, fun b m => ?_⟩
  · refine y.c b (x.c b e h n) ?_ (out b h n)
    cases q : H b with
    | none => exact absurd q h
    | some o =>
      rw [x.k b o q n]
      exact fun z => by cases z
  · rcases y.s b m with h | h
    · exact x.s b h
    · cases q : H b with
      | none => exact .inr rfl
      | some o =>
        by_cases n : b ∈ b0
        · exact .inl n
        · rw [x.k b o q n] at h
          cases h
theorem RpM.up {K : PySem.W.Frag} {F H F' H' : Hp} {μ μr : Cells} {bs bs' : List Addr} (r : RpM K F H μr) (w : Fw bs bs' F H F' H') (n : ∀ b ∈ ks μr, b ∉ bs) : ∀ b c, (b, c) ∈ μr → F' b = none ∧ CelOk K F' H' b c := fun b c m => by
  obtain ⟨f, h⟩ := r.cel b c m
  have nb := n b (List.mem_map.mpr ⟨_, m, rfl⟩)
  exact ⟨w.c b f h.ne nb, h.to w.f fun o e => w.k b o e nb⟩
theorem Rp.to {K : PySem.W.Frag} {F H F' H' : Hp} {σ : L2.St} {δ : Dl} {μ μ' : Cells} (r : Rp K F H σ δ μ) (e : Same F F') (m : RpM K F' H' μ') : Rp K F' H' σ δ μ' :=
  ⟨m, r.len, fun i x h => by
    obtain ⟨v, h1, h2⟩ := r.env i x h
    exact ⟨v, h1, h2.up e⟩⟩
theorem Rp.put {K : PySem.W.Frag} {F H : Hp} {σ : L2.St} {δ : Dl} {μ : Cells} {x : Vd} {v : V} (r : Rp K F H σ δ μ) (i : Nat) (h : VOk K F x v) : Rp K F H (σ.set i (some v)) (δ.set i (some x)) μ := by
  refine ⟨r.m, by rw [List.length_set, List.length_set, r.len], fun j y e => ?_⟩
  by_cases hj : i = j
  · subst hj
    by_cases hl : i < δ.length
    · rw [List.getElem?_set_self hl] at e
      cases e
      exact ⟨v, List.getElem?_set_self (by rw [r.len]; exact hl), h⟩
    · rw [List.getElem?_eq_none (by rw [List.length_set]; omega)] at e
      cases e
  · rw [List.getElem?_set_ne hj] at e
    obtain ⟨u, h1, h2⟩ := r.env j y e
    exact ⟨u, by rw [List.getElem?_set_ne hj]; exact h1, h2⟩
theorem Rp.out {K : PySem.W.Frag} {F H : Hp} {σ : L2.St} {δ : Dl} {μ : Cells} (r : Rp K F H σ δ μ) (i : Nat) : Rp K F H (σ.set i none) (δ.set i none) μ := by
  refine ⟨r.m, by rw [List.length_set, List.length_set, r.len], fun j y e => ?_⟩
  by_cases hj : i = j
  · subst hj
    by_cases hl : i < δ.length
    · rw [List.getElem?_set_self hl] at e
      cases e
    · rw [List.getElem?_eq_none (by rw [List.length_set]; omega)] at e
      cases e
  · rw [List.getElem?_set_ne hj] at e
    obtain ⟨u, h1, h2⟩ := r.env j y e
    exact ⟨u, by rw [List.getElem?_set_ne hj]; exact h1, h2⟩
def wipeD (δ : Dl) : List Nat → Dl
  | [] => δ
  | v :: vs => (wipeD δ vs).set v none
theorem Rp.wiped {K : PySem.W.Frag} {F H : Hp} {σ : L2.St} {δ : Dl} {μ : Cells} (r : Rp K F H σ δ μ) : ∀ vs : List Nat, Rp K F H (wipe σ vs) (wipeD δ vs) μ
  | [] => r
  | v :: vs => (Rp.wiped r vs).out v
theorem RpM.new {K : PySem.W.Frag} {F H : Hp} {μ : Cells} {p : Addr} {o : HO} (r : RpM K F H μ) (np : H p = none) : RpM K (upd F p o) (upd H p o) μ ∧ Fw (ks μ) (ks μ) F H (upd F p o) (upd H p o) := by
  have fp : F p = none := r.ex.free np
  have ne : ∀ b, H b ≠ none → b ≠ p := fun b h z => h (z ▸ np)
  refine ⟨⟨fun b x e => ?_, r.nd, fun b c m => ?_⟩, same_new fp, fun b x e _ => ?_, fun b e h _ => ?_, fun b m => .inl m⟩
  · by_cases hb : b = p
    · subst hb
      rw [upd_same] at e ⊢
      exact e
    · rw [upd_ne hb] at e ⊢
      exact r.ex b x e
  · obtain ⟨f, h⟩ := r.cel b c m
    have nb : b ≠ p := ne b h.ne
    exact ⟨by rw [upd_ne nb]; exact f, h.to (same_new fp) fun o e => by rw [upd_ne nb]; exact e⟩
  · rw [upd_ne (ne b (by rw [e]; exact fun z => by cases z))]
    exact e
  · rw [upd_ne (ne b h)]
    exact e
theorem RpM.cellO {K : PySem.W.Frag} {F H : Hp} {μ : Cells} {p : Addr} {o : HO} {c : Cont} (r : RpM K F H μ) (np : H p = none) (h : CelOk K F (upd H p o) p c) : RpM K F (upd H p o) ((p, c) :: μ) ∧ Fw (ks μ) (ks ((p, c) :: μ)) F H F (upd H p o) := by
  have fp : F p = none := r.ex.free np
  have ne : ∀ b, H b ≠ none → b ≠ p := fun b h z => h (z ▸ np)
  have out : p ∉ ks μ := fun m => by
    obtain ⟨⟨b, es⟩, m1, m2⟩ := List.mem_map.mp m
    have m2' : b = p := m2
    exact (r.cel b es m1).2.ne (by rw [m2', np])
  refine ⟨⟨fun b x e => ?_, List.nodup_cons.mpr ⟨out, r.nd⟩, fun b es m => ?_⟩, Same.refl F, fun b x e _ => ?_, fun b e _ _ => e, fun b m => ?_⟩
  · rw [upd_ne (ne_of_none e fp)]
    exact r.ex b x e
  · rcases List.mem_cons.mp m with m | m
    · cases m
      exact ⟨fp, h⟩
    · obtain ⟨f, g⟩ := r.cel b es m
      exact ⟨f, g.to (Same.refl F) fun o e => by rw [upd_ne (ne b g.ne)]; exact e⟩
  · rw [upd_ne (ne b (by rw [e]; exact fun z => by cases z))]
    exact e
  · rcases List.mem_cons.mp m with m | m
    · exact .inr (m ▸ np)
    · exact .inl m
theorem RpM.cellQ {K : PySem.W.Frag} {F H : Hp} {μ : Cells} {p : Addr} {vs : List V} {ds : List PyData} (r : RpM K F H μ) (np : H p = none) (h : DqAll K F vs ds) : RpM K F (upd H p (.lst vs)) ((p, ds) :: μ) ∧ Fw (ks μ) (ks ((p, (ds : Cont)) :: μ)) F H F (upd H p (.lst vs)) :=
  r.cellO np ⟨vs, upd_same, h⟩
theorem RpM.cell {K : PySem.W.Frag} {F H : Hp} {μ : Cells} {p : Addr} {vs : List V} {ds : List PyData} (r : RpM K F H μ) (np : H p = none) (h : DeAll K F vs ds) : RpM K F (upd H p (.lst vs)) ((p, ds) :: μ) ∧ Fw (ks μ) (ks ((p, (ds : Cont)) :: μ)) F H F (upd H p (.lst vs)) := r.cellQ np (.of h)
theorem RpM.freeze {K : PySem.W.Frag} {F H : Hp} {μ : Cells} {p : Addr} {ds : List PyData} (r : RpM K F H ((p, ds) :: μ)) (pl : plS ds) : ∃ vs, H p = some (.lst vs) ∧ DeAll K (upd F p (.lst vs)) vs ds ∧ RpM K (upd F p (.lst vs)) H μ ∧ Same F (upd F p (.lst vs)) ∧ F p = none ∧ p ∉ ks μ := by
  obtain ⟨f, vs, e, h⟩ := r.cel p ds List.mem_cons_self
  obtain ⟨out, nd⟩ := List.nodup_cons.mp r.nd
  refine ⟨vs, e, dps_up (same_new f) _ _ (h.to pl), ⟨fun b x q => ?_, nd, fun b es m => ?_⟩, same_new f, f, out⟩
  · by_cases hb : b = p
    · subst hb
      rw [upd_same] at q
      rw [e]
      exact q
    · rw [upd_ne hb] at q
      exact r.ex b x q
  · obtain ⟨f', g⟩ := r.cel b es (List.mem_cons_of_mem _ m)
    have nb : b ≠ p := fun z => out (z ▸ List.mem_map.mpr ⟨_, m, rfl⟩)
    exact ⟨by rw [upd_ne nb]; exact f', g.to (same_new f) fun _ e => e⟩
end Ec
set_option Elab.async false
set_option linter.all false
set_option maxRecDepth 100000
set_option maxHeartbeats 4000000
namespace Ec
open PySem PySem.Spec PyProof.Rows L2
def cE (X : Cx) (e : Expr) : TE := fun σ H Q => ∀ pins s, Inv X pins σ H s → wpAny (model X.prog X.w) X.A (eval e X.env) (EP X pins σ Q) X.xe s
def cT (X : Cx) (e : Expr) : TT := fun σ H Q => ∀ pins s, Inv X pins σ H s → wpAny (model X.prog X.w) X.A (isTrue e X.env (eval e X.env)) (TP X pins σ Q) X.xe s
def cW (X : Cx) (e : Expr) : TT := fun σ H Q => ∀ (wh : Sem Value) pins s, Inv X pins σ H s → wpAny (model X.prog X.w) X.A (isTrue e X.env wh) (TP X pins σ Q) X.xe s
def cA (X : Cx) (es : List Expr) : TA := fun σ H Q => ∀ (pos : Pos) pins s, Inv X pins σ H s → wpAny (model X.prog X.w) X.A (spliced (backTo pos (starEach es X.env))) (AP X pins σ Q) X.xe s
def cS (X : Cx) (st : Stmt) : TS := fun D σ H => ∀ pins s, Inv X pins σ H s → wpAny (model X.prog X.w) X.A (exec st X.env) (SP X pins D) X.xe s
def cB (X : Cx) (st : List Stmt) : TS := fun D σ H => ∀ pins s, Inv X pins σ H s → wpAny (model X.prog X.w) X.A (execs st X.env) (SP X pins D) X.xe s
def cG (X : Cx) (tg : Expr) : TG := fun v σ H Q => ∀ pins s u, Inv X pins σ H s → RelV v u → wpAny (model X.prog X.w) X.A (assign tg X.env u) (fun _ s' => ∃ σ' H', Inv X pins σ' H' s' ∧ Q σ' H') X.xe s
def cGs (X : Cx) (ts : List Expr) : TGs := fun vs σ H Q => ∀ pins s us, Inv X pins σ H s → Vals vs us → wpAny (model X.prog X.w) X.A (assignInOrder ((assignEach ts X.env).map (·.2)) us) (fun _ s' => ∃ σ' H', Inv X pins σ' H' s' ∧ Q σ' H') X.xe s
def cI (X : Cx) (tg iter : Expr) : TI := fun σ H R => ∀ pins s, Inv X pins σ H s → wpAny (model X.prog X.w) X.A (eval iter X.env) (fun v s1 => wpAny (model X.prog X.w) X.A (pyIter v) (PIE X pins σ tg R) X.xe s1) X.xe s
section
variable {X : Cx}
theorem pcE (X : Cx) (e : Expr) : PE X e (cE X e) := ⟨fun pins s _ _ _ I h => h pins s I⟩
theorem pcT (X : Cx) (e : Expr) : PT X e (cT X e) := ⟨fun pins s _ _ _ I h => h pins s I⟩
theorem pcW (X : Cx) (e : Expr) : PW X e (cW X e) := ⟨fun wh pins s _ _ _ I h => h wh pins s I⟩
theorem pcA (X : Cx) (e : List Expr) : PA X e (cA X e) := ⟨fun pos pins s _ _ _ I h => h pos pins s I⟩
theorem pcS (X : Cx) (e : Stmt) : PS X e (cS X e) := ⟨fun pins s _ _ _ I h => h pins s I⟩
theorem pcB (X : Cx) (e : List Stmt) : PSs X e (cB X e) := ⟨fun pins s _ _ _ I h => h pins s I⟩
theorem pcG (X : Cx) (e : Expr) : PG X e (cG X e) := ⟨fun pins s _ _ _ u _ I r h => h pins s u I r⟩
theorem pcGs (X : Cx) (e : List Expr) : PGs X e (cGs X e) := ⟨fun pins s _ _ _ u _ I r h => h pins s u I r⟩
theorem pcI (X : Cx) (tg e : Expr) : PI X tg e (cI X tg e) := ⟨fun pins s _ _ _ I h => h pins s I⟩
theorem toE {e : Expr} {t : TE} (p : PE X e t) {σ H Q} (h : t σ H Q) : cE X e σ H Q := fun pins s I => p.run pins s σ H Q I h
theorem toT {e : Expr} {t : TT} (p : PT X e t) {σ H Q} (h : t σ H Q) : cT X e σ H Q := fun pins s I => p.run pins s σ H Q I h
theorem toW {e : Expr} {t : TT} (p : PW X e t) {σ H Q} (h : t σ H Q) : cW X e σ H Q := fun wh pins s I => p.run wh pins s σ H Q I h
theorem toA {e : List Expr} {t : TA} (p : PA X e t) {σ H Q} (h : t σ H Q) : cA X e σ H Q := fun pos pins s I => p.run pos pins s σ H Q I h
theorem toS {e : Stmt} {t : TS} (p : PS X e t) {D σ H} (h : t D σ H) : cS X e D σ H := fun pins s I => p.run pins s σ H D I h
theorem toB {e : List Stmt} {t : TS} (p : PSs X e t) {D σ H} (h : t D σ H) : cB X e D σ H := fun pins s I => p.run pins s σ H D I h
theorem toG {e : Expr} {t : TG} (p : PG X e t) {v σ H Q} (h : t v σ H Q) : cG X e v σ H Q := fun pins s u I r => p.run pins s σ H v u Q I r h
theorem toGs {e : List Expr} {t : TGs} (p : PGs X e t) {v σ H Q} (h : t v σ H Q) : cGs X e v σ H Q := fun pins s u I r => p.run pins s σ H v u Q I r h
theorem toI {tg e : Expr} {t : TI} (p : PI X tg e t) {σ H R} (h : t σ H R) : cI X tg e σ H R := fun pins s I => p.run pins s σ H R I h
def WE (X : Cx) (e : Expr) (δ : Dl) (μ : Cells) (Q : Vd → Cells → Prop) : Prop := ∀ F H σ, Rp X.K F H σ δ μ → ∀ QV : VK,
  (∀ v x F' H' μ', Fw (ks μ) (ks μ') F H F' H' → Rp X.K F' H' σ δ μ' → VOk X.K F' x v → Q x μ' → QV v H') → cE X e σ H QV
def WT (X : Cx) (e : Expr) (δ : Dl) (μ : Cells) (Q : Bool → Cells → Prop) : Prop := ∀ F H σ, Rp X.K F H σ δ μ → ∀ QV : Bool → Hp → Prop,
  (∀ b F' H' μ', Fw (ks μ) (ks μ') F H F' H' → Rp X.K F' H' σ δ μ' → Q b μ' → QV b H') → cT X e σ H QV
def WW (X : Cx) (e : Expr) (δ : Dl) (μ : Cells) (Q : Bool → Cells → Prop) : Prop := ∀ F H σ, Rp X.K F H σ δ μ → ∀ QV : Bool → Hp → Prop,
  (∀ b F' H' μ', Fw (ks μ) (ks μ') F H F' H' → Rp X.K F' H' σ δ μ' → Q b μ' → QV b H') → cW X e σ H QV
def WA (X : Cx) (es : List Expr) (δ : Dl) (μ : Cells) (Q : List Vd → Cells → Prop) : Prop := ∀ F H σ, Rp X.K F H σ δ μ → ∀ QV : List V → Hp → Prop,
  (∀ vs xs F' H' μ', Fw (ks μ) (ks μ') F H F' H' → Rp X.K F' H' σ δ μ' → VAll X.K F' xs vs → Q xs μ' → QV vs H') → cA X es σ H QV
structure Dn where
  nx : Dl → Cells → Prop
  rt : Vd → Cells → Prop
  bk : Dl → Cells → Prop := fun _ _ => False
  ct : Dl → Cells → Prop := fun _ _ => False
structure Bears (K : PySem.W.Frag) (F H : Hp) (μ : Cells) (D : Dn) (De : Ends) : Prop where
  nx : ∀ F' H' σ' δ' μ', Fw (ks μ) (ks μ') F H F' H' → Rp K F' H' σ' δ' μ' → D.nx δ' μ' → De.nx σ' H'
  rt : ∀ v x F' H' μ', Fw (ks μ) (ks μ') F H F' H' → RpM K F' H' μ' → VOk K F' x v → D.rt x μ' → De.rt v H'
  bk : ∀ F' H' σ' δ' μ', Fw (ks μ) (ks μ') F H F' H' → Rp K F' H' σ' δ' μ' → D.bk δ' μ' → De.bk σ' H'
  ct : ∀ F' H' σ' δ' μ', Fw (ks μ) (ks μ') F H F' H' → Rp K F' H' σ' δ' μ' → D.ct δ' μ' → De.ct σ' H'
theorem Bears.next {K : PySem.W.Frag} {F H F' H' : Hp} {μ μ' : Cells} {D : Dn} {De : Ends} (b : Bears K F H μ D De) (w : Fw (ks μ) (ks μ') F H F' H') : Bears K F' H' μ' D De :=
  ⟨fun _ _ _ _ _ w2 => b.nx _ _ _ _ _ (w.trans w2), fun _ _ _ _ _ w2 => b.rt _ _ _ _ _ (w.trans w2), fun _ _ _ _ _ w2 => b.bk _ _ _ _ _ (w.trans w2), fun _ _ _ _ _ w2 => b.ct _ _ _ _ _ (w.trans w2)⟩
def WS (X : Cx) (st : Stmt) (δ : Dl) (μ : Cells) (D : Dn) : Prop := ∀ F H σ, Rp X.K F H σ δ μ → ∀ De, Bears X.K F H μ D De → cS X st De σ H
def WB (X : Cx) (st : List Stmt) (δ : Dl) (μ : Cells) (D : Dn) : Prop := ∀ F H σ, Rp X.K F H σ δ μ → ∀ De, Bears X.K F H μ D De → cB X st De σ H
def itV (iter : Expr) : PyData → Vd := match iter with
  | .Call (.Name x _) _ _ _ => if x == "enumerate" || x == "zip" then .w else .d
  | .Call (.Attribute _ m _) _ _ _ => if m == "items" then .w else .d
  | _ => .d
structure Wk (K : PySem.W.Frag) (J : It) (F0 : Hp) (iv : PyData → Vd) (ds : List PyData) : Prop where
  go : ∀ i F H, i < ds.length → Same F0 F → Same F H → J.go i H
  yld : ∀ i F H x H' d, ds[i]? = some d → Same F0 F → Same F H → J.yld i H x H' → ∃ F', Same F F' ∧ Same F' H' ∧ Same H H' ∧ (∀ b, F b = none → H b ≠ none → F' b = none) ∧ VOk K F' (iv d) x
  stop : ∀ F H, Same F0 F → Same F H → J.stop ds.length H
def WI (X : Cx) (tg iter : Expr) (δ : Dl) (μ : Cells) (Q : List PyData → Cells → Prop) : Prop := ∀ F H σ, Rp X.K F H σ δ μ → ∀ R : It → Hp → Prop,
  (∀ J ds F' H' μ', Fw (ks μ) (ks μ') F H F' H' → Rp X.K F' H' σ δ μ' → Wk X.K J F' (itV iter) ds → Q ds μ' → R J H') → cI X tg iter σ H R
variable {δ : Dl} {μ : Cells} {e a b : Expr} {pos : Pos} {Q : Vd → Cells → Prop} {D : Dn}
theorem WE.mono {Q' : Vd → Cells → Prop} (h : WE X e δ μ Q) (k : ∀ x μ', Q x μ' → Q' x μ') : WE X e δ μ Q' := fun F H σ r QV c => h F H σ r QV fun v x F' H' μ' w r' o q => c v x F' H' μ' w r' o (k x μ' q)
theorem WT.mono {T T' : Bool → Cells → Prop} (h : WT X e δ μ T) (k : ∀ x μ', T x μ' → T' x μ') : WT X e δ μ T' := fun F H σ r QV c => h F H σ r QV fun v F' H' μ' w r' q => c v F' H' μ' w r' (k v μ' q)
theorem we_name (i : Nat) {x : Str} {y : Vd} (hN : X.N[i]? = some x) (hv : Vis X.env.scope x) (hδ : δ[i]? = some (some y)) (h : Q y μ) (hd : (x == ("__debug__" : Str)) = false := by decide) (hcd : (x == ("__classdict__" : Str)) = false := by decide) :
    WE X (.Name x pos) δ μ Q := fun F H σ r QV c => by
  obtain ⟨v, e1, e2⟩ := r.env i y hδ
  exact toE (pe_var hN hv hd hcd) ⟨v, e1, c v y F H μ Fw.refl r e2 h⟩
theorem we_int {i : Int} {j : Nat} (h : Q (.d (.int i)) μ) : WE X (.Constant (.int i) j pos) δ μ Q := fun F H σ r QV c => toE pe_int (c _ (.d (.int i)) F H μ Fw.refl r (.int i) h)
theorem we_bl {i : Bool} {j : Nat} (h : Q (.d (.bool i)) μ) : WE X (.Constant (.bool i) j pos) δ μ Q := fun F H σ r QV c => toE pe_bl (c _ (.d (.bool i)) F H μ Fw.refl r (.bl i) h)
theorem we_non {j : Nat} (h : Q (.d .none) μ) : WE X (.Constant .none j pos) δ μ Q := fun F H σ r QV c => toE pe_non (c _ (.d .none) F H μ Fw.refl r .non h)
theorem we_str {x : Str} {j : Nat} (h : Q (.d (.str x)) μ) : WE X (.Constant (.str x) j pos) δ μ Q := fun F H σ r QV c => toE pe_str (c _ (.d (.str x)) F H μ Fw.refl r (.str x) h)
def OpW (K : PySem.W.Frag) (r : R2) (x y : Vd) (μ : Cells) (Q : Vd → Cells → Prop) : Prop := ∀ F H v u, RpM K F H μ → VOk K F x v → VOk K F y u → ∀ QV : VK,
  (∀ z w F' H' μ', Fw (ks μ) (ks μ') F H F' H' → RpM K F' H' μ' → VOk K F' z w → Q z μ' → QV w H') → r v u H QV
def UnW (K : PySem.W.Frag) (r : V → Hp → VK → Prop) (x : Vd) (μ : Cells) (Q : Vd → Cells → Prop) : Prop := ∀ F H v, RpM K F H μ → VOk K F x v → ∀ QV : VK,
  (∀ z w F' H' μ', Fw (ks μ) (ks μ') F H F' H' → RpM K F' H' μ' → VOk K F' z w → Q z μ' → QV w H') → r v H QV
def CaW (K : PySem.W.Frag) (r : List V → Hp → VK → Prop) (xs : List Vd) (μ : Cells) (Q : Vd → Cells → Prop) : Prop := ∀ F H vs, RpM K F H μ → VAll K F xs vs → ∀ QV : VK,
  (∀ z w F' H' μ', Fw (ks μ) (ks μ') F H F' H' → RpM K F' H' μ' → VOk K F' z w → Q z μ' → QV w H') → r vs H QV
theorem two {r : R2} {e : Expr} (p : PE X e (tOp r (cE X a) (cE X b))) (h : WE X a δ μ fun x μ1 => WE X b δ μ1 fun y μ2 => OpW X.K r x y μ2 Q) : WE X e δ μ Q := fun F H σ R QV c =>
  toE p (h F H σ R _ fun v x F1 H1 μ1 w1 R1 o1 q1 => q1 F1 H1 σ R1 _ fun u y F2 H2 μ2 w2 R2 o2 q2 => q2 F2 H2 v u R2.m (o1.up w2.f) o2 _ fun z w F3 H3 μ3 w3 m3 o3 q3 =>
    c w z F3 H3 μ3 ((w1.trans w2).trans w3) (R2.to w3.f m3) o3 q3)
theorem we_bin {op : Operator} {r : R2} (ho : OpR X (binaryOp op) r) (h : WE X a δ μ fun x μ1 => WE X b δ μ1 fun y μ2 => OpW X.K r x y μ2 Q) : WE X (.BinOp a op b pos) δ μ Q := two (pe_op ho (pcE X a) (pcE X b)) h
theorem we_cmp {op : CmpOp} {r : R2} (ho : OpR X (compareOp op) r) (hm : behindInMarks op b = false) (h : WE X a δ μ fun x μ1 => WE X b δ μ1 fun y μ2 => OpW X.K r x y μ2 Q) : WE X (.Compare a [op] [b] pos) δ μ Q := two (pe_cmpR ho (pcE X a) (pcE X b) hm) h
theorem we_ix {r : R2} (ho : IxR X r) (hs : PlainIx b) (h : WE X a δ μ fun x μ1 => WE X b δ μ1 fun y μ2 => OpW X.K r x y μ2 Q) : WE X (.Subscript a b pos) δ μ Q := two (pe_ix ho (pcE X a) (pcE X b) hs) h
theorem we_un {op : UnaryOp} {r : V → Hp → VK → Prop} (ho : UnR X (unaryOp op) r) (h : WE X a δ μ fun x μ1 => UnW X.K r x μ1 Q) : WE X (.UnaryOp op a pos) δ μ Q := fun F H σ R QV c =>
  toE (pe_un ho (pcE X a)) (h F H σ R _ fun v x F1 H1 μ1 w1 R1 o1 q1 => q1 F1 H1 v R1.m o1 _ fun z w F3 H3 μ3 w3 m3 o3 q3 => c w z F3 H3 μ3 (w1.trans w3) (R1.to w3.f m3) o3 q3)
theorem wt_cmp {op : CmpOp} {r : R2} {T : Bool → Cells → Prop} (ho : OpR X (compareOp op) r) (hm : behindInMarks op b = false) (h : WE X a δ μ fun x μ1 => WE X b δ μ1 fun y μ2 => OpW X.K r x y μ2 fun z μ3 => ∃ k, z = .d (.bool k) ∧ T k μ3) :
    WT X (.Compare a [op] [b] pos) δ μ T := fun F H σ R QV c =>
  toT (pt_cmpR ho (pcE X a) (pcE X b) hm) (h F H σ R _ fun v x F1 H1 μ1 w1 R1 o1 q1 => q1 F1 H1 σ R1 _ fun u y F2 H2 μ2 w2 R2 o2 q2 => q2 F2 H2 v u R2.m (o1.up w2.f) o2 _ fun z w F3 H3 μ3 w3 m3 o3 q3 => by
    obtain ⟨k, rfl, q⟩ := q3
    exact ⟨k, dp_bl o3, c k F3 H3 μ3 ((w1.trans w2).trans w3) (R2.to w3.f m3) q⟩)
theorem wt_val {T : Bool → Cells → Prop} (h : WE X e δ μ fun z μ3 => ∃ k, z = .d (.bool k) ∧ T k μ3) (he : ∀ whole, isTrue e X.env whole = (do let v ← whole; standAt e.pos; holding [v] (truthy v)) := by intro _; rfl) : WT X e δ μ T := fun F H σ R QV c =>
  toT (pt_val (pcE X e) he) (h F H σ R _ fun v x F1 H1 μ1 w1 R1 o1 q1 => by
    obtain ⟨k, rfl, q⟩ := q1
    exact ⟨k, dp_bl o1, c k F1 H1 μ1 w1 R1 q⟩)
variable {T : Bool → Cells → Prop} {rest : List Expr}
theorem ww_and1 (h : WT X a δ μ T) : WW X (.BoolOp .And [a] pos) δ μ T := fun F H σ R QV c => toW (pw_and1 (pcT X a)) (h F H σ R QV c)
theorem ww_or1 (h : WT X a δ μ T) : WW X (.BoolOp .Or [a] pos) δ μ T := fun F H σ R QV c => toW (pw_or1 (pcT X a)) (h F H σ R QV c)
theorem ww_and (h : WT X a δ μ fun k μ1 => if k = true then WW X (.BoolOp .And (b :: rest) pos) δ μ1 T else T false μ1) : WW X (.BoolOp .And (a :: b :: rest) pos) δ μ T := fun F H σ R QV c =>
  toW (pw_and (pcT X a) (pcW X _)) (h F H σ R _ fun k F1 H1 μ1 w1 R1 q => by
    cases k with
    | true => exact (show WW X _ δ μ1 T from q) F1 H1 σ R1 QV fun k2 F2 H2 μ2 w2 R2 q2 => c k2 F2 H2 μ2 (w1.trans w2) R2 q2
    | false => exact c false F1 H1 μ1 w1 R1 q)
theorem ww_or (h : WT X a δ μ fun k μ1 => if k = true then T true μ1 else WW X (.BoolOp .Or (b :: rest) pos) δ μ1 T) : WW X (.BoolOp .Or (a :: b :: rest) pos) δ μ T := fun F H σ R QV c =>
  toW (pw_or (pcT X a) (pcW X _)) (h F H σ R _ fun k F1 H1 μ1 w1 R1 q => by
    cases k with
    | false => exact (show WW X _ δ μ1 T from q) F1 H1 σ R1 QV fun k2 F2 H2 μ2 w2 R2 q2 => c k2 F2 H2 μ2 (w1.trans w2) R2 q2
    | true => exact c true F1 H1 μ1 w1 R1 q)
theorem wt_w (h : WW X e δ μ T) : WT X e δ μ T := fun F H σ R QV c => toT (pcW X e).pt (h F H σ R QV c)
theorem wt_not (h : WT X a δ μ fun k μ1 => T (!k) μ1) : WT X (.UnaryOp .Not a pos) δ μ T := fun F H σ R QV c => toT (pt_not (pcT X a)) (h F H σ R _ fun k F1 H1 μ1 w1 R1 q => c (!k) F1 H1 μ1 w1 R1 q)
theorem we_one {op : BoolOp} (h : WE X a δ μ Q) : WE X (.BoolOp op [a] pos) δ μ Q := fun F H σ R QV c => toE (pe_one (pcE X a)) (h F H σ R QV c)
theorem we_and (h : WE X a δ μ fun z μ1 => ∃ k, z = .d (.bool k) ∧ if k = true then WE X (.BoolOp .And (b :: rest) pos) δ μ1 Q else Q (.d (.bool false)) μ1) : WE X (.BoolOp .And (a :: b :: rest) pos) δ μ Q := fun F H σ R QV c =>
  toE (pe_and (pcE X a) (pcE X _)) (h F H σ R _ fun v z F1 H1 μ1 w1 R1 o1 q => by
    obtain ⟨k, rfl, q⟩ := q
    refine ⟨k, dp_bl o1, ?_⟩
    cases k with
    | true => exact (show WE X _ δ μ1 Q from q) F1 H1 σ R1 QV fun k2 x2 F2 H2 μ2 w2 R2 o2 q2 => c k2 x2 F2 H2 μ2 (w1.trans w2) R2 o2 q2
    | false => exact c _ (.d (.bool false)) F1 H1 μ1 w1 R1 (.bl false) q)
theorem we_or (h : WE X a δ μ fun z μ1 => ∃ k, z = .d (.bool k) ∧ if k = true then Q (.d (.bool true)) μ1 else WE X (.BoolOp .Or (b :: rest) pos) δ μ1 Q) : WE X (.BoolOp .Or (a :: b :: rest) pos) δ μ Q := fun F H σ R QV c =>
  toE (pe_or (pcE X a) (pcE X _)) (h F H σ R _ fun v z F1 H1 μ1 w1 R1 o1 q => by
    obtain ⟨k, rfl, q⟩ := q
    refine ⟨k, dp_bl o1, ?_⟩
    cases k with
    | false => exact (show WE X _ δ μ1 Q from q) F1 H1 σ R1 QV fun k2 x2 F2 H2 μ2 w2 R2 o2 q2 => c k2 x2 F2 H2 μ2 (w1.trans w2) R2 o2 q2
    | true => exact c _ (.d (.bool true)) F1 H1 μ1 w1 R1 (.bl true) q)
theorem we_not (h : WE X a δ μ fun z μ1 => ∃ k, z = .d (.bool k) ∧ Q (.d (.bool (!k))) μ1) : WE X (.UnaryOp .Not a pos) δ μ Q := fun F H σ R QV c =>
  toE (pe_not (pcE X a)) (h F H σ R _ fun v z F1 H1 μ1 w1 R1 o1 q => by
    obtain ⟨k, rfl, q⟩ := q
    exact ⟨k, dp_bl o1, c _ (.d (.bool (!k))) F1 H1 μ1 w1 R1 (.bl _) q⟩)
theorem we_if {t : Expr} (h : WT X t δ μ fun k μ1 => if k = true then WE X a δ μ1 Q else WE X b δ μ1 Q) : WE X (.IfExp t a b pos) δ μ Q := fun F H σ R QV c =>
  toE (pe_ifExp (pcT X t) (pcE X a) (pcE X b)) (h F H σ R _ fun k F1 H1 μ1 w1 R1 q => by
    cases k with
    | true => exact (show WE X a δ μ1 Q from q) F1 H1 σ R1 QV fun k2 x2 F2 H2 μ2 w2 R2 o2 q2 => c k2 x2 F2 H2 μ2 (w1.trans w2) R2 o2 q2
    | false => exact (show WE X b δ μ1 Q from q) F1 H1 σ R1 QV fun k2 x2 F2 H2 μ2 w2 R2 o2 q2 => c k2 x2 F2 H2 μ2 (w1.trans w2) R2 o2 q2)
theorem wa_nil {QA : List Vd → Cells → Prop} (h : QA [] μ) : WA X [] δ μ QA := fun F H σ R QV c => toA pa_nil (c [] [] F H μ Fw.refl R .nil h)
theorem wa_cons {es : List Expr} {QA : List Vd → Cells → Prop} (h : WE X e δ μ fun x μ1 => WA X es δ μ1 fun xs μ2 => QA (x :: xs) μ2) (hs : starEach (e :: es) X.env = (false, eval e X.env) :: starEach es X.env := by rfl) : WA X (e :: es) δ μ QA := fun F H σ R QV c =>
  toA (pa_cons (pcE X e) (pcA X es) hs) (h F H σ R _ fun v x F1 H1 μ1 w1 R1 o1 q => q F1 H1 σ R1 _ fun vs xs F2 H2 μ2 w2 R2 o2 q2 => c (v :: vs) (x :: xs) F2 H2 μ2 (w1.trans w2) R2 (.cons (o1.up w2.f) o2) q2)
def dsOf : List Vd → Option (List PyData)
  | [] => some []
  | .d x :: r => (dsOf r).map (x :: ·)
  | .w _ :: _ => none
  | .s _ :: _ => none
  | .a _ :: _ => none
  | .k _ _ :: _ => none
  | .e _ _ _ _ :: _ => none
  | .z _ _ :: _ => none
  | .q _ _ :: _ => none
  | .m _ _ _ :: _ => none
theorem dps_of {K : PySem.W.Frag} {F : Hp} : ∀ {xs : List Vd} {ds : List PyData} {vs : List V}, dsOf xs = some ds → VAll K F xs vs → DeAll K F vs ds
  | [], _, _, e, h => by
    cases e
    cases h
    exact .nil
  | .d x :: r, _, _, e, h => by
    cases h with
    | cons h1 h2 =>
      unfold dsOf at e
      cases q : dsOf r with
      | none =>
        rw [q] at e
        cases e
      | some es =>
        rw [q] at e
        cases e
        exact .cons h1 (dps_of q h2)
  | .w _ :: _, _, _, e, _ => by cases e
  | .s _ :: _, _, _, e, _ => by cases e
  | .a _ :: _, _, _, e, _ => by cases e
  | .k _ _ :: _, _, _, e, _ => by cases e
  | .e _ _ _ _ :: _, _, _, e, _ => by cases e
  | .z _ _ :: _, _, _, e, _ => by cases e
  | .q _ _ :: _, _, _, e, _ => by cases e
  | .m _ _ _ :: _, _, _, e, _ => by cases e
def tTupX (t : TA) : TE := fun σ H Q => t σ H fun xs H1 => xs.length ≤ sizeLine ∧ ∀ p o, o.dict = none → H1 p = none → Q (.ref p) (upd H1 p (.frz o (.tup xs)))
theorem pe_tupX {es : List Expr} {k : Nat} {t : TA} (h : PA X es t) : PE X (.Tuple es k pos) (tTupX t) := ⟨fun pins s σ H Q I hq => by
  refine wpAny_Tuple_spliced (thn (h.run pos pins s σ H _ I hq) fun us s1 ⟨xs, H1, I1, r, z, q⟩ => ⟨by rw [← r.length]; exact z, ?_⟩)
  have nf : H1 s1.heap.objs.size = none := I1.hok.fresh (Nat.le_refl _)
  have I2 := I1.laid (t' := s1.toks) (o := .frz { cls := .type "tuple", data := .seq us.toArray } (.tup xs)) (fun b u e => Heap.get?_push_of_some _ e) (Nat.le_refl _) (show ObjOk X.prog X.w _ (s1.heap.push { cls := .type "tuple", data := .seq us.toArray }) _ _ from ⟨Heap.get?_push_size _ rfl, z, us, r, ⟨_, Heap.get?_push_size _ rfl, rfl, _, rfl⟩⟩)
  exact ⟨.ref s1.heap.objs.size, _, I2, rfl, q _ _ rfl nf⟩⟩
theorem we_tup {k : Nat} {es : List Expr} (h : WA X es δ μ fun xs μ1 => ∃ ds, dsOf xs = some ds ∧ ds.length ≤ 100000 ∧ Q (.d (.tuple ds)) μ1) : WE X (.Tuple es k pos) δ μ Q := fun F H σ R QV c =>
  toE (pe_tupX (pcA X es)) (h F H σ R _ fun vs xs F1 H1 μ1 w1 R1 o1 q => by
    obtain ⟨ds, e, hl, q⟩ := q
    have hd := dps_of e o1
    refine ⟨by rw [dps_len hd]; exact Nat.le_trans hl (by decide), fun p o ho np => ?_⟩
    obtain ⟨m, w⟩ := R1.m.new (o := .frz o (.tup vs)) np
    exact c _ (.d (.tuple ds)) _ _ μ1 (w1.trans w) (R1.to w.f m) (.tup upd_same ho (dps_up w.f _ _ hd)) q)
theorem we_lst {es : List Expr} (h : WA X es δ μ fun xs μ1 => ∃ ds, dsOf xs = some ds ∧ ds.length ≤ 100000 ∧ ∀ p, Q (.a p) ((p, ds) :: μ1)) : WE X (.List es pos) δ μ Q := fun F H σ R QV c =>
  toE (pe_lst (pcA X es)) (h F H σ R _ fun vs xs F1 H1 μ1 w1 R1 o1 q => by
    obtain ⟨ds, e, hl, q⟩ := q
    have hd := dps_of e o1
    refine ⟨by rw [dps_len hd]; exact Nat.le_trans hl (by decide), fun p np => ?_⟩
    obtain ⟨m, w⟩ := R1.m.cell np hd
    exact c _ (.a p) _ _ _ (w1.trans w) (R1.to w.f m) rfl (q p))
theorem we_fz (h : WE X e δ μ fun x μ1 => ∃ (p : Addr) (ds : List PyData) (μ2 : Cells), x = .a p ∧ μ1 = ((p, ds) :: μ2 : Cells) ∧ plS ds ∧ Q (.d (.list ds)) μ2) : WE X e δ μ Q := fun F H σ R QV c =>
  h F H σ R QV fun v x F1 H1 μ1 w1 R1 o1 q => by
    obtain ⟨p, ds, μ2, rfl, rfl, pl, q⟩ := q
    obtain ⟨vs, hp, hd, m, sf, fp, out⟩ := R1.m.freeze pl
    have ov : v = .ref p := o1
    subst ov
    refine c _ (.d (.list ds)) _ H1 μ2 ⟨w1.f.trans sf, w1.k, fun b f hb nb => ?_, fun b hb => w1.s b (List.mem_cons_of_mem _ hb)⟩ (R1.to sf m) (.lst upd_same hd) q
    rw [upd_ne]
    · exact w1.c b f hb nb
    · intro z
      subst z
      exact (w1.s b List.mem_cons_self).elim nb hb
end
end Ec
set_option Elab.async false
set_option linter.all false
set_option maxRecDepth 100000
set_option maxHeartbeats 4000000
namespace Ec
open PySem PySem.Spec PyProof.Rows L2
theorem perm_erase {α : Type} : ∀ {l : List α} {i : Nat} (h : i < l.length), l.Perm (l[i] :: l.eraseIdx i)
  | x :: r, 0, _ => List.Perm.refl _
  | x :: r, i + 1, h => ((perm_erase (l := r) (i := i) (Nat.lt_of_succ_lt_succ h)).cons x).trans (List.Perm.swap _ _ _)
theorem RpM.perm {K : PySem.W.Frag} {F H : Hp} {μ μ' : Cells} (r : RpM K F H μ) (p : μ.Perm μ') : RpM K F H μ' :=
  ⟨r.ex, (p.map Prod.fst).nodup_iff.mp r.nd, fun b ds m => r.cel b ds (p.mem_iff.mpr m)⟩
theorem Rp.perm {K : PySem.W.Frag} {F H : Hp} {σ : L2.St} {δ : Dl} {μ μ' : Cells} (r : Rp K F H σ δ μ) (p : μ.Perm μ') : Rp K F H σ δ μ' := ⟨r.m.perm p, r.len, r.env⟩
theorem Fw.sub {a a' b b' : List Addr} {F H F' H' : Hp} (w : Fw a a' F H F' H') (h : ∀ x ∈ a, x ∈ b) (h' : ∀ x ∈ b', x ∈ a' ∨ x ∈ b) : Fw b b' F H F' H' :=
  ⟨w.f, fun c o e n => w.k c o e fun z => n (h c z), fun c e q n => w.c c e q fun z => n (h c z), fun c m => by
    rcases h' c m with q | q
    · rcases w.s c q with z | z
      · exact .inl (h c z)
      · exact .inr z
    · exact .inl q⟩
theorem Fw.perm {K : PySem.W.Frag} {μ μ' μ2 : Cells} {F H F' H' : Hp} (w : Fw (ks μ) (ks μ') F H F' H') (p : μ'.Perm μ2) : Fw (ks μ) (ks μ2) F H F' H' :=
  w.sub (fun _ h => h) fun x m => .inl ((p.map Prod.fst).mem_iff.mpr m)
theorem ks_app (a b : Cells) : ks (a ++ b) = ks a ++ ks b := List.map_append
theorem RpM.left {K : PySem.W.Frag} {F H : Hp} {μ μr : Cells} (r : RpM K F H (μ ++ μr)) : RpM K F H μ :=
  ⟨r.ex, by have h := r.nd; rw [ks_app] at h; exact (List.nodup_append.mp h).1, fun b ds m => r.cel b ds (List.mem_append_left _ m)⟩
theorem RpM.frame {K : PySem.W.Frag} {F H F' H' : Hp} {μ μ' μr : Cells} (r : RpM K F H (μ ++ μr)) (w : Fw (ks μ) (ks μ') F H F' H') (r' : RpM K F' H' μ') : RpM K F' H' (μ' ++ μr) ∧ Fw (ks (μ ++ μr)) (ks (μ' ++ μr)) F H F' H' := by
  have nd := r.nd
  rw [ks_app] at nd
  obtain ⟨_, n2, dj⟩ := List.nodup_append.mp nd
  have inr : ∀ b ∈ ks μr, F b = none ∧ H b ≠ none ∧ b ∉ ks μ := fun b m => by
    obtain ⟨⟨c, ds⟩, m1, e⟩ := List.mem_map.mp m
    have e' : c = b := e
    subst e'
    obtain ⟨f, h⟩ := r.cel c ds (List.mem_append_right _ m1)
    exact ⟨f, h.ne, fun z => dj c z c m rfl⟩
  refine ⟨⟨r'.ex, ?_, fun b ds m => ?_⟩, w.sub (fun x m => ?_) fun x m => ?_⟩
  · rw [ks_app]
    refine List.nodup_append.mpr ⟨r'.nd, n2, fun x mx y my e => ?_⟩
    subst e
    obtain ⟨_, h2, h3⟩ := inr x my
    rcases w.s x mx with z | z
    · exact h3 z
    · exact h2 z
  · rcases List.mem_append.mp m with m | m
    · exact r'.cel b ds m
    · obtain ⟨f, g⟩ := r.cel b ds (List.mem_append_right _ m)
      obtain ⟨_, h2, h3⟩ := inr b (List.mem_map.mpr ⟨_, m, rfl⟩)
      exact ⟨w.c b f h2 h3, g.to w.f fun o e => w.k b o e h3⟩
  · rw [ks_app]
    exact List.mem_append_left _ m
  · rw [ks_app] at m ⊢
    rcases List.mem_append.mp m with m | m
    · exact .inl m
    · exact .inr (List.mem_append_right _ m)
theorem RpM.setO {K : PySem.W.Frag} {F H : Hp} {μ : Cells} {i : Nat} {b : Addr} {ds es : Cont} {o : HO} (r : RpM K F H μ) (hi : μ[i]? = some (b, (ds : Cont))) (h : CelOk K F (upd H b o) b es) :
    RpM K F (upd H b o) (μ.set i (b, es)) ∧ Fw (ks μ) (ks (μ.set i (b, es))) F H F (upd H b o) := by
  have hm : (b, ds) ∈ μ := List.mem_of_getElem? hi
  have hb : b ∈ ks μ := List.mem_map.mpr ⟨_, hm, rfl⟩
  obtain ⟨fb, _⟩ := r.cel b ds hm
  have hki : (ks μ)[i]? = some b := by
    show (μ.map Prod.fst)[i]? = some b
    rw [List.getElem?_map, hi]
    rfl
  have hil : i < μ.length := (List.getElem?_eq_some_iff.mp hi).1
  have ek : ks (μ.set i (b, es)) = ks μ := by
    show (μ.set i (b, es)).map Prod.fst = μ.map Prod.fst
    rw [List.map_set]
    refine List.ext_getElem? fun j => ?_
    by_cases hj : i = j
    · subst hj
      rw [List.getElem?_set_self (by rw [List.length_map]; exact hil)]
      exact hki.symm
    · rw [List.getElem?_set_ne hj]
  refine ⟨⟨fun c x q => ?_, by rw [ek]; exact r.nd, fun c fs q => ?_⟩, Same.refl F, fun c x q n => ?_, fun c q _ _ => q, fun c q => .inl (by rw [ek] at q; exact q)⟩
  · rw [upd_ne (ne_of_none q fb)]
    exact r.ex c x q
  · obtain ⟨j, hj⟩ := List.mem_iff_getElem?.mp q
    by_cases e : i = j
    · subst e
      rw [List.getElem?_set_self hil] at hj
      cases hj
      exact ⟨fb, h⟩
    · rw [List.getElem?_set_ne e] at hj
      obtain ⟨f, g⟩ := r.cel c fs (List.mem_of_getElem? hj)
      have nc : c ≠ b := fun z => by
        subst z
        have hkj : (ks μ)[j]? = some c := by
          show (μ.map Prod.fst)[j]? = some c
          rw [List.getElem?_map, hj]
          rfl
        exact e ((List.getElem?_inj (l := ks μ) (by show i < (μ.map Prod.fst).length; rw [List.length_map]; exact hil) r.nd).mp (hki.trans hkj.symm))
      exact ⟨f, g.to (Same.refl F) fun o e' => by rw [upd_ne nc]; exact e'⟩
  · rw [upd_ne fun z => n (by rw [z]; exact hb)]
    exact q
theorem RpM.setCQ {K : PySem.W.Frag} {F H : Hp} {μ : Cells} {i : Nat} {b : Addr} {ds es : List PyData} {vs : List V} (r : RpM K F H μ) (hi : μ[i]? = some (b, (ds : Cont))) (h : DqAll K F vs es) :
    RpM K F (upd H b (.lst vs)) (μ.set i (b, es)) ∧ Fw (ks μ) (ks (μ.set i (b, (es : Cont)))) F H F (upd H b (.lst vs)) := r.setO hi ⟨vs, upd_same, h⟩
section
variable {X : Cx} {δ : Dl} {μ : Cells} {e a b : Expr} {pos : Pos} {Q : Vd → Cells → Prop} {D : Dn} {st : Stmt} {rest : List Stmt}
theorem wb_nil (h : D.nx δ μ) : WB X [] δ μ D := fun F H σ R De b => toB pss_nil (b.nx F H σ δ μ Fw.refl R h)
theorem Bears.seq {K : PySem.W.Frag} {F H : Hp} {De : Ends} {t : TS} (b : Bears K F H μ D De) {N : Dl → Cells → Prop}
    (h : ∀ F' H' σ' δ' μ', Fw (ks μ) (ks μ') F H F' H' → Rp K F' H' σ' δ' μ' → N δ' μ' → t De σ' H') : Bears K F H μ { D with nx := N } { De with nx := t De } := ⟨h, b.rt, b.bk, b.ct⟩
theorem wb_cons (h : WS X st δ μ { D with nx := fun δ' μ' => WB X rest δ' μ' D }) : WB X (st :: rest) δ μ D := fun F H σ R De b =>
  toB (pss_cons (pcS X st) (pcB X rest)) (show cS X st { De with nx := cB X rest De } σ H from
    h F H σ R _ (b.seq fun F' H' σ' δ' μ' w R' q => q F' H' σ' R' De (b.next w)))
theorem wb_one (h : WS X st δ μ D) : WB X [st] δ μ D := fun F H σ R De b => toB (pss_one (pcS X st)) (h F H σ R De b)
theorem ws_expr (h : WE X e δ μ fun _ μ1 => D.nx δ μ1) (hs : swapsWith e none pos.line X.env = pure false := by rfl) : WS X (.Expr e pos) δ μ D := fun F H σ R De b =>
  toS (ps_expr (pcE X e) hs) (h F H σ R _ fun v x F1 H1 μ1 w1 R1 o1 q => b.nx F1 H1 σ δ μ1 w1 R1 q)
theorem ws_ret (h : WE X e δ μ D.rt) : WS X (.Return (some e) pos) δ μ D := fun F H σ R De b =>
  toS (ps_ret (pcE X e)) (h F H σ R _ fun v x F1 H1 μ1 w1 R1 o1 q => b.rt v x F1 H1 μ1 w1 R1.m o1 q)
theorem ws_if {c : Expr} {s1 s2 : List Stmt} (h : WT X c δ μ fun k μ1 => if k = true then WB X s1 δ μ1 D else WB X s2 δ μ1 D) : WS X (.If c s1 s2 pos) δ μ D := fun F H σ R De b =>
  toS (ps_if (pcT X c) (pcB X s1) (pcB X s2)) (h F H σ R _ fun k F1 H1 μ1 w1 R1 q => by
    cases k with
    | true => exact (show WB X s1 δ μ1 D from q) F1 H1 σ R1 De (b.next w1)
    | false => exact (show WB X s2 δ μ1 D from q) F1 H1 σ R1 De (b.next w1))
variable {is : List Nat} {G : Dl → Cells → Prop}
def Only (is : List Nat) (σ σ' : L2.St) : Prop := σ'.length = σ.length ∧ ∀ i, i ∉ is → σ'[i]? = σ[i]?
theorem Only.refl {σ : L2.St} : Only is σ σ := ⟨rfl, fun _ _ => rfl⟩
theorem Only.trans {σ σ1 σ2 : L2.St} (a : Only is σ σ1) (b : Only is σ1 σ2) : Only is σ σ2 := ⟨b.1.trans a.1, fun i h => (b.2 i h).trans (a.2 i h)⟩
theorem Only.set {σ : L2.St} {i : Nat} {x : Option V} (h : i ∈ is) : Only is σ (σ.set i x) := ⟨List.length_set, fun j hj => List.getElem?_set_ne fun z => hj (by rw [← z]; exact h)⟩
theorem wipe_get {σ : L2.St} {j : Nat} (hj : j < σ.length) : ∀ vs : List Nat, (wipe σ vs)[j]? = if j ∈ vs then some none else σ[j]?
  | [] => by simp [wipe]
  | v :: vs => by
    unfold wipe
    by_cases e : v = j
    · subst e
      rw [List.getElem?_set_self (by rw [wipe_length]; exact hj)]
      simp
    · rw [List.getElem?_set_ne e, wipe_get hj vs]
      have : (j ∈ v :: vs) ↔ j ∈ vs := by simp [Ne.symm e]
      simp only [this]
theorem Only.wipe {σ σ2 : L2.St} (h : Only is (L2.wipe σ is) σ2) : L2.wipe σ2 is = L2.wipe σ is := by
  refine List.ext_getElem? fun j => ?_
  have l2 : σ2.length = σ.length := h.1.trans (wipe_length σ is)
  by_cases hj : j < σ.length
  · rw [wipe_get (by rw [l2]; exact hj), wipe_get hj]
    split
    · rfl
    · rename_i hn
      rw [h.2 j hn, wipe_get hj, if_neg hn]
  · rw [List.getElem?_eq_none (by rw [wipe_length]; omega), List.getElem?_eq_none (by rw [wipe_length]; omega)]
def WGo (X : Cx) (is : List Nat) (tg : Expr) (x : Vd) (δ : Dl) (μ : Cells) (Q : Dl → Cells → Prop) : Prop := ∀ F H σ, Rp X.K F H σ δ μ → ∀ v, VOk X.K F x v → ∀ QV : L2.St → Hp → Prop,
  (∀ F' H' σ' δ' μ', Fw (ks μ) (ks μ') F H F' H' → Rp X.K F' H' σ' δ' μ' → Only is σ σ' → Q δ' μ' → QV σ' H') → cG X tg v σ H QV
def WGso (X : Cx) (is : List Nat) (ts : List Expr) (xs : List Vd) (δ : Dl) (μ : Cells) (Q : Dl → Cells → Prop) : Prop := ∀ F H σ, Rp X.K F H σ δ μ → ∀ vs, VAll X.K F xs vs → ∀ QV : L2.St → Hp → Prop,
  (∀ F' H' σ' δ' μ', Fw (ks μ) (ks μ') F H F' H' → Rp X.K F' H' σ' δ' μ' → Only is σ σ' → Q δ' μ' → QV σ' H') → cGs X ts vs σ H QV
theorem wg_name (i : Nat) {x : Str} {y : Vd} (hN : X.N.Nodup) (hi : X.N[i]? = some x) (hx : Loc X.env.scope x) (hf : X.fn x = true ∨ X.env.scope.names.lookup x = some .local) (hm : i ∈ is) (h : G (δ.set i (some y)) μ) :
    WGo X is (.Name x pos) y δ μ G := fun F H σ R v o QV c => toG (pg_name hN hi hx hf) (c F H _ _ μ Fw.refl (R.put i o) (Only.set hm) h)
theorem wgs_nil (h : G δ μ) : WGso X is [] [] δ μ G := fun F H σ R vs o QV c => by
  cases o
  exact toGs pgs_nil ⟨rfl, c F H σ δ μ Fw.refl R Only.refl h⟩
theorem wgs_cons {t : Expr} {ts : List Expr} {x : Vd} {xs : List Vd} (h : WGo X is t x δ μ fun δ1 μ1 => WGso X is ts xs δ1 μ1 G)
    (hs : (assignEach (t :: ts) X.env).map (·.2) = assign t X.env :: (assignEach ts X.env).map (·.2) := by rfl) : WGso X is (t :: ts) (x :: xs) δ μ G := fun F H σ R vs o QV c => by
  cases o with
  | cons o1 o2 =>
    exact toGs (pgs_cons (pcG X t) (pcGs X ts) hs) ⟨_, _, rfl, h F H σ R _ o1 _ fun F1 H1 σ1 δ1 μ1 w1 R1 y1 q => q F1 H1 σ1 R1 _ (VAll.up w1.f o2) QV fun F2 H2 σ2 δ2 μ2 w2 R2 y2 q2 => c F2 H2 σ2 δ2 μ2 (w1.trans w2) R2 (y1.trans y2) q2⟩
theorem vall_d {K : PySem.W.Frag} {F : Hp} : ∀ {ds : List PyData} {vs : List V}, DeAll K F vs ds → VAll K F (ds.map Vd.d) vs
  | [], _, h => by
    cases h
    exact .nil
  | d :: ds, _, h => by
    cases h with
    | cons h1 h2 => exact .cons h1 (vall_d h2)
theorem wg_tup {ts : List Expr} {k : Nat} {ds : List PyData} (hc : X.calm = true) (h : WGso X is ts (ds.map Vd.d) δ μ G) (hn : (assignEach ts X.env).length = ds.length := by rfl)
    (hst : (assignEach ts X.env).findIdx? (·.1) = none := by rfl) : WGo X is (.Tuple ts k pos) (.d (.tuple ds)) δ μ G := fun F H σ R v o QV c => by
  obtain ⟨a, vs, rfl, hs, hd⟩ := dp_tup o
  exact toG (pg_tup hc (pcGs X ts) hn hst) ⟨a, vs, rfl, same_t R.m.ex hs, dps_len hd, h F H σ R vs (vall_d hd) QV c⟩
theorem wg_tupW {ts : List Expr} {k : Nat} {ds : List PyData} (hc : X.calm = true) (h : WGso X is ts (ds.map Vd.d) δ μ G) (hn : (assignEach ts X.env).length = ds.length := by rfl)
    (hst : (assignEach ts X.env).findIdx? (·.1) = none := by rfl) : WGo X is (.Tuple ts k pos) (.w (.tuple ds)) δ μ G := fun F H σ R v o QV c => by
  obtain ⟨a, vs, ds', e0, rfl, hs, hd⟩ := o
  cases e0
  exact toG (pg_tup hc (pcGs X ts) hn hst) ⟨a, vs, rfl, same_t R.m.ex hs, dps_len hd, h F H σ R vs (vall_d hd) QV c⟩
theorem ws_asg {tg : Expr} (is : List Nat) (h : WE X e δ μ fun x μ1 => WGo X is tg x δ μ1 D.nx) (hs : swapsWithSole [tg] e pos.line X.env = pure false := by rfl) (hw : swappedStores [tg] e X.env = pure none := by rfl)
    (h1 : (assignEach [tg] X.env).map (·.2) = [assign tg X.env] := by rfl) : WS X (.Assign [tg] e pos) δ μ D := fun F H σ R De b =>
  toS (ps_asg (pcE X e) (pcG X tg) hs hw h1) (h F H σ R _ fun v x F1 H1 μ1 w1 R1 o1 q => q F1 H1 σ R1 v o1 _ fun F2 H2 σ2 δ2 μ2 w2 R2 _ q2 => b.nx F2 H2 σ2 δ2 μ2 (w1.trans w2) R2 q2)
theorem ws_set (i : Nat) {x : Str} {pos' : Pos} (hN : X.N.Nodup) (hi : X.N[i]? = some x) (hx : Loc X.env.scope x) (hf : X.fn x = true ∨ X.env.scope.names.lookup x = some .local) (h : WE X e δ μ fun y μ1 => D.nx (δ.set i (some y)) μ1)
    (hs : swapsWith e (some (.Name x pos')) pos.line X.env = pure false := by rfl) : WS X (.Assign [.Name x pos'] e pos) δ μ D := fun F H σ R De b =>
  toS (ps_set hN hi hx (pcE X e) hs hf) (h F H σ R _ fun v y F1 H1 μ1 w1 R1 o1 q => b.nx F1 H1 _ _ μ1 w1 (R1.put i o1) q)
theorem ws_par (i j : Nat) {x y : Str} {px py pt : Pos} {kt k2 : Nat} {pt2 : Pos} (hc : X.calm = true) (hN : X.N.Nodup) (hi : X.N[i]? = some x) (hj : X.N[j]? = some y) (hij : i ≠ j)
    (hx : X.env.scope.names.lookup x = some .local) (hy : X.env.scope.names.lookup y = some .local)
    (h : WE X a δ μ fun v μ1 => WE X b δ μ1 fun u μ2 => D.nx ((δ.set i (some v)).set j (some u)) μ2)
    (hw : swappedStores [.Tuple [.Name x px, .Name y py] kt pt] (.Tuple [a, b] k2 pt2) X.env = pure (some [x, y]))
    (hs : swapsWithSole [.Tuple [.Name x px, .Name y py] kt pt] (.Tuple [a, b] k2 pt2) pos.line X.env = pure false := by rfl)
    (q1 : starEach [a, b] X.env = (false, eval a X.env) :: starEach [b] X.env := by rfl) (q2 : starEach [b] X.env = (false, eval b X.env) :: starEach [] X.env := by rfl) :
    WS X (.Assign [.Tuple [.Name x px, .Name y py] kt pt] (.Tuple [a, b] k2 pt2) pos) δ μ D := fun F H σ R De bb =>
  toS (ps_par hc hN hi hj hij hx hy (pa_cons (pcE X a) (pa_cons (pcE X b) pa_nil q2) q1) hw hs) (h F H σ R _ fun v x F1 H1 μ1 w1 R1 o1 q => q F1 H1 σ R1 _ fun u y F2 H2 μ2 w2 R2 o2 q2 =>
    ⟨v, u, rfl, bb.nx F2 H2 _ _ μ2 (w1.trans w2) ((R2.put i (o1.up w2.f)).put j o2) q2⟩)
theorem ws_tups {ts es : List Expr} {kt k2 : Nat} {pt pt2 : Pos} (is : List Nat) (hc : X.calm = true) (h : WA X es δ μ fun xs μ1 => xs.length = es.length ∧ es.length ≤ 1000 ∧ WGso X is ts xs δ μ1 D.nx) (hn : (assignEach ts X.env).length = es.length := by rfl)
    (hst : (assignEach ts X.env).findIdx? (·.1) = none := by rfl)
    (hs : swapsWithSole [.Tuple ts kt pt] (.Tuple es k2 pt2) pos.line X.env = pure false := by rfl) (hw : swappedStores [.Tuple ts kt pt] (.Tuple es k2 pt2) X.env = pure none := by rfl)
    (h1 : (assignEach [.Tuple ts kt pt] X.env).map (·.2) = [assign (.Tuple ts kt pt) X.env] := by rfl) : WS X (.Assign [.Tuple ts kt pt] (.Tuple es k2 pt2) pos) δ μ D := fun F H σ R De bb =>
  toS (ps_asg (pe_tup (pcA X es)) (pg_tup (n := es.length) hc (pcGs X ts) hn hst) hs hw h1) (h F H σ R _ fun vs xs F1 H1 μ1 w1 R1 o1 q => by
    obtain ⟨ql, qz, q⟩ := q
    have lv : vs.length = es.length := (Paired.length o1).symm.trans ql
    refine ⟨by rw [lv]; exact Nat.le_trans qz (by decide), fun p np => ⟨p, vs, rfl, .of upd_same, lv, ?_⟩⟩
    have R2 : Rp X.K F1 (upd H1 p (.tup vs)) σ δ μ1 := ⟨⟨fun c o z => by
        rw [upd_ne (ne_of_none (R1.m.ex c o z) np)]
        exact R1.m.ex c o z, R1.m.nd, fun c ds m => by
        obtain ⟨f, g⟩ := R1.m.cel c ds m
        exact ⟨f, g.to (Same.refl _) fun o z => by rw [upd_ne (ne_of_none z np)]; exact z⟩⟩, R1.len, R1.env⟩
    have w2 : Fw (ks μ1) (ks μ1) F1 H1 F1 (upd H1 p (.tup vs)) := ⟨Same.refl _, fun c o z _ => by
        rw [upd_ne (ne_of_none z np)]
        exact z, fun c z _ _ => z, fun c m => .inl m⟩
    exact q F1 _ σ R2 vs o1 _ fun F3 H3 σ3 δ3 μ3 w3 R3 _ q3 => bb.nx F3 H3 σ3 δ3 μ3 ((w1.trans w2).trans w3) R3 q3)
theorem Bears.frz {K : PySem.W.Frag} {F F' H : Hp} {De : Ends} {μ' : Cells} (b : Bears K F H μ D De) (w : Fw (ks μ) (ks μ') F H F' H) : Bears K F' H μ' D De := b.next w
theorem Rp.frz {K : PySem.W.Frag} {F H : Hp} {σ : L2.St} {p : Addr} {ds : List PyData} (R : Rp K F H σ δ ((p, ds) :: μ)) (pl : plS ds) (js : List Nat) (hj : ∀ j ∈ js, δ[j]? = some (some (.a p))) : ∃ F', Rp K F' H σ (js.foldl (fun d j => d.set j (some (.d (.list ds)))) δ) μ ∧ Fw (ks ((p, ds) :: μ)) (ks μ) F H F' H := by
  obtain ⟨vs, hp, hd, m, sf, fp, out⟩ := R.m.freeze pl
  refine ⟨_, ?_, ⟨sf, fun b o e _ => e, fun b e hb nb => ?_, fun b hb => .inl (List.mem_cons_of_mem _ hb)⟩⟩
  · have key : ∀ (js : List Nat) (d : Dl), Rp K (upd F p (.lst vs)) H σ d μ → (∀ j ∈ js, ∃ v, σ[j]? = some (some v) ∧ v = .ref p) → Rp K (upd F p (.lst vs)) H σ (js.foldl (fun d j => d.set j (some (.d (.list ds)))) d) μ := by
      intro js
      induction js with
      | nil => intro d r _; exact r
      | cons j r ih =>
        intro d rr hh
        refine ih _ ?_ fun k hk => hh k (List.mem_cons_of_mem _ hk)
        obtain ⟨v, e1, e2⟩ := hh j List.mem_cons_self
        have := rr.put (x := .d (.list ds)) (v := v) j (by rw [e2]; exact .lst upd_same hd)
        have es : σ.set j (some v) = σ := by
          refine List.ext_getElem? fun k => ?_
          by_cases hk : j = k
          · subst hk
            rw [e1, List.getElem?_set_self (List.getElem?_eq_some_iff.mp e1).1]
          · rw [List.getElem?_set_ne hk]
        rw [es] at this
        exact this
    exact key js δ (R.to sf m) fun j h => R.env j _ (hj j h)
  · rw [upd_ne]
    · exact e
    · intro z
      exact nb (z ▸ List.mem_cons_self)
theorem wb_frz {p : Addr} {ds : List PyData} {sts : List Stmt} (i : Nat) (js : List Nat) (hi : μ[i]? = some (p, (ds : Cont))) (hj : ∀ j ∈ js, δ[j]? = some (some (.a p))) (h : WB X sts (js.foldl (fun d j => d.set j (some (.d (.list ds)))) δ) (μ.eraseIdx i) D) (pl : plS ds := by repeat' first | exact plS_nil | exact plS_map (fun _ => rfl) | refine plS_app ?_ ?_ | refine plS_cons rfl ?_ | assumption) : WB X sts δ μ D := fun F H σ R De b => by
  have pm : μ.Perm ((p, ds) :: μ.eraseIdx i) := by
    obtain ⟨hl, e⟩ := List.getElem?_eq_some_iff.mp hi
    rw [← e]
    exact perm_erase hl
  obtain ⟨F', R', w⟩ := (R.perm pm).frz pl js hj
  have w' : Fw (ks μ) (ks (μ.eraseIdx i)) F H F' H := w.sub (fun x m => (pm.map Prod.fst).mem_iff.mpr m) fun x m => .inl m
  exact h F' H σ R' De (b.next w')
end
end Ec
set_option Elab.async false
set_option linter.all false
set_option maxRecDepth 100000
set_option maxHeartbeats 4000000
namespace Ec
open PySem PySem.Spec PyProof.Rows L2
section
variable {X : Cx} {δ : Dl} {μ : Cells} {e a b : Expr} {pos : Pos} {Q : Vd → Cells → Prop} {D : Dn}
theorem RpM.nil_up {K : PySem.W.Frag} {F H F' H' : Hp} {μ : Cells} (r : RpM K F H μ) (f : Same F F') (h : Same F' H') (k : Same H H') (c : ∀ b, F b = none → H b ≠ none → F' b = none) : RpM K F' H' μ ∧ Fw (ks μ) (ks μ) F H F' H' := by
  refine ⟨⟨h, r.nd, fun b ds m => ?_⟩, f, fun b o e _ => k b o e, fun b e q _ => c b e q, fun b m => .inl m⟩
  obtain ⟨f0, g⟩ := r.cel b ds m
  exact ⟨c b f0 g.ne, g.to f fun o e => k b o e⟩
theorem ws_forG {iv : PyData → Vd} {tg iter : Expr} {body : List Stmt} (is : List Nat) (hp : PassesOwn (model X.prog X.w) X.A X.env X.xe) (hc : X.calm = true)
    (h : WI X tg iter δ μ fun ds μ1 => ∃ I : Nat → Dl → Cells → Prop, I 0 δ μ1 ∧ (∀ i d δ' μ', ds[i]? = some d → I i δ' μ' → WGo X is tg (iv d) δ' μ' fun δ2 μ2 => WB X body δ2 μ2 { nx := I (i + 1), rt := D.rt, bk := D.nx, ct := I (i + 1) }) ∧ ∀ δ' μ', I ds.length δ' μ' → D.nx δ' μ')
    (hw : itV iter = iv)
    (hs : ∀ x, foldedSetIterable iter X.env x = pure x := by intro _; rfl) : WS X (.For tg iter body [] pos) δ μ D := fun F H σ R De b =>
  toS (ps_for hp hc (pcI X tg iter) (pcG X tg) (pcB X body) hs) (h F H σ R _ fun J ds F1 H1 μ1 w1 R1 wk q => by
    subst hw
    obtain ⟨I, h0, hturn, hend⟩ := q
    refine ⟨fun i m σ' H' => m = ds.length - i ∧ i ≤ ds.length ∧ ∃ F' δ' μ', Fw (ks μ1) (ks μ') F1 H1 F' H' ∧ Rp X.K F' H' σ' δ' μ' ∧ I i δ' μ', ⟨_, rfl, Nat.zero_le _, F1, δ, μ1, Fw.refl, R1, h0⟩, ?_⟩
    rintro i m σ' H' ⟨rfl, hi, F', δ', μ', w', R', hI⟩
    by_cases hlt : i < ds.length
    · refine .inr ⟨wk.go i F' H' hlt w'.f R'.m.ex, _, fun _ _ z => z, fun x H2 y => ?_⟩
      obtain ⟨F2, f1, f2, f3, f4, f5⟩ := wk.yld i F' H' x H2 _ (List.getElem?_eq_getElem hlt) w'.f R'.m.ex y
      obtain ⟨m2, w2⟩ := R'.m.nil_up f1 f2 f3 f4
      refine hturn i _ δ' μ' (List.getElem?_eq_getElem hlt) hI F2 H2 σ' (R'.to f1 m2) x f5 _ fun F3 H3 σ3 δ3 μ3 w3 R3 _ q3 => ?_
      have wa := (w'.trans w2).trans w3
      have back : ∀ F4 H4 σ4 δ4 μ4, Fw (ks μ3) (ks μ4) F3 H3 F4 H4 → Rp X.K F4 H4 σ4 δ4 μ4 → I (i + 1) δ4 μ4 → ∃ m', m' < ds.length - i ∧ (m' = ds.length - (i + 1) ∧ i + 1 ≤ ds.length ∧ ∃ F' δ' μ', Fw (ks μ1) (ks μ') F1 H1 F' H4 ∧ Rp X.K F' H4 σ4 δ' μ' ∧ I (i + 1) δ' μ') :=
        fun F4 H4 σ4 δ4 μ4 w4 R4 q4 => ⟨_, by omega, rfl, hlt, F4, δ4, μ4, wa.trans w4, R4, q4⟩
      have bb := (b.next w1).next wa
      exact q3 F3 H3 σ3 R3 _ ⟨back, bb.rt, bb.nx, back⟩
    · have e : i = ds.length := by omega
      subst e
      exact .inl ⟨wk.stop F' H' w'.f R'.m.ex, b.nx F' H' σ' δ' μ' (w1.trans w') R' (hend δ' μ' hI)⟩)
theorem ws_for {tg iter : Expr} {body : List Stmt} (is : List Nat) (hp : PassesOwn (model X.prog X.w) X.A X.env X.xe) (hc : X.calm = true)
    (h : WI X tg iter δ μ fun ds μ1 => ∃ I : Nat → Dl → Cells → Prop, I 0 δ μ1 ∧ (∀ i d δ' μ', ds[i]? = some d → I i δ' μ' → WGo X is tg (.d d) δ' μ' fun δ2 μ2 => WB X body δ2 μ2 { nx := I (i + 1), rt := D.rt, bk := D.nx, ct := I (i + 1) }) ∧ ∀ δ' μ', I ds.length δ' μ' → D.nx δ' μ')
    (hs : ∀ x, foldedSetIterable iter X.env x = pure x := by intro _; rfl) (hw : itV iter = Vd.d := by rfl) : WS X (.For tg iter body [] pos) δ μ D := ws_forG is hp hc h hw hs
theorem ws_forW {tg iter : Expr} {body : List Stmt} (is : List Nat) (hp : PassesOwn (model X.prog X.w) X.A X.env X.xe) (hc : X.calm = true)
    (h : WI X tg iter δ μ fun ds μ1 => ∃ I : Nat → Dl → Cells → Prop, I 0 δ μ1 ∧ (∀ i d δ' μ', ds[i]? = some d → I i δ' μ' → WGo X is tg (.w d) δ' μ' fun δ2 μ2 => WB X body δ2 μ2 { nx := I (i + 1), rt := D.rt, bk := D.nx, ct := I (i + 1) }) ∧ ∀ δ' μ', I ds.length δ' μ' → D.nx δ' μ')
    (hs : ∀ x, foldedSetIterable iter X.env x = pure x := by intro _; rfl) (hw : itV iter = Vd.w := by rfl) : WS X (.For tg iter body [] pos) δ μ D := ws_forG is hp hc h hw hs
theorem ws_while {c : Expr} {body : List Stmt} (hp : PassesOwn (model X.prog X.w) X.A X.env X.xe) (I : Nat → Dl → Cells → Prop) (h0 : ∃ m, I m δ μ)
    (h : ∀ m δ' μ', I m δ' μ' → WT X c δ' μ' fun k μ1 => if k = true then WB X body δ' μ1 { nx := fun δ2 μ2 => ∃ m', m' < m ∧ I m' δ2 μ2, rt := D.rt, bk := D.nx, ct := fun δ2 μ2 => ∃ m', m' < m ∧ I m' δ2 μ2 } else D.nx δ' μ1) : WS X (.While c body [] pos) δ μ D := fun F H σ R De b =>
  toS (ps_while hp (pcT X c) (pcB X body)) (by
    obtain ⟨m0, h0⟩ := h0
    refine ⟨fun m σ' H' => ∃ F' δ' μ', Fw (ks μ) (ks μ') F H F' H' ∧ Rp X.K F' H' σ' δ' μ' ∧ I m δ' μ', ⟨m0, F, δ, μ, Fw.refl, R, h0⟩, ?_⟩
    rintro m σ' H' ⟨F', δ', μ', w', R', hI⟩
    refine h m δ' μ' hI F' H' σ' R' _ fun k F1 H1 μ1 w1 R1 q => ?_
    have bb := (b.next w').next w1
    cases k with
    | true =>
      have back : ∀ F4 H4 σ4 δ4 μ4, Fw (ks μ1) (ks μ4) F1 H1 F4 H4 → Rp X.K F4 H4 σ4 δ4 μ4 → (∃ m', m' < m ∧ I m' δ4 μ4) → ∃ m', m' < m ∧ ∃ F' δ' μ', Fw (ks μ) (ks μ') F H F' H4 ∧ Rp X.K F' H4 σ4 δ' μ' ∧ I m' δ' μ' :=
        fun F4 H4 σ4 δ4 μ4 w4 R4 ⟨m', hm, q4⟩ => ⟨m', hm, F4, δ4, μ4, (w'.trans w1).trans w4, R4, q4⟩
      exact ⟨_, fun _ _ z => z, (show WB X body δ' μ1 _ from q) F1 H1 σ' R1 _ ⟨back, bb.rt, bb.nx, back⟩⟩
    | false => exact bb.nx F1 H1 σ' δ' μ1 Fw.refl R1 q)
def Blk (X : Cx) (scope : Scope) (Φ : Cx → Prop) : Prop := ∀ (s : Shared) (H : Hp) (C : Addr) (cl : List (Str × Addr)) (fp : List Addr), Φ (X.blk s H scope (compEnvC scope cl C X.env) fp)
def WTs (X : Cx) (ifs : List Expr) (δ : Dl) (μ : Cells) (Q : Bool → Cells → Prop) : Prop := match ifs with
  | [] => Q true μ
  | [c] => WT X c δ μ Q
  | _ => False
def gB (X : Cx) (scope : Scope) (tg : Expr) : TG := fun v σ H Q => Blk X scope fun Y => cG Y tg v σ H Q
def tB (X : Cx) (scope : Scope) (ifs : List Expr) : TT := fun σ H Q => match ifs with | [] => Q true H | [c] => Blk X scope fun Y => cT Y c σ H Q | _ => False
def eB (X : Cx) (scope : Scope) (elt : Expr) : TE := fun σ H Q => Blk X scope fun Y => cE Y elt σ H Q
theorem pgB (scope : Scope) (tg : Expr) (s : Shared) (H : Hp) (C : Addr) (cl : List (Str × Addr)) (fp : List Addr) : PG (X.blk s H scope (compEnvC scope cl C X.env) fp) tg (gB X scope tg) := ⟨fun pins s1 σ1 H1 v u Q1 I r hh => hh s H C cl fp pins s1 u I r⟩
theorem ptB (scope : Scope) (ifs : List Expr) (s : Shared) (H : Hp) (C : Addr) (cl : List (Str × Addr)) (fp : List Addr) : PTs (X.blk s H scope (compEnvC scope cl C X.env) fp) ifs (tB X scope ifs) := match ifs with
  | [] => pts_nil
  | [c] => pts_one ⟨fun pins s1 σ1 H1 Q1 I hh => hh s H C cl fp pins s1 I⟩
  | _ :: _ :: _ => ⟨fun _ _ _ _ _ _ hh => hh.elim⟩
theorem peB (scope : Scope) (elt : Expr) (s : Shared) (H : Hp) (C : Addr) (cl : List (Str × Addr)) (fp : List Addr) : PE (X.blk s H scope (compEnvC scope cl C X.env) fp) elt (eB X scope elt) := ⟨fun pins s1 σ1 H1 Q1 I hh => hh s H C cl fp pins s1 I⟩
def toC : Vd → PyData
  | .d x => x
  | .a p => ptr p
  | .w x => x
  | .s ns => .list (intsD ns)
  | .k p _ => ptr p
  | .e p C f x => exI p C f x
  | .z p kvs => zd p kvs
  | .q a b => ptr2 a b
  | .m p _ _ => ptr p
theorem VOk.toC {K : PySem.W.Frag} {F : Hp} : ∀ {x : Vd} {v : V}, (∀ d, x ≠ .w d ∧ ∀ ns, x ≠ .s ns) → VOk K F x v → Dq K F v (toC x)
  | .d _, _, _, h => .d h
  | .a p, _, _, h => by
    rw [show _ = V.ref p from h]
    exact .p p
  | .w d, _, n, _ => absurd rfl (n d).1
  | .s ns, _, n, _ => absurd rfl ((n .none).2 ns)
  | .k p _, _, _, h => by
    rw [h.1]
    exact .p p
  | .e p C f x, _, _, h => by
    obtain ⟨rfl, dd, w, h1, h2, h3⟩ := h
    exact .e h1 h2 h3
  | .z p kvs, _, _, h => by
    rw [h.1]
    exact .z h.2
  | .q a b, _, _, h => by
    obtain ⟨T, o, rfl, h1, h2⟩ := h
    exact .q h1 h2
  | .m p true ds, _, _, h => by
    rw [h.1]
    exact .p p
  | .m p false ds, _, _, h => by
    rw [h.1]
    exact .p p
def LcPg (iv : PyData → Vd) (X : Cx) (scope : Scope) (own : List (Str × Nat)) (elt tg iter : Expr) (ifs : List Expr) (δ : Dl) (μ : Cells) (Q : Vd → Cells → Prop) : Prop :=
  WI X tg iter δ μ fun ds μ1 => ∃ I : Nat → List PyData → Cells → Prop, I 0 [] μ1 ∧ ds.length ≤ 100000 ∧ (∀ i acc μ', I i acc μ' → acc.length ≤ i) ∧
      (∀ i d acc μ', ds[i]? = some d → I i acc μ' → Blk X scope fun Y => WGo Y (own.map (·.2)) tg (iv d) (wipeD δ (own.map (·.2))) μ' fun δ2 μ2 => Blk X scope fun Y => WTs Y ifs δ2 μ2 fun k μ3 =>
        if k = true then Blk X scope fun Y => WE Y elt δ2 μ3 fun y μ4 => ∃ yd, y = .d yd ∧ I (i + 1) (acc ++ [yd]) μ4 else I (i + 1) acc μ3) ∧
      ∀ acc μ', I ds.length acc μ' → ∀ p, Q (.a p) ((p, acc) :: μ')
def LcQg (iv : PyData → Vd) (X : Cx) (scope : Scope) (own : List (Str × Nat)) (elt tg iter : Expr) (ifs : List Expr) (δ : Dl) (μ : Cells) (Q : Vd → Cells → Prop) : Prop :=
  WI X tg iter δ μ fun ds μ1 => ∃ I : Nat → List PyData → Cells → Prop, I 0 [] μ1 ∧ ds.length ≤ 100000 ∧ (∀ i acc μ', I i acc μ' → acc.length ≤ i) ∧
      (∀ i d acc μ', ds[i]? = some d → I i acc μ' → Blk X scope fun Y => WGo Y (own.map (·.2)) tg (iv d) (wipeD δ (own.map (·.2))) μ' fun δ2 μ2 => Blk X scope fun Y => WTs Y ifs δ2 μ2 fun k μ3 =>
        if k = true then Blk X scope fun Y => WE Y elt δ2 μ3 fun y μ4 => (∀ z, y ≠ .w z ∧ ∀ ns, y ≠ .s ns) ∧ I (i + 1) (acc ++ [toC y]) μ4 else I (i + 1) acc μ3) ∧
      ∀ acc μ', I ds.length acc μ' → ∀ p, Q (.a p) ((p, acc) :: μ')
abbrev LcP := LcPg Vd.d
abbrev LcQ := LcQg Vd.d
theorem LcPg.q {iv : PyData → Vd} {elt tg iter : Expr} {ifs : List Expr} {scope : Scope} {own : List (Str × Nat)} (h : LcPg iv X scope own elt tg iter ifs δ μ Q) : LcQg iv X scope own elt tg iter ifs δ μ Q := fun F H σ R RV c =>
  h F H σ R RV fun J ds F1 H1 μ1 w1 R1 wk q => c J ds F1 H1 μ1 w1 R1 wk (by
    obtain ⟨I, h0, hz, hacc, hturn, hend⟩ := q
    refine ⟨I, h0, hz, hacc, fun i d acc μ' hd hI s0 H0 C0 cl0 fp0 F3 H3 σ3 R3 v o3 QV c3 => hturn i d acc μ' hd hI s0 H0 C0 cl0 fp0 F3 H3 σ3 R3 v o3 QV fun F' H' σ' δ' μ' w' R' y' q' => c3 F' H' σ' δ' μ' w' R' y' ?_, hend⟩
    intro s1 H1 C1 cl1 fp1
    have q1 := q' s1 H1 C1 cl1 fp1
    have up : ∀ k μ3, (if k = true then Blk X scope fun Y => WE Y elt δ' μ3 fun y μ4 => ∃ yd, y = .d yd ∧ I (i + 1) (acc ++ [yd]) μ4 else I (i + 1) acc μ3) → if k = true then Blk X scope fun Y => WE Y elt δ' μ3 fun y μ4 => (∀ z, y ≠ .w z ∧ ∀ ns, y ≠ .s ns) ∧ I (i + 1) (acc ++ [toC y]) μ4 else I (i + 1) acc μ3 := fun k μ3 z => by
      cases k with
      | false => exact z
      | true =>
        intro s2 H2 C2 cl2 fp2
        refine (z s2 H2 C2 cl2 fp2).mono fun y μ4 q => ?_
        obtain ⟨yd, rfl, q⟩ := q
        exact ⟨(fun z => ⟨(fun e => by cases e), fun ns e => by cases e⟩), q⟩
    match ifs, q1 with
    | [], q1 => exact up true _ q1
    | [cnd], q1 => exact WT.mono (e := cnd) q1 fun k μ3 z => up k μ3 z
    | _ :: _ :: _, q1 => exact q1.elim)
theorem lc_read {iv : PyData → Vd} {elt tg iter : Expr} {ifs : List Expr} {scope : Scope} {own : List (Str × Nat)} (h : LcQg iv X scope own elt tg iter ifs δ μ Q) (hw : itV iter = iv) {F H : Hp} {σ : L2.St} (R : Rp X.K F H σ δ μ) {QV : VK}
    (c : ∀ v x F' H' μ', Fw (ks μ) (ks μ') F H F' H' → Rp X.K F' H' σ δ μ' → VOk X.K F' x v → Q x μ' → QV v H') : tLc (cI X tg iter) (gB X scope tg) (tB X scope ifs) (eB X scope elt) (own.map (·.2)) σ H QV := by
  subst hw
  refine h F H σ R _ fun J ds F1 H1 μ1 w1 R1 wk q => ?_
  obtain ⟨I, h0, hz, hacc, hturn, hend⟩ := q
  intro L nL
  obtain ⟨m0, w0⟩ := R1.m.cell (ds := []) (vs := []) nL .nil
  have pm : ∀ (μ' : Cells) (acc : List PyData), ((L, Cont.l acc) :: μ').Perm (μ' ++ [(L, Cont.l acc)]) := fun μ' acc => (List.perm_append_singleton (L, Cont.l acc) μ').symm
  refine ⟨fun i m H' => m = ds.length - i ∧ i ≤ ds.length ∧ ∃ F' μ' acc, Fw (ks μ1) (ks (μ' ++ [(L, Cont.l acc)])) F1 H1 F' H' ∧ Rp X.K F' H' σ δ (μ' ++ [(L, Cont.l acc)]) ∧ I i acc μ',
    ⟨_, rfl, Nat.zero_le _, F1, μ1, [], w0.perm (K := X.K) (pm μ1 []), (R1.to w0.f m0).perm (pm μ1 []), h0⟩, ?_⟩
  rintro i m H' ⟨rfl, hi, F', μ', acc, w', R', hI⟩
  by_cases hlt : i < ds.length
  · refine .inr ⟨wk.go i F' H' hlt w'.f R'.m.ex, _, fun _ z => z, fun x H2 y => ?_⟩
    obtain ⟨F2, f1, f2, f3, f4, f5⟩ := wk.yld i F' H' x H2 _ (List.getElem?_eq_getElem hlt) w'.f R'.m.ex y
    obtain ⟨m2, w2⟩ := R'.m.nil_up f1 f2 f3 f4
    have R2 : Rp X.K F2 H2 σ δ (μ' ++ [(L, Cont.l acc)]) := R'.to f1 m2
    have R2l : Rp X.K F2 H2 σ δ μ' := ⟨R2.m.left, R2.len, R2.env⟩
    intro s0 H0 C0 cl0 fp0
    refine hturn i _ acc μ' (List.getElem?_eq_getElem hlt) hI s0 H0 C0 cl0 fp0 F2 H2 _ (R2l.wiped (own.map (·.2))) x f5 _ fun F3 H3 σ3 δ3 μ3 w3 R3 y3 q3 => ⟨y3.wipe, ?_⟩
    obtain ⟨m3, w3'⟩ := R2.m.frame w3 R3.m
    have go : ∀ k F4 H4 μ4, Fw (ks μ3) (ks μ4) F3 H3 F4 H4 → Rp X.K F4 H4 σ3 δ3 μ4 → (if k = true then Blk X scope fun Y => WE Y elt δ3 μ4 fun y μ5 => (∀ z, y ≠ .w z ∧ ∀ ns, y ≠ .s ns) ∧ I (i + 1) (acc ++ [toC y]) μ5 else I (i + 1) acc μ4) →
        if k = true then (Blk X scope fun Y => cE Y elt σ3 H4 fun y H5 => ∃ acc, H5 L = some (.lst acc) ∧ acc.length < sizeLine ∧ (fun H' => ∃ m', m' < ds.length - i ∧ (m' = ds.length - (i + 1) ∧ i + 1 ≤ ds.length ∧ ∃ F' μ' acc, Fw (ks μ1) (ks (μ' ++ [(L, Cont.l acc)])) F1 H1 F' H' ∧ Rp X.K F' H' σ δ (μ' ++ [(L, Cont.l acc)]) ∧ I (i + 1) acc μ')) (upd H5 L (.lst (acc ++ [y])))) else
          (fun H' => ∃ m', m' < ds.length - i ∧ (m' = ds.length - (i + 1) ∧ i + 1 ≤ ds.length ∧ ∃ F' μ' acc, Fw (ks μ1) (ks (μ' ++ [(L, Cont.l acc)])) F1 H1 F' H' ∧ Rp X.K F' H' σ δ (μ' ++ [(L, Cont.l acc)]) ∧ I (i + 1) acc μ')) H4 := by
      intro k F4 H4 μ4 w4 R4 q4
      obtain ⟨m4, w4'⟩ := m3.frame w4 R4.m
      cases k with
      | false => exact ⟨_, by omega, rfl, hlt, F4, μ4, acc, ((w'.trans w2).trans w3').trans w4', (R2.to (w3.f.trans w4.f) m4), q4⟩
      | true =>
        intro s5 H5' C5 cl5 fp5
        refine q4 s5 H5' C5 cl5 fp5 F4 H4 σ3 R4 _ fun v yv F5 H5 μ5 w5 R5 o5 q5' => ?_
        obtain ⟨nw5, q5⟩ := q5'
        obtain ⟨m5, w5'⟩ := m4.frame w5 R5.m
        obtain ⟨fL, vs, hL, gL⟩ := m5.cel L (.l acc) (List.mem_append_right _ List.mem_cons_self)
        have il : (μ5 ++ [(L, Cont.l acc)])[μ5.length]? = some (L, Cont.l acc) := by simp
        obtain ⟨m6, w6⟩ := m5.setCQ (es := acc ++ [toC yv]) il (dqs_app gL (.cons (VOk.toC nw5 o5) .nil))
        have es : (μ5 ++ [(L, Cont.l acc)]).set μ5.length (L, Cont.l (acc ++ [toC yv])) = μ5 ++ [(L, Cont.l (acc ++ [toC yv]))] := by
          rw [List.set_append_right _ _ (Nat.le_refl _), Nat.sub_self]
          rfl
        rw [es] at m6 w6
        refine ⟨vs, hL, ?_, _, by omega, rfl, hlt, F5, μ5, acc ++ [toC yv], ((((w'.trans w2).trans w3').trans w4').trans w5').trans w6, R2.to ((w3.f.trans w4.f).trans w5.f) m6, q5⟩
        rw [dqs_len gL]
        exact Nat.lt_of_le_of_lt (Nat.le_trans (hacc i acc μ' hI) (Nat.le_trans hi hz)) (by decide)
    match ifs, q3 with
    | [], q3 => exact go true F3 H3 μ3 Fw.refl R3 (q3 s0 H0 C0 cl0 fp0)
    | [cnd], q3 => exact fun s4 H4' C4 cl4 fp4 => q3 s4 H4' C4 cl4 fp4 F3 H3 σ3 R3 _ fun k F4 H4 μ4 w4 R4 q4 => go k F4 H4 μ4 w4 R4 q4
    | _ :: _ :: _, q3 => exact (q3 s0 H0 C0 cl0 fp0).elim
  · have e : i = ds.length := by omega
    subst e
    refine .inl ⟨wk.stop F' H' w'.f R'.m.ex, ?_⟩
    have pm' := (pm μ' acc).symm
    exact c _ (.a L) F' H' _ (w1.trans (w'.perm (K := X.K) pm')) (R'.perm pm') rfl (hend acc μ' hI L)
theorem we_lcQ {elt tg iter : Expr} {ifs : List Expr} {scope : Scope} (own : List (Str × Nat)) (hc : X.calm = true) (hN : X.N.Nodup) (ok : BlkOk X.N X.env.scope scope own) (h : LcQ X scope own elt tg iter ifs δ μ Q)
    (hs : ∀ x, foldedSetIterable iter X.env x = pure x := by intro _; rfl) (hw : itV iter = Vd.d := by rfl) : WE X (.ListComp elt [⟨tg, iter, ifs, 0⟩] scope pos) δ μ Q := fun F H σ R QV c =>
  toE (pe_lc hc hN (pcI X tg iter) ok (pgB scope tg) (ptB scope ifs) (peB scope elt) hs) (lc_read h hw R c)
theorem we_lc {elt tg iter : Expr} {ifs : List Expr} {scope : Scope} (own : List (Str × Nat)) (hc : X.calm = true) (hN : X.N.Nodup) (ok : BlkOk X.N X.env.scope scope own) (h : LcP X scope own elt tg iter ifs δ μ Q)
    (hs : ∀ x, foldedSetIterable iter X.env x = pure x := by intro _; rfl) (hw : itV iter = Vd.d := by rfl) : WE X (.ListComp elt [⟨tg, iter, ifs, 0⟩] scope pos) δ μ Q := we_lcQ own hc hN ok h.q hs hw
theorem ws_setLcQ (i : Nat) {y : Str} {py spos : Pos} {elt tg iter : Expr} {ifs : List Expr} {scope : Scope} (own : List (Str × Nat)) (hc : X.calm = true) (hN : X.N.Nodup) (hy : X.N[i]? = some y) (hyl : X.env.scope.names.lookup y = some .local)
    (hsw : swapsWith (.ListComp elt [⟨tg, iter, ifs, 0⟩] scope pos) (some (.Name y py)) spos.line X.env = pure true) (ok : BlkOk X.N X.env.scope scope own) (h : LcQ X scope own elt tg iter ifs δ μ fun v μ1 => D.nx (δ.set i (some v)) μ1)
    (hs : ∀ x, foldedSetIterable iter X.env x = pure x := by intro _; rfl) (hw : itV iter = Vd.d := by rfl) : WS X (.Assign [.Name y py] (.ListComp elt [⟨tg, iter, ifs, 0⟩] scope pos) spos) δ μ D := fun F H σ R De b =>
  toS (ps_setLc hc hN hy hyl hsw (pcI X tg iter) ok (pgB scope tg) (ptB scope ifs) (peB scope elt) hs) (lc_read h hw R fun v x F1 H1 μ1 w1 R1 o1 q => b.nx F1 H1 _ _ μ1 w1 (R1.put i o1) q)
theorem ws_setLc (i : Nat) {y : Str} {py spos : Pos} {elt tg iter : Expr} {ifs : List Expr} {scope : Scope} (own : List (Str × Nat)) (hc : X.calm = true) (hN : X.N.Nodup) (hy : X.N[i]? = some y) (hyl : X.env.scope.names.lookup y = some .local)
    (hsw : swapsWith (.ListComp elt [⟨tg, iter, ifs, 0⟩] scope pos) (some (.Name y py)) spos.line X.env = pure true) (ok : BlkOk X.N X.env.scope scope own) (h : LcP X scope own elt tg iter ifs δ μ fun v μ1 => D.nx (δ.set i (some v)) μ1)
    (hs : ∀ x, foldedSetIterable iter X.env x = pure x := by intro _; rfl) (hw : itV iter = Vd.d := by rfl) : WS X (.Assign [.Name y py] (.ListComp elt [⟨tg, iter, ifs, 0⟩] scope pos) spos) δ μ D := ws_setLcQ i own hc hN hy hyl hsw ok h.q hs hw
theorem we_lcQW {elt tg iter : Expr} {ifs : List Expr} {scope : Scope} (own : List (Str × Nat)) (hc : X.calm = true) (hN : X.N.Nodup) (ok : BlkOk X.N X.env.scope scope own) (h : LcQg Vd.w X scope own elt tg iter ifs δ μ Q)
    (hs : ∀ x, foldedSetIterable iter X.env x = pure x := by intro _; rfl) (hw : itV iter = Vd.w := by rfl) : WE X (.ListComp elt [⟨tg, iter, ifs, 0⟩] scope pos) δ μ Q := fun F H σ R QV c =>
  toE (pe_lc hc hN (pcI X tg iter) ok (pgB scope tg) (ptB scope ifs) (peB scope elt) hs) (lc_read h hw R c)
theorem we_lcW {elt tg iter : Expr} {ifs : List Expr} {scope : Scope} (own : List (Str × Nat)) (hc : X.calm = true) (hN : X.N.Nodup) (ok : BlkOk X.N X.env.scope scope own) (h : LcPg Vd.w X scope own elt tg iter ifs δ μ Q)
    (hs : ∀ x, foldedSetIterable iter X.env x = pure x := by intro _; rfl) (hw : itV iter = Vd.w := by rfl) : WE X (.ListComp elt [⟨tg, iter, ifs, 0⟩] scope pos) δ μ Q := we_lcQW own hc hN ok h.q hs hw
end
end Ec
set_option Elab.async false
set_option linter.all false
set_option maxRecDepth 100000
set_option maxHeartbeats 4000000
namespace Ec
open PySem PySem.Spec PyProof.Rows L2
structure FnG (P : Program) (w : World) (K : PySem.W.Frag) (mg : Str → Option Value) (base : Heap) (CX : CXT) (k : Nat) (f : Addr) (fd : FuncData) (ps : List Str) (sp : Sp) : Prop where
  len : ∀ vs H Q E, sp vs H Q E → vs.length = ps.length
  run : ∀ (A : Around) (outer : List Env) (s : Shared) (H : Hp) (args : Args) (us : List Value) (vs : List V) (Q : VK) (E : XK), Room k A → A.guards = some [] → Env0 P w K mg base A outer s H → BindsTo s fd args (ps.zip us) → Vals vs us → sp vs H Q E →
    codeAny (model P w) A (.call (.ref f) args) (CR CX outer P w H s Q E) s
section
variable {P : Program} {w : World} {K : PySem.W.Frag} {mg : Str → Option Value} {base : Heap} {CX : CXT} {j k : Nat} {f : Addr} {fd : FuncData} {ps : List Str} {sp sp' : Sp}
theorem FnG.of (F : FnOk P w K mg base CX k f fd ps sp) : FnG P w K mg base CX k f fd ps sp := ⟨F.len, fun A outer s H args us vs Q E hr _ => F.run A outer s H args us vs Q E hr⟩
theorem FnG.mono (F : FnG P w K mg base CX j f fd ps sp) (h : j ≤ k) : FnG P w K mg base CX k f fd ps sp := ⟨F.len, fun A outer s H args us vs Q E hr => F.run A outer s H args us vs Q E (hr.mono h)⟩
theorem FnG.imp (F : FnG P w K mg base CX k f fd ps sp) (h : ∀ vs H Q E, sp' vs H Q E → sp vs H Q E) : FnG P w K mg base CX k f fd ps sp' :=
  ⟨fun vs H Q E q => F.len vs H Q E (h _ _ _ _ q), fun A outer s H args us vs Q E hr hg he hb hv hs => F.run A outer s H args us vs Q E hr hg he hb hv (h _ _ _ _ hs)⟩
theorem FnG.body {N : List Str} {x qual : Str} {st : Stmt} (F : Fun K x qual st f fd) (S : FnScope N ps (defScope st)) (len : ∀ vs H Q E, sp vs H Q E → vs.length = ps.length)
    (hbody : ∀ (cdv : Value) (A : Around) (outer : List Env) (s : Shared) (H : Hp) (vs : List V) (Q : VK) (E : XK), Room k (A.deeper (envOfC qual (defScope st) s.heap.objs.size f cdv)) → A.guards = some [] → sp vs H Q E →
      ∃ t, PSs (cxOf CX P w K mg base N qual (defScope st) f cdv A outer s H E) (defBody st) t ∧ t { nx := fun _ H' => Q .non H', rt := Q } (start N vs) H) : FnG P w K mg base CX (k + 1) f fd ps sp := by
  obtain ⟨oc, od, kV, doc, pm, an, cdv, ct, osl, rfl, lk, hcd⟩ := F.ex
  refine ⟨len, fun A outer s H args us vs Q E hr hg e0 hb r hsp => ?_⟩
  have up : ∀ {b : Addr} {o : Obj}, base.get? b = some o → s.heap.get? b = some o := fun e => (e0.bs _ _ e).1
  have loc : ∀ y ∈ ps.zip us, (defScope st).names.lookup y.1 = some .local ∨ ((defScope st).names.lookup y.1 = some .cell ∧ ((cellsFrom (s.heap.objs.size + 1) (defScope st).names []).lookup y.1).isSome = true) := fun y hy =>
    (S.par y.1 (List.of_mem_zip (a := y.1) (b := y.2) hy).1).imp_right fun q => ⟨q, PySem.W.cellsFrom_some _ _ _ (.inl q)⟩
  refine codeAny_call_function hr.depth (e0.mod.kin.keeps (fun _ _ => up) _ _ lk) rfl S.co S.gen rfl (PySem.W.codeRec_of (e0.mod.kin.keeps fun _ _ => up) hcd) (hb _ _ _ _ (wpAny_newFunctionEnv_cells S.kind loc fun env he s1 x => ?_))
  subst he
  obtain ⟨t, ht, hq⟩ := hbody cdv A outer s H vs Q E (hr.deeper _) hg hsp
  refine ⟨(e0.mod.nolimit.keeps fun _ _ => up).keeps x.toInCall.keep, codeAny_func ?_⟩
  refine wpAny_mono (ht.run [] s1 (start N vs) H _ (inv_start S hr.hd e0 (len _ _ _ _ hsp) r x) hq) (fun fl s' hs => ?_) fun e s' hs => hs
  match fl, hs with
  | .ret u, ⟨v, σ', H', J, rv, q⟩ => exact ⟨v, H', J.os, J.bare, J.base, J.hok, rv, q⟩
  | .next, ⟨σ', H', J, q⟩ => exact ⟨V.non, H', J.os, J.bare, J.base, J.hok, rfl, q⟩
  | .brk, ⟨_, _, _, q⟩ => exact q.elim
  | .cont, ⟨_, _, _, q⟩ => exact q.elim
end
section
variable {X : Cx} {CX : CXT} {k : Nat} {f : Addr} {fd : FuncData} {ps ks : List Str} {sp : Sp} {x : Str} {p pos : Pos} {e : Expr} {es : List Expr} {kws : List Keyword} {t tk : TA} {g : List Value → List Value → List Value} {gV : List V → List V → List V}
theorem run_g {pins : List (Addr × Obj)} {σ : L2.St} {H : Hp} {s : Shared} {Q : VK} {E : XK} {us ws : List Value} {kn : List (Str × Value)} {vs : List V} (F : FnG X.prog X.w X.K X.mg X.base CX k f fd ps sp) (hr : Room k X.A) (hgd : X.A.guards = some []) (hb : BindsTo s fd ⟨us, kn⟩ (ps.zip ws)) (hx : PassesAt CX X σ E)
    (I : Inv X pins σ H s) (r : Vals vs ws) (h : sp vs H Q E) : wpAny (model X.prog X.w) X.A (call (.ref f) us kn) (EP X pins σ Q) X.xe s := by
  refine wpAny_call (codeAny_mono (F.run X.A X.stack s H ⟨us, kn⟩ ws vs Q E hr hgd I.env0 hb r h) fun q s' hq => ?_)
  match q, hq with
  | .error e, hq => exact hx pins H s e s' I hq
  | .ok (.ret u), hq => exact I.after hq
  | .ok .next, hq => exact hq.elim
  | .ok .brk, hq => exact hq.elim
  | .ok .cont, hq => exact hq.elim
theorem pe_callSg {E : L2.St → XK} (F : FnG X.prog X.w X.K X.mg X.base CX k f fd ps sp) (hr : Room k X.A) (hgd : X.A.guards = some []) (hg : Gl X x) (hm : X.mg x = some (.ref f)) (hk : PySem.W.keepIn X.K (.ref f) = true) (hb : Binds X.K fd ps []) (hx : ∀ σ, PassesAt CX X σ (E σ))
    (ha : PA X (e :: es) t) (hdb : (x == ("__debug__" : Str)) = false := by decide) (he : starEach (e :: es) X.env = (false, eval e X.env) :: starEach es X.env := by rfl) (hpl : (backTo pos (starEach es X.env)).any (·.1) = false := by rfl) :
    PE X (.Call (.Name x p) (e :: es) [] pos) (tCallS sp E t) := ⟨fun pins s σ H Q I h =>
  wpAny_Call_Name_kw (ld_glob I hg hm (PySem.W.callWith_K (h₀ := X.base) I.ok.mod.kin hk (thn (ha.run pos pins s σ H _ I h) fun us s1 ⟨vs, H1, I1, r, q⟩ => ⟨I1.kIn, by
    have b := hb s1 us I1.kIn (by rw [List.append_nil, ← r.length]; exact F.len _ _ _ _ q)
    rw [List.append_nil] at b
    exact run_g F hr hgd b (hx σ) I1 r q⟩) he hpl) hdb)⟩
theorem pe_callg {E : XK} (F : FnG X.prog X.w X.K X.mg X.base CX k f fd ps sp) (hr : Room k X.A) (hgd : X.A.guards = some []) (hg : Gl X x) (hm : X.mg x = some (.ref f)) (hk : PySem.W.keepIn X.K (.ref f) = true) (hb : Binds X.K fd ps []) (hx : Passes CX X E)
    (ha : PA X (e :: es) t) (hdb : (x == ("__debug__" : Str)) = false := by decide) (he : starEach (e :: es) X.env = (false, eval e X.env) :: starEach es X.env := by rfl) (hpl : (backTo pos (starEach es X.env)).any (·.1) = false := by rfl) :
    PE X (.Call (.Name x p) (e :: es) [] pos) (fun σ H Q => t σ H fun vs H1 => sp vs H1 Q E) := pe_callSg (E := fun _ => E) F hr hgd hg hm hk hb (fun σ pins H s e s' I h => hx pins σ H s e s' I h) ha hdb he hpl
end
end Ec
set_option Elab.async false
set_option linter.all false
set_option maxRecDepth 100000
set_option maxHeartbeats 4000000
namespace Ec
open PySem PySem.Spec PyProof.Rows L2 RZ
theorem wk_list {K : PySem.W.Frag} {F0 : Hp} {a : Addr} {vs : List V} {ds : List PyData} (h : SqL K F0 a vs) (hd : DeAll K F0 vs ds) : Wk K (Itl K a) F0 Vd.d ds where
  go := fun i F H hi f1 f2 => ⟨vs, vs[i]'(by rw [dps_len hd]; exact hi), f2.seq (f1.seq h), List.getElem?_eq_getElem _⟩
  yld := fun i F H x H' d hi f1 f2 y => by
    obtain ⟨rfl, y⟩ := y
    obtain ⟨v, e1, e2⟩ := dps_get hd hi
    have : v = x := Option.some.inj (e1.symm.trans (y vs (f2.seq (f1.seq h))))
    subst this
    exact ⟨F, Same.refl F, f2, Same.refl _, fun _ z _ => z, dp_up f1 _ _ e2⟩
  stop := fun F H f1 f2 => ⟨vs, f2.seq (f1.seq h), Nat.le_of_eq (dps_len hd)⟩
theorem wk_tup {K : PySem.W.Frag} {F0 : Hp} {a : Addr} {vs : List V} {ds : List PyData} (h : SqT K F0 a vs) (hd : DeAll K F0 vs ds) : Wk K (Itt K a) F0 Vd.d ds where
  go := fun i F H hi f1 f2 => ⟨vs, vs[i]'(by rw [dps_len hd]; exact hi), same_t f2 (same_t f1 h), List.getElem?_eq_getElem _⟩
  yld := fun i F H x H' d hi f1 f2 y => by
    obtain ⟨rfl, y⟩ := y
    obtain ⟨v, e1, e2⟩ := dps_get hd hi
    have : v = x := Option.some.inj (e1.symm.trans (y vs (same_t f2 (same_t f1 h))))
    subst this
    exact ⟨F, Same.refl F, f2, Same.refl _, fun _ z _ => z, dp_up f1 _ _ e2⟩
  stop := fun F H f1 f2 => ⟨vs, same_t f2 (same_t f1 h), Nat.le_of_eq (dps_len hd)⟩
def rangeD (lo : Int) (n : Nat) : List PyData := (List.range n).map fun (i : Nat) => .int (lo + (i : Int))
theorem rangeD_len (lo : Int) (n : Nat) : (rangeD lo n).length = n := by simp [rangeD]
theorem rangeD_get {lo : Int} {n i : Nat} (h : i < n) : (rangeD lo n)[i]? = some (.int (lo + i)) := by
  unfold rangeD
  rw [List.getElem?_map, List.getElem?_range h]
  rfl
theorem wk_range {K : PySem.W.Frag} {F0 : Hp} (lo : Int) (n : Nat) : Wk K (Itr lo n) F0 Vd.d (rangeD lo n) where
  go := fun i F H hi f1 f2 => by rw [rangeD_len] at hi; exact hi
  yld := fun i F H x H' d hi f1 f2 y => by
    obtain ⟨rfl, rfl⟩ := y
    have hl := (List.getElem?_eq_some_iff.mp hi).1
    rw [rangeD_len] at hl
    rw [rangeD_get hl] at hi
    cases hi
    exact ⟨F, Same.refl F, f2, Same.refl _, fun _ z _ => z, .int _⟩
  stop := fun F H f1 f2 => by rw [rangeD_len]; exact Nat.le_refl n
theorem pair_new {K : PySem.W.Frag} {F H : Hp} {T : Addr} {x y : V} {d e : PyData} (f2 : Same F H) (nT : H T = none) (hx : De K F x d) (hy : De K F y e) :
    ∃ F', Same F F' ∧ Same F' (upd H T (.tup [x, y])) ∧ Same H (upd H T (.tup [x, y])) ∧ (∀ b, F b = none → H b ≠ none → F' b = none) ∧ VOk K F' (.w (.tuple [d, e])) (.ref T) := by
  have fT : F T = none := f2.free nT
  refine ⟨upd F T (.tup [x, y]), same_new fT, fun b o z => ?_, same_new nT, fun b z q => ?_, ⟨T, _, _, rfl, rfl, .of upd_same, dps_up (same_new fT) _ _ (.cons hx (.cons hy .nil))⟩⟩
  · by_cases hb : b = T
    · subst hb
      rw [upd_same] at z ⊢
      exact z
    · rw [upd_ne hb] at z ⊢
      exact f2 b o z
  · rw [upd_ne]
    · exact z
    · intro w
      exact q (w ▸ nT)
def enumD (ds : List PyData) : List PyData := ds.mapIdx fun (i : Nat) d => .tuple [.int (i : Int), d]
theorem enumD_len (ds : List PyData) : (enumD ds).length = ds.length := by simp [enumD]
theorem enumD_get {ds : List PyData} {i : Nat} {x : PyData} (h : (enumD ds)[i]? = some x) : ∃ d, ds[i]? = some d ∧ x = .tuple [.int (i : Int), d] := by
  unfold enumD at h
  rw [List.getElem?_mapIdx] at h
  cases q : ds[i]? with
  | none =>
    rw [q] at h
    cases h
  | some d =>
    rw [q] at h
    cases h
    exact ⟨d, rfl, rfl⟩
theorem wk_enum {K : PySem.W.Frag} {F0 : Hp} {a : Addr} {vs : List V} {ds : List PyData} (h : SqL K F0 a vs) (hd : DeAll K F0 vs ds) : Wk K (Ite K a) F0 Vd.w (enumD ds) where
  go := fun i F H hi f1 f2 => ⟨vs, vs[i]'(by rw [dps_len hd]; rw [enumD_len] at hi; exact hi), f2.seq (f1.seq h), List.getElem?_eq_getElem _⟩
  yld := fun i F H x H' d hi f1 f2 y => by
    obtain ⟨T, x0, rfl, nT, rfl, y⟩ := y
    obtain ⟨d0, e0, rfl⟩ := enumD_get hi
    obtain ⟨v, e1, e2⟩ := dps_get hd e0
    have : v = x0 := Option.some.inj (e1.symm.trans (y vs (f2.seq (f1.seq h))))
    subst this
    exact pair_new f2 nT (.int _) (dp_up f1 _ _ e2)
  stop := fun F H f1 f2 => ⟨vs, f2.seq (f1.seq h), by rw [enumD_len]; exact Nat.le_of_eq (dps_len hd)⟩
def zipD (ds es : List PyData) : List PyData := List.zipWith (fun d e => .tuple [d, e]) ds es
theorem zipD_len (ds es : List PyData) : (zipD ds es).length = min ds.length es.length := by simp [zipD]
theorem zipD_get {ds es : List PyData} {i : Nat} {x : PyData} (h : (zipD ds es)[i]? = some x) : ∃ d e, ds[i]? = some d ∧ es[i]? = some e ∧ x = .tuple [d, e] := by
  unfold zipD at h
  rw [List.getElem?_zipWith] at h
  cases q : ds[i]? with
  | none =>
    rw [q] at h
    simp at h
  | some d =>
    cases q2 : es[i]? with
    | none =>
      rw [q, q2] at h
      simp at h
    | some e =>
      rw [q, q2] at h
      simp at h
      exact ⟨d, e, rfl, rfl, h.symm⟩
theorem wk_zipL {K : PySem.W.Frag} {F0 : Hp} {a b : Addr} {vs us : List V} {ds es : List PyData} (h : SqL K F0 a vs) (hd : DeAll K F0 vs ds) (h2 : SqL K F0 b us) (he : DeAll K F0 us es) : Wk K (Itz K a b) F0 Vd.w (zipD ds es) where
  go := fun i F H hi f1 f2 => by
    rw [zipD_len] at hi
    exact ⟨vs, us, vs[i]'(by rw [dps_len hd]; omega), us[i]'(by rw [dps_len he]; omega), f2.seq (f1.seq h), f2.seq (f1.seq h2), List.getElem?_eq_getElem _, List.getElem?_eq_getElem _⟩
  yld := fun i F H x H' d hi f1 f2 y => by
    obtain ⟨T, x0, y0, rfl, nT, rfl, y, z⟩ := y
    obtain ⟨d0, d1, e0, e1, rfl⟩ := zipD_get hi
    obtain ⟨v, q1, q2⟩ := dps_get hd e0
    obtain ⟨u, q3, q4⟩ := dps_get he e1
    have t1 : v = x0 := Option.some.inj (q1.symm.trans (y vs (f2.seq (f1.seq h))))
    have t2 : u = y0 := Option.some.inj (q3.symm.trans (z us (f2.seq (f1.seq h2))))
    subst t1 t2
    exact pair_new f2 nT (dp_up f1 _ _ q2) (dp_up f1 _ _ q4)
  stop := fun F H f1 f2 => ⟨vs, us, f2.seq (f1.seq h), f2.seq (f1.seq h2), by rw [zipD_len, dps_len hd, dps_len he]; omega⟩
theorem wk_zipT {K : PySem.W.Frag} {F0 : Hp} {a b : Addr} {vs us : List V} {ds es : List PyData} (h : SqT K F0 a vs) (hd : DeAll K F0 vs ds) (h2 : SqT K F0 b us) (he : DeAll K F0 us es) : Wk K (ItzT K a b) F0 Vd.w (zipD ds es) where
  go := fun i F H hi f1 f2 => by
    rw [zipD_len] at hi
    exact ⟨vs, us, vs[i]'(by rw [dps_len hd]; omega), us[i]'(by rw [dps_len he]; omega), same_t f2 (same_t f1 h), same_t f2 (same_t f1 h2), List.getElem?_eq_getElem _, List.getElem?_eq_getElem _⟩
  yld := fun i F H x H' d hi f1 f2 y => by
    obtain ⟨T, x0, y0, rfl, nT, rfl, y, z⟩ := y
    obtain ⟨d0, d1, e0, e1, rfl⟩ := zipD_get hi
    obtain ⟨v, q1, q2⟩ := dps_get hd e0
    obtain ⟨u, q3, q4⟩ := dps_get he e1
    have t1 : v = x0 := Option.some.inj (q1.symm.trans (y vs (same_t f2 (same_t f1 h))))
    have t2 : u = y0 := Option.some.inj (q3.symm.trans (z us (same_t f2 (same_t f1 h2))))
    subst t1 t2
    exact pair_new f2 nT (dp_up f1 _ _ q2) (dp_up f1 _ _ q4)
  stop := fun F H f1 f2 => ⟨vs, us, same_t f2 (same_t f1 h), same_t f2 (same_t f1 h2), by rw [zipD_len, dps_len hd, dps_len he]; omega⟩
def ItEt (K : PySem.W.Frag) (a : Addr) : It :=
  ⟨fun i H => ∃ (ys : List V) (y : V), SqT K H a ys ∧ ys[i]? = some y, fun i H v H' => ∃ T y, v = .ref T ∧ H T = none ∧ H' = upd H T (.tup [.int (i : Nat), y]) ∧ ∀ ys, SqT K H a ys → ys[i]? = some y, fun i H => ∃ ys : List V, SqT K H a ys ∧ i = ys.length⟩
theorem wk_enumT {K : PySem.W.Frag} {F0 : Hp} {a : Addr} {vs : List V} {ds : List PyData} (h : SqT K F0 a vs) (hd : DeAll K F0 vs ds) : Wk K (ItEt K a) F0 Vd.w (enumD ds) where
  go := fun i F H hi f1 f2 => ⟨vs, vs[i]'(by rw [dps_len hd]; rw [enumD_len] at hi; exact hi), same_t f2 (same_t f1 h), List.getElem?_eq_getElem _⟩
  yld := fun i F H x H' d hi f1 f2 y => by
    obtain ⟨T, x0, rfl, nT, rfl, y⟩ := y
    obtain ⟨d0, e0, rfl⟩ := enumD_get hi
    obtain ⟨v, e1, e2⟩ := dps_get hd e0
    have : v = x0 := Option.some.inj (e1.symm.trans (y vs (same_t f2 (same_t f1 h))))
    subst this
    exact pair_new f2 nT (.int _) (dp_up f1 _ _ e2)
  stop := fun F H f1 f2 => ⟨vs, same_t f2 (same_t f1 h), by rw [enumD_len]; exact (dps_len hd).symm⟩
theorem turn_enumT {P : Program} {w : World} {K : PySem.W.Frag} {elts : List Expr} {kk : Nat} {tpos : Pos} (a e it : Addr) :
    Turn P w K (.Tuple elts kk tpos) (ItEt K a) [e, it] e (fun i h => (∃ old, IsEnum h e it ((i : Nat) : Int) old) ∧ h.IsTupleIter it a i ∧ e ≠ it ∧ e ≠ a ∧ it ≠ a) where
  mem := List.mem_cons_self
  obj := fun i h st b hb => by
    obtain ⟨⟨old, he⟩, ⟨o, ho, hc, hd⟩, _⟩ := st
    rcases List.mem_cons.mp hb with z | z
    · exact ⟨_, z ▸ he, fun v q => by cases q⟩
    · have z' : b = it := by simpa using z
      exact ⟨o, z' ▸ ho, fun v q => by rw [hd] at q; cases q⟩
  keep := fun i h h' st k => by
    obtain ⟨⟨old, he⟩, hi, ne⟩ := st
    exact ⟨⟨old, k e List.mem_cons_self _ he⟩, hi.at fun o q => k it (by simp) o q, ne⟩
  item := by
    intro X hP hw hK hc i pins s σ H E I hf st hg
    subst hP hw hK
    obtain ⟨⟨old, he⟩, hit, hne, ha1, ha2⟩ := st
    obtain ⟨ys, y, hq, hy⟩ := hg
    obtain ⟨its, rv, p, hz⟩ := I.tuple hq
    obtain ⟨u, hu, ru⟩ := rv.get hy
    have hel : e < s.heap.objs.size := Heap.lt_size he
    have hil : it < s.heap.objs.size := by
      obtain ⟨_, q, _⟩ := hit
      exact Heap.lt_size q
    have hlen : i < its.toArray.size := by
      have := (List.getElem?_eq_some_iff.mp hu).1
      simpa using this
    refine wpAny_pyNext_enum_itemC (Draws.tuple (A := X.A.in1) (show X.A.in1.handled = none from I.ok.hd hc) it a (Ne.symm ha2) its.toArray) he ⟨hit, p⟩ hlen hne (by simp [hne, ha1]) fun x h' tk hx ho hst hT hsz hk => ?_
    have xu : x = u := by
      have h1 : its[i]? = some x := by simpa using hx
      exact Option.some.inj (h1.symm.trans hu)
    subst xu
    refine ⟨_, rfl, wpAny_letOwnedTupleGo_enum (s := { s with heap := h', toks := tk + 1 }) ho fun h'' he' sb => ?_⟩
    have hT2 : h''.get? s.heap.objs.size = some { cls := .type "tuple", data := .seq #[.int i tk, x] } := (sb.2 _ (Nat.ne_of_gt hel)).trans hT
    have new : ObjOk X.prog X.w (upd H s.heap.objs.size (.tup [.int (i : Nat), y])) h'' s.heap.objs.size (.tup [.int (i : Nat), y]) :=
      ⟨by show 2 ≤ sizeLine; decide, [.int i tk, x], .cons ⟨_, rfl⟩ (.cons ru .nil), ⟨_, hT2, rfl, _, rfl⟩⟩
    have J : Inv X pins σ (upd H s.heap.objs.size (.tup [.int (i : Nat), y])) { s with heap := h'', toks := tk + 1 } :=
      I.turnedNew (ch := [e, it]) (fun b ob hb q => (sb.2 b (fun z => hb (z ▸ List.mem_cons_self))).trans (hk b ob (fun z => hb (z ▸ List.mem_cons_self)) (fun z => hb (by simp [z])) q)) hf (Nat.le_refl _) new
    refine ⟨.ref s.heap.objs.size, _, J, rfl, ⟨_, y, rfl, I.hok.fresh (Nat.le_refl _), rfl, fun zs hzs => by rw [I.tuple_inj hzs hq]; exact hy⟩, ⟨⟨x, ?_⟩, hst.1.at fun o q => (sb.2 it (Ne.symm hne)).trans q, hne, ha1, ha2⟩, fun b hb => ?_⟩
    · rw [show ((i + 1 : Nat) : Int) = (i : Int) + 1 by omega]
      exact he'
    · have hb' : b < s.heap.objs.size := by
        rcases List.mem_cons.mp hb with z | z
        · exact z ▸ hel
        · have z' : b = it := by simpa using z
          exact z' ▸ hil
      rw [upd_ne (Nat.ne_of_lt hb')]
      exact (hf b hb).1
  done := by
    intro X hP hw hK hc i pins s σ H E I hf st hg
    subst hP hw hK
    obtain ⟨⟨old, he⟩, hit, hne, ha1, ha2⟩ := st
    obtain ⟨ys, hq, hy⟩ := hg
    obtain ⟨its, rv, p, hz⟩ := I.tuple hq
    obtain ⟨f0, f1, f2, f3, f4, f5⟩ := hf it (by simp)
    have hl : i = its.toArray.size := by
      have := rv.length
      simp only [List.size_toArray]
      omega
    subst hl
    exact wpAny_pyNext_enum_endD (Draws.tuple (A := X.A.in1) (show X.A.in1.handled = none from I.ok.hd hc) it a (Ne.symm ha2) its.toArray) he ⟨hit, p⟩ fun h' eb => ⟨rfl, I.turned (t' := s.toks) (fun b o hb q => eb b o hb q) f0 f1 f3 f4 f5⟩
  self := fun A i s Q E st h => by
    obtain ⟨⟨old, he⟩, _⟩ := st
    exact wpAny_pyIter_enum he h
theorem meets_enum1 {v : Value} {o : Obj} {H : Heap → Prop} (B : Begins v o H) :
    Meets (Builtin.«enumerate.__new__» ⟨[.type "enumerate", v], []⟩) (fun _ R s => H s.heap ∧
      R (.ok (.ret (.ref (s.heap.push o).objs.size))) { s with heap := (s.heap.push o).push { cls := .type "enumerate", data := .fields #[.none, .bool false, .ref s.heap.objs.size, rawInt 0, .none, .none] } }) :=
  .of_wp fun prog w A R s h => by
    obtain ⟨hp, g, d, tk, os⟩ := s
    obtain ⟨h1, h⟩ := h
    have hsub := sub_enumerate
    have step : ∀ {A' : Around} {E : Value → Shared → Prop} {Q : Value → Shared → Prop}, Q (.ref hp.objs.size) ⟨hp.push o, g, d, tk, os⟩ → wpAny (model prog w) A' (pyIter v) Q E ⟨hp, g, d, tk, os⟩ := fun q => B.iter prog w _ _ ⟨hp, g, d, tk, os⟩ _ h1 q
    wp_walk using step
    refine wpAny_stack_any fun st => wpAny_pure ?_
    split
    · rename_i c _ _ _ _ _
      cases (c == Value.type "enumerate")
      · wp_walk using step
        exact ⟨_, rfl, h⟩
      · wp_walk using step
        exact ⟨_, rfl, h⟩
    · wp_walk using step
      exact ⟨_, rfl, h⟩
theorem call_enum1 {prog : Program} {w : World} {A : Around} {E : Value → Shared → Prop} {s : Shared} {v : Value} {o : Obj} {H : Heap → Prop} {Q : Value → Shared → Prop} (B : Begins v o H) (h1 : H s.heap)
    (h : ∀ h', IsEnum h' (s.heap.objs.size + 1) s.heap.objs.size 0 .none → h'.get? s.heap.objs.size = some o → (∀ b u, s.heap.get? b = some u → h'.get? b = some u) → Q (.ref (s.heap.objs.size + 1)) { s with heap := h' }) :
    wpAny (model prog w) A (call (.type "enumerate") [v]) Q E s := by
  refine callType_new F.called_enumerate (by decide) (F.typeCall_enumerate_1 _) (F.newCall_enumerate_1 _) (fun obj => F.args_object_init_2 obj _) F.entry_enumerate_new (meets_enum1 B) ⟨h1, ?_⟩
  have hz : (s.heap.push o).objs.size = s.heap.objs.size + 1 := Heap.size_push ..
  show _ ∧ _
  rw [hz]
  have he := Heap.get?_push_size (s.heap.push o) (o := { cls := .type "enumerate", data := .fields #[.none, .bool false, .ref s.heap.objs.size, rawInt 0, .none, .none] }) rfl
  rw [hz] at he
  exact ⟨⟨_, he, rfl⟩, h _ he (Heap.get?_push_of_some _ (Heap.get?_push_size _ B.free)) fun b u x => Heap.get?_push_of_some _ (Heap.get?_push_of_some _ x)⟩
def iEnS (K : PySem.W.Frag) (ta : TA) : TI := fun σ H R => ta σ H fun vs H1 => ∃ a xs, vs = [.ref a] ∧ ((SqL K H1 a xs ∧ R (Ite K a) H1) ∨ (SqT K H1 a xs ∧ R (ItEt K a) H1))
theorem pi_enS {X : Cx} {e : Expr} {ta : TA} {p pos tpos : Pos} {elts : List Expr} {kk : Nat} (hg : Gl X "enumerate") (hm : X.mg "enumerate" = none) (ha : PA X [e] ta) (hs : starEach [e] X.env = [(false, eval e X.env)] := by rfl) :
    PI X (.Tuple elts kk tpos) (.Call (.Name "enumerate" p) [e] [] pos) (iEnS X.K ta) := by
  refine ⟨fun pins s σ H R I h => Call_ (ld_blt I hg hm boot_enumerate (PyProof.Rows.callWith_type1 (thn (ha.run pos pins s σ H _ I h) fun us s1 h1 => ?_) hs rfl))⟩
  obtain ⟨vs, H1, J, r1, a, xs, rfl, q⟩ := h1
  obtain ⟨u, rfl, ru⟩ := vals1 r1
  cases (show u = Value.ref a from ru)
  have fresh : ∀ b ∈ [s1.heap.objs.size + 1, s1.heap.objs.size], FpOk X pins H1 b := fun b hb => by
    have hle : s1.heap.objs.size ≤ b := by
      rcases List.mem_cons.mp hb with z | z
      · rw [z]
        exact Nat.le_succ _
      · have z' : b = s1.heap.objs.size := by simpa using z
        exact Nat.le_of_eq z'.symm
    exact J.fpOk hle (J.hok.fresh hle)
  rcases q with ⟨hq, q⟩ | ⟨hq, q⟩
  · obtain ⟨its, rv, p', hz⟩ := J.list hq
    refine call_enum1 (begins_list a its.toArray) p'.isList fun h' he hit hk => wpAny_pyIter_enum he ?_
    exact ⟨s1.heap.objs.size + 1, [s1.heap.objs.size + 1, s1.heap.objs.size], _, _, H1, rfl, J.kept (t' := s1.toks) hk, turn_enum a _ _, ⟨⟨.none, he⟩, ⟨_, hit, rfl, rfl⟩, Nat.succ_ne_self _⟩, fresh, q⟩
  · obtain ⟨its, rv, p', hz⟩ := J.tuple hq
    obtain ⟨o1, ho1, _⟩ := id p'
    have al : a < s1.heap.objs.size := Heap.lt_size ho1
    refine call_enum1 (begins_tuple a its.toArray) (show s1.heap.IsTuple a its.toArray from p') fun h' he hit hk => wpAny_pyIter_enum he ?_
    exact ⟨s1.heap.objs.size + 1, [s1.heap.objs.size + 1, s1.heap.objs.size], _, _, H1, rfl, J.kept (t' := s1.toks) hk, turn_enumT a _ _, ⟨⟨.none, he⟩, ⟨_, hit, rfl, rfl⟩, Nat.succ_ne_self _, Nat.ne_of_gt (Nat.lt_succ_of_lt al), Nat.ne_of_gt al⟩, fresh, q⟩
def iSeqS (K : PySem.W.Frag) (tl : TE) : TI := fun σ H R => tl σ H fun x H1 => ∃ a xs, x = .ref a ∧ ((SqL K H1 a xs ∧ R (Itl K a) H1) ∨ (SqT K H1 a xs ∧ R (Itt K a) H1))
theorem pi_seqS {X : Cx} {tg l : Expr} {tl : TE} (hl : PE X l tl) : PI X tg l (iSeqS X.K tl) := by
  refine ⟨fun pins s σ H R I h => thn (hl.run pins s σ H _ I h) fun v s1 h1 => ?_⟩
  obtain ⟨x, H1, J, r1, a, xs, rfl, q⟩ := h1
  cases (show v = Value.ref a from r1)
  have fresh : ∀ b ∈ [s1.heap.objs.size], FpOk X pins H1 b := fun b hb => by
    have z : b = s1.heap.objs.size := by simpa using hb
    rw [z]
    exact J.fpOk (Nat.le_refl _) (J.hok.fresh (Nat.le_refl _))
  rcases q with ⟨hq, q⟩ | ⟨hq, q⟩
  · obtain ⟨its, rv, p, hz⟩ := J.list hq
    exact wpAny_pyIter_list p.isList ⟨s1.heap.objs.size, [s1.heap.objs.size], _, _, H1, rfl, J.kept (t' := s1.toks) fun b o e => Heap.get?_push_of_some _ e, turn_list a _, ⟨_, Heap.get?_push_size _ rfl, rfl, rfl⟩, fresh, q⟩
  · obtain ⟨its, rv, p, hz⟩ := J.tuple hq
    exact wpAny_pyIter_tuple (show s1.heap.IsTuple a its.toArray from p) ⟨s1.heap.objs.size, [s1.heap.objs.size], _, _, H1, rfl, J.kept (t' := s1.toks) fun b o e => Heap.get?_push_of_some _ e, turn_tuple a _, ⟨_, Heap.get?_push_size _ rfl, rfl, rfl⟩, fresh, q⟩
section
variable {X : Cx} {δ : Dl} {μ : Cells} {e a b tg : Expr} {pos p : Pos} {Q : Vd → Cells → Prop} {D : Dn} {QI : List PyData → Cells → Prop}
inductive Seqd : Vd → List PyData → Prop
  | l (ds : List PyData) : Seqd (.d (.list ds)) ds
  | t (ds : List PyData) : Seqd (.d (.tuple ds)) ds
theorem wi_seq (h : WE X e δ μ fun x μ1 => ∃ ds, Seqd x ds ∧ QI ds μ1) (hw : itV e = Vd.d := by rfl) : WI X tg e δ μ QI := fun F H σ R RV c =>
  toI (pi_seqS (pcE X e)) (h F H σ R _ fun v x F1 H1 μ1 w1 R1 o1 q => by
    obtain ⟨ds, sx, q⟩ := q
    cases sx with
    | l =>
      obtain ⟨a, vs, rfl, hs, hd⟩ := dp_lst o1
      exact ⟨a, vs, rfl, .inl ⟨R1.m.ex.seq hs, c _ ds F1 H1 μ1 w1 R1 (by rw [hw]; exact wk_list hs hd) q⟩⟩
    | t =>
      obtain ⟨a, vs, rfl, hs, hd⟩ := dp_tup o1
      exact ⟨a, vs, rfl, .inr ⟨same_t R1.m.ex hs, c _ ds F1 H1 μ1 w1 R1 (by rw [hw]; exact wk_tup hs hd) q⟩⟩)
theorem wi_range1 (hg : Gl X "range") (hm : X.mg "range" = none) (h : WA X [a] δ μ fun xs μ1 => ∃ n : Int, xs = [.d (.int n)] ∧ -100000 ≤ n ∧ n ≤ 100000 ∧ QI (rangeD 0 n.toNat) μ1) (hs : starEach [a] X.env = [(false, eval a X.env)] := by rfl) :
    WI X tg (.Call (.Name "range" p) [a] [] pos) δ μ QI := fun F H σ R RV c =>
  toI (pi_range1 hg hm (pcA X [a]) hs) (h F H σ R _ fun vs xs F1 H1 μ1 w1 R1 o1 q => by
    obtain ⟨n, rfl, h1, h2, q⟩ := q
    cases o1 with
    | cons r rr =>
      cases rr
      exact ⟨n, by rw [dp_int r], by omega, by omega, c _ _ F1 H1 μ1 w1 R1 (wk_range 0 n.toNat) q⟩)
theorem wi_enum {elts : List Expr} {kk : Nat} {tpos : Pos} (hg : Gl X "enumerate") (hm : X.mg "enumerate" = none) (h : WA X [a] δ μ fun xs μ1 => ∃ x ds, xs = [x] ∧ Seqd x ds ∧ QI (enumD ds) μ1) (hs : starEach [a] X.env = [(false, eval a X.env)] := by rfl) :
    WI X (.Tuple elts kk tpos) (.Call (.Name "enumerate" p) [a] [] pos) δ μ QI := fun F H σ R RV c =>
  toI (pi_enS hg hm (pcA X [a]) hs) (h F H σ R _ fun vs xs F1 H1 μ1 w1 R1 o1 q => by
    obtain ⟨x, ds, rfl, sx, q⟩ := q
    cases o1 with
    | cons r rr =>
      cases rr
      cases sx with
      | l =>
        obtain ⟨a, vs, rfl, hs, hd⟩ := dp_lst r
        exact ⟨a, vs, rfl, .inl ⟨R1.m.ex.seq hs, c _ _ F1 H1 μ1 w1 R1 (wk_enum hs hd) q⟩⟩
      | t =>
        obtain ⟨a, vs, rfl, hs, hd⟩ := dp_tup r
        exact ⟨a, vs, rfl, .inr ⟨same_t R1.m.ex hs, c _ _ F1 H1 μ1 w1 R1 (wk_enumT hs hd) q⟩⟩)
theorem wi_zip {elts : List Expr} {kk : Nat} {tpos : Pos} (hg : Gl X "zip") (hm : X.mg "zip" = none)
    (h : WA X [a, b] δ μ fun xs μ1 => ∃ x y, ((∃ ds es, xs = [.d (.list ds), .d (.list es)] ∧ x = ds ∧ y = es) ∨ (∃ ds es, xs = [.d (.tuple ds), .d (.tuple es)] ∧ x = ds ∧ y = es)) ∧ QI (zipD x y) μ1)
    (hs : starEach [a, b] X.env = (false, eval a X.env) :: starEach [b] X.env := by rfl) (hpl : (backTo pos (starEach [b] X.env)).any (·.1) = false := by rfl) :
    WI X (.Tuple elts kk tpos) (.Call (.Name "zip" p) [a, b] [] pos) δ μ QI := fun F H σ R RV c =>
  toI (pi_zipA hg hm (pcA X [a, b]) hs hpl) (h F H σ R _ fun vs xs F1 H1 μ1 w1 R1 o1 q => by
    obtain ⟨x, y, q0, q⟩ := q
    rcases q0 with ⟨ds, es, rfl, rfl, rfl⟩ | ⟨ds, es, rfl, rfl, rfl⟩
    · cases o1 with
      | cons r rr =>
        cases rr with
        | cons r2 rr =>
          cases rr
          obtain ⟨a, vs, rfl, hs, hd⟩ := dp_lst r
          obtain ⟨b, us, rfl, hs2, hd2⟩ := dp_lst r2
          exact ⟨a, b, vs, us, rfl, .inl ⟨R1.m.ex.seq hs, R1.m.ex.seq hs2, c _ _ F1 H1 μ1 w1 R1 (wk_zipL hs hd hs2 hd2) q⟩⟩
    · cases o1 with
      | cons r rr =>
        cases rr with
        | cons r2 rr =>
          cases rr
          obtain ⟨a, vs, rfl, hs, hd⟩ := dp_tup r
          obtain ⟨b, us, rfl, hs2, hd2⟩ := dp_tup r2
          exact ⟨a, b, vs, us, rfl, .inr ⟨same_t R1.m.ex hs, same_t R1.m.ex hs2, c _ _ F1 H1 μ1 w1 R1 (wk_zipT hs hd hs2 hd2) q⟩⟩)
abbrev TrD := List Vd → Cells → (Vd → Cells → Prop) → Prop
def spW (K : PySem.W.Frag) (T : TrD) : Sp := fun vs H Q _ => ∃ F xs μ R, RpM K F H μ ∧ VAll K F xs vs ∧ T xs μ R ∧ ∀ v x F' H' μ', Fw (ks μ) (ks μ') F H F' H' → RpM K F' H' μ' → VOk K F' x v → R x μ' → Q v H'
def Cal (P : Program) (w : World) (K : PySem.W.Frag) (mg : Str → Option Value) (base : Heap) (k : Nat) (x : Str) (T : TrD) : Prop :=
  ∃ f fd ps, FnG P w K mg base CX0 k f fd ps (spW K T) ∧ mg x = some (.ref f) ∧ PySem.W.keepIn K (.ref f) = true ∧ Binds K fd ps []
theorem we_call {T : TrD} {k : Nat} {x : Str} {es : List Expr} (c : Cal X.prog X.w X.K X.mg X.base k x T) (hr : Room k X.A) (hg : Gl X x) (h : WA X (e :: es) δ μ fun xs μ1 => ∃ μc μr, μ1 = μc ++ μr ∧ T xs μc fun z μ' => Q z (μ' ++ μr)) (hgd : X.A.guards = some [])
    (hdb : (x == ("__debug__" : Str)) = false := by decide) (he : starEach (e :: es) X.env = (false, eval e X.env) :: starEach es X.env := by rfl) (hpl : (backTo pos (starEach es X.env)).any (·.1) = false := by rfl) :
    WE X (.Call (.Name x p) (e :: es) [] pos) δ μ Q := fun F H σ R QV kk => by
  obtain ⟨f, fd, ps, ok, hm, hk, hb⟩ := c
  refine toE (pe_callg ok hr hgd hg hm hk hb pass0 (pcA X (e :: es)) hdb he hpl) (h F H σ R _ fun vs xs F1 H1 μ1 w1 R1 o1 q => ?_)
  obtain ⟨μc, μr, rfl, q⟩ := q
  refine ⟨F1, xs, μc, _, R1.m.left, o1, q, fun v z F2 H2 μ2 w2 m2 o2 q2 => ?_⟩
  obtain ⟨m3, w3⟩ := R1.m.frame w2 m2
  exact kk v z F2 H2 _ (w1.trans w3) (R1.to w2.f m3) o2 q2
def startD (N : List Str) (xs : List Vd) : Dl := xs.map some ++ List.replicate (N.length - xs.length) none
def Keep (μ' : Cells) (Φ : Cells → Prop) : Prop := ∃ μg μk, μ'.Perm (μg ++ μk) ∧ Φ μk
theorem keep {μ : Cells} {Φ : Cells → Prop} (h : Φ μ) : Keep μ Φ := ⟨[], μ, List.Perm.refl _, h⟩
theorem keep_drop {μ : Cells} {Φ : Cells → Prop} {y : Addr × Cont} (h : Keep μ Φ) : Keep (y :: μ) Φ := by
  obtain ⟨g, k, p, h⟩ := h
  exact ⟨y :: g, k, p.cons y, h⟩
theorem keep_all {μ : Cells} {Φ : Cells → Prop} (h : Φ []) : Keep μ Φ := ⟨μ, [], by rw [List.append_nil], h⟩
theorem keep_perm {μ μ' : Cells} {Φ : Cells → Prop} (p : μ.Perm μ') (h : Keep μ' Φ) : Keep μ Φ := by
  obtain ⟨g, k, q, h⟩ := h
  exact ⟨g, k, p.trans q, h⟩
theorem RpM.kept {K : PySem.W.Frag} {F H F' H' : Hp} {μ μ' : Cells} {Φ : Cells → Prop} (w : Fw (ks μ) (ks μ') F H F' H') (r : RpM K F' H' μ') (h : Keep μ' Φ) : ∃ μk, Fw (ks μ) (ks μk) F H F' H' ∧ RpM K F' H' μk ∧ Φ μk := by
  obtain ⟨g, k, p, h⟩ := h
  refine ⟨k, (w.perm (K := K) p).sub (fun _ z => z) (fun x m => .inl (by rw [ks_app]; exact List.mem_append_right _ m)), (r.perm (p.trans List.perm_append_comm)).left, h⟩
theorem wb_drop {y : Addr × Cont} {sts : List Stmt} (h : WB X sts δ μ D) : WB X sts δ (y :: μ) D := fun F H σ R De b => by
  have R' : Rp X.K F H σ δ μ := ⟨⟨R.m.ex, (List.nodup_cons.mp R.m.nd).2, fun b ds m => R.m.cel b ds (List.mem_cons_of_mem _ m)⟩, R.len, R.env⟩
  have w : Fw (ks (y :: μ)) (ks μ) F H F H := Fw.refl.sub (fun _ h => h) fun x m => .inl (List.mem_cons_of_mem _ m)
  exact h F H σ R' De (b.next w)
theorem wb_nilK (h : Keep μ fun μ' => D.nx δ μ') : WB X [] δ μ D := fun F H σ R De b => by
  obtain ⟨g, k, p, h⟩ := h
  have R2 := R.perm (p.trans List.perm_append_comm)
  have R' : Rp X.K F H σ δ k := ⟨R2.m.left, R.len, R.env⟩
  have w : Fw (ks μ) (ks k) F H F H := Fw.refl.sub (fun _ h => h) fun x m => .inl ((p.map Prod.fst).mem_iff.mpr (by rw [show (g ++ k).map Prod.fst = ks g ++ ks k from ks_app g k]; exact List.mem_append_right _ m))
  exact toB pss_nil (b.nx F H σ δ k w R' h)
def bX (P : Program) (w : World) (K : PySem.W.Frag) (mg : Str → Option Value) (base : Heap) (N : List Str) (qual : Str) (sc : Scope) (f : Addr) (cdv : Value) (A : Around) (outer : List Env) (s : Shared) (H : Hp) (E : XK) : Cx := (cxOf CX0 P w K mg base N qual sc f cdv A outer s H E).nox
theorem fn_w {P : Program} {w : World} {K : PySem.W.Frag} {mg : Str → Option Value} {base : Heap} {x qual : Str} {st : Stmt} {f : Addr} {fd : FuncData} {N ps : List Str} {k : Nat} {T : TrD} (F : Fun K x qual st f fd) (S : FnScope N ps (defScope st))
    (hN : ps.length ≤ N.length) (len : ∀ xs μ R, T xs μ R → xs.length = ps.length)
    (body : ∀ (cdv : Value) (A : Around) (outer : List Env) (s : Shared) (H : Hp) (E : XK), Room k (bX P w K mg base N qual (defScope st) f cdv A outer s H E).A → (bX P w K mg base N qual (defScope st) f cdv A outer s H E).A.guards = some [] → ∀ xs μ R, T xs μ R →
      WB (bX P w K mg base N qual (defScope st) f cdv A outer s H E) (defBody st) (startD N xs) μ { nx := fun _ μ' => Keep μ' (R (.d .none)), rt := fun z μ' => Keep μ' (R z) }) : FnG P w K mg base CX0 (k + 1) f fd ps (spW K T) := by
  refine FnG.body F S (fun vs H Q E h => ?_) (fun cdv A outer s H vs Q E hr hgd h => ?_)
  · obtain ⟨G, xs, μ, R, _, ha, hT, _⟩ := h
    rw [← Paired.length ha]
    exact len _ _ _ hT
  · obtain ⟨G, xs, μ, R, m, ha, hT, c⟩ := h
    have el : xs.length = vs.length := Paired.length ha
    refine ⟨_, (pcB (bX P w K mg base N qual (defScope st) f cdv A outer s H E) _).nox, body cdv A outer s H E hr hgd xs μ R hT G H (start N vs) ⟨m, ?_, fun i y hy => ?_⟩ _ ⟨fun F' H' σ' δ' μ' w' R' q => by
      obtain ⟨k', w2, m2, q⟩ := RpM.kept w' R'.m q
      exact c _ (.d .none) F' H' k' w2 m2 .non q, fun v z F' H' μ' w' m' o' q => by
      obtain ⟨k', w2, m2, q⟩ := RpM.kept w' m' q
      exact c v z F' H' k' w2 m2 o' q, fun _ _ _ _ _ _ _ q => q.elim, fun _ _ _ _ _ _ _ q => q.elim⟩⟩
    · show (L2.start N vs).length = (startD N xs).length
      simp [L2.start, startD, el]
    · have get : ∀ {xs : List Vd} {vs : List V}, VAll K G xs vs → ∀ {i : Nat} {y : Vd}, xs[i]? = some y → ∃ v, vs[i]? = some v ∧ VOk K G y v := by
        intro xs vs h
        induction h with
        | nil => intro i y e; simp at e
        | cons h1 _ ih =>
          intro i y e
          cases i with
          | zero =>
            simp at e
            subst e
            exact ⟨_, rfl, h1⟩
          | succ i => exact ih (by simpa using e)
      unfold startD at hy
      unfold L2.start
      by_cases hi : i < xs.length
      · rw [List.getElem?_append_left (by simpa using hi), List.getElem?_map] at hy
        cases q : xs[i]? with
        | none =>
          rw [q] at hy
          cases hy
        | some z =>
          rw [q] at hy
          cases hy
          obtain ⟨v, e1, e2⟩ := get ha q
          exact ⟨v, by rw [List.getElem?_append_left (by simp; omega), List.getElem?_map, e1]; rfl, e2⟩
      · rw [List.getElem?_append_right (by simp; omega)] at hy
        have := List.mem_of_getElem? hy
        rw [List.mem_replicate] at this
        cases this.2
theorem cal_of {P : Program} {w : World} {K : PySem.W.Frag} {mg : Str → Option Value} {base : Heap} {x : Str} {f : Addr} {fd : FuncData} {ps : List Str} {k : Nat} {T : TrD} (ok : FnG P w K mg base CX0 k f fd ps (spW K T)) (g : mg x = some (.ref f)) (kp : PySem.W.keepIn K (.ref f) = true) (b : Binds K fd ps []) :
    Cal P w K mg base k x T := ⟨f, fd, ps, ok, g, kp, b⟩
end
end Ec
set_option Elab.async false
set_option linter.all false
set_option maxRecDepth 100000
set_option maxHeartbeats 4000000
namespace Ec
open PySem PySem.Spec PyProof.Rows L2
section
variable {K : PySem.W.Frag} {μ : Cells} {Q : Vd → Cells → Prop}
inductive Ct (μ : Cells) : Vd → List PyData → Prop
  | l (ds : List PyData) : Ct μ (.d (.list ds)) ds
  | t (ds : List PyData) : Ct μ (.d (.tuple ds)) ds
  | s (ns : List Int) {ds : List PyData} (e : ds = intsD ns := by rfl) : Ct μ (.s ns) ds
  | c (i : Nat) {p : Addr} {ds : List PyData} (h : μ[i]? = some (p, (ds : Cont))) (pl : plS ds := by repeat' first | exact plS_nil | exact plS_map (fun _ => rfl) | refine plS_app ?_ ?_ | refine plS_cons rfl ?_ | assumption) : Ct μ (.a p) ds
theorem Ct.x (ds : List PyData) : Ct μ (.x ds) ds := .t ds
theorem ct_ok {F H : Hp} {x : Vd} {v : V} {ds : List PyData} (m : RpM K F H μ) (o : VOk K F x v) (h : Ct μ x ds) : ∃ a vs, v = .ref a ∧ (SqL K H a vs ∨ SqT K H a vs) ∧ DeAll K F vs ds := by
  cases h with
  | l =>
    obtain ⟨a, vs, e, hs, hd⟩ := dp_lst o
    exact ⟨a, vs, e, .inl (m.ex.seq hs), hd⟩
  | t =>
    obtain ⟨a, vs, e, hs, hd⟩ := dp_tup o
    exact ⟨a, vs, e, .inr (same_t m.ex hs), hd⟩
  | s ns e0 =>
    subst e0
    obtain ⟨a, e, h⟩ := o
    exact ⟨a, _, e, .inl (m.ex.seq h), ints_dps ns⟩
  | c i h pl =>
    obtain ⟨_, vs, e, hd⟩ := m.cel _ _ (List.mem_of_getElem? h)
    replace hd := hd.to pl
    exact ⟨_, vs, o, .inl (.of e), hd⟩
inductive Vw (μ : Cells) : Vd → PyData → Prop
  | d (x : PyData) : Vw μ (.d x) x
  | c (i : Nat) {p : Addr} {ds : List PyData} (h : μ[i]? = some (p, (ds : Cont))) (pl : plS ds := by repeat' first | exact plS_nil | exact plS_map (fun _ => rfl) | refine plS_app ?_ ?_ | refine plS_cons rfl ?_ | assumption) : Vw μ (.a p) (.list ds)
theorem Vw.x (ds : List PyData) : Vw μ (.x ds) (.tuple ds) := .d _
theorem vw_ok {F H : Hp} {x : Vd} {v : V} {d : PyData} (m : RpM K F H μ) (o : VOk K F x v) (h : Vw μ x d) : De K H v d := by
  cases h with
  | d => exact dp_up m.ex _ _ o
  | c i h pl =>
    obtain ⟨_, vs, e, hd⟩ := m.cel _ _ (List.mem_of_getElem? h)
    replace hd := hd.to pl
    rw [show v = .ref _ from o]
    exact .lst e (dps_up m.ex _ _ hd)
section
variable {i j : Int}
def rCatX (K : PySem.W.Frag) : R2 := fun x y H Q => ∃ a b xs ys, x = .ref a ∧ y = .ref b ∧ SqT K H a xs ∧ SqT K H b ys ∧ xs.length + ys.length ≤ sizeLine ∧
  (xs = [] → Q (.ref b) H) ∧ (xs ≠ [] → ys = [] → Q (.ref a) H) ∧ (xs ≠ [] → ys ≠ [] → ∀ p o, o.dict = none → H p = none → Q (.ref p) (upd H p (.frz o (.tup (xs ++ ys)))))
theorem op_catX {X : Cx} : OpR X (binaryOp .Add) (rCatX X.K) := by
  intro pins s σ H x y v u Q I rx ry h
  obtain ⟨a, b, xs, ys, rfl, rfl, ha, hb, hz, q0, q1, q2⟩ := h
  obtain ⟨its, r1, p1, _⟩ := I.tuple ha
  obtain ⟨its2, r2, p2, _⟩ := I.tuple hb
  cases rx
  cases ry
  by_cases hx : xs = []
  · subst hx
    cases r1
    exact cat_tup0 p1 p2 ⟨.ref b, H, I, rfl, q0 rfl⟩
  · have hz2 : its.length + its2.length ≤ sizeLine := by rw [← r1.length, ← r2.length]; exact hz
    refine HT.cat_tup p1 p2 (fun z => hx (r1.nil_iff.mp z)) (fun z => ⟨.ref a, H, I, rfl, q1 hx (r2.nil_iff.mp z)⟩) (fun z => ?_) hz2
    have nf : H s.heap.objs.size = none := I.hok.fresh (Nat.le_refl _)
    have I2 := I.laid (t' := s.toks) (o := .frz _ (.tup (xs ++ ys))) (h' := s.heap.push _) (fun b ob q => Heap.get?_push_of_some _ q) (Nat.le_refl _) ⟨Heap.get?_push_size _ rfl, by rw [List.length_append]; exact hz, _, r1.append r2, IsTup.new _ _⟩
    exact ⟨.ref s.heap.objs.size, _, I2, rfl, q2 hx (fun w => z (r2.nil_iff.mpr w)) _ _ rfl nf⟩
def OAdd (K : PySem.W.Frag) : R2 := fun x y H Q => (rI0 fun i j => .int (i + j)) x y H Q ∨ rCatX K x y H Q ∨ rCat x y H Q ∨ (fun x y H Q => ∃ i j, x = .str i ∧ y = .str j ∧ i.length + j.length ≤ sizeLine ∧ Q (.str (i ++ j)) H) x y H Q
theorem o_add {X : Cx} : OpR X (binaryOp .Add) (OAdd X.K) := op_add.or (op_catX.or (op_cat.or op_add_str))
theorem ow_add (h : Q (.d (.int (i + j))) μ) : OpW K (OAdd K) (.d (.int i)) (.d (.int j)) μ Q := fun F H v u m o1 o2 QV c => .inl ⟨i, j, dp_int o1, dp_int o2, c (.d (.int _)) _ F H μ Fw.refl m (.int _) h⟩
theorem ow_sub (h : Q (.d (.int (i - j))) μ) : OpW K (rI0 fun i j => .int (i - j)) (.d (.int i)) (.d (.int j)) μ Q := fun F H v u m o1 o2 QV c => ⟨i, j, dp_int o1, dp_int o2, c (.d (.int _)) _ F H μ Fw.refl m (.int _) h⟩
theorem ow_cmp {p : Int → Int → Bool} (h : Q (.d (.bool (p i j))) μ) : OpW K (rI0 fun i j => .bl (p i j)) (.d (.int i)) (.d (.int j)) μ Q := fun F H v u m o1 o2 QV c => ⟨i, j, dp_int o1, dp_int o2, c (.d (.bool _)) _ F H μ Fw.refl m (.bl _) h⟩
theorem ow_cnd {C : Int → Int → Prop} {g : Int → Int → Int} (hc : C i j) (h : Q (.d (.int (g i j))) μ) : OpW K (rI C fun i j => .int (g i j)) (.d (.int i)) (.d (.int j)) μ Q := fun F H v u m o1 o2 QV c => ⟨i, j, dp_int o1, dp_int o2, hc, c (.d (.int _)) _ F H μ Fw.refl m (.int _) h⟩
def OMul (K : PySem.W.Frag) : R2 := fun x y H Q => (rI CMul fun i j => .int (i * j)) x y H Q ∨ rRepT K x y H Q ∨ rRep x y H Q
theorem o_mul {X : Cx} : OpR X (binaryOp .Mult) (OMul X.K) := op_mul.or (op_repT.or op_rep)
theorem ow_mul (hc : CMul i j) (h : Q (.d (.int (i * j))) μ) : OpW K (OMul K) (.d (.int i)) (.d (.int j)) μ Q := fun F H v u m o1 o2 QV c => .inl ⟨i, j, dp_int o1, dp_int o2, hc, c (.d (.int _)) _ F H μ Fw.refl m (.int _) h⟩
theorem uw_neg (h : Q (.d (.int (-i))) μ) : UnW K (rU fun i => .int (-i)) (.d (.int i)) μ Q := fun F H v m o1 QV c => ⟨i, dp_int o1, c (.d (.int _)) _ F H μ Fw.refl m (.int _) h⟩
end
theorem ow_catT {ds es : List PyData} (hl : ds.length + es.length ≤ 100000) (h : Q (.d (.tuple (ds ++ es))) μ) : OpW K (OAdd K) (.d (.tuple ds)) (.d (.tuple es)) μ Q := fun F H v u m o1 o2 QV c => by
  obtain ⟨a, vs, b1, rfl, h1, n1, d1⟩ := dp_tupX o1
  obtain ⟨b, us, b2, rfl, h2, n2, d2⟩ := dp_tupX o2
  refine .inr (.inl ⟨a, b, vs, us, rfl, rfl, .inl (.inr ⟨b1, m.ex _ _ h1⟩), .inl (.inr ⟨b2, m.ex _ _ h2⟩), by rw [dps_len d1, dps_len d2]; exact Nat.le_trans hl (by decide), fun z => ?_, fun _ z => ?_, fun _ _ r o ho nr => ?_⟩)
  · subst z
    cases d1
    exact c (.d (.tuple es)) _ F H μ Fw.refl m (.tup h2 n2 d2) h
  · subst z
    cases d2
    rw [List.append_nil] at h
    exact c (.d (.tuple ds)) _ F H μ Fw.refl m (.tup h1 n1 d1) h
  · obtain ⟨m2, w2⟩ := m.new (o := .frz o (.tup (vs ++ us))) nr
    exact c (.d (.tuple (ds ++ es))) _ _ _ μ w2 m2 (.tup upd_same ho (dps_up w2.f _ _ (dps_app d1 d2))) h
theorem ow_catL {ds es : List PyData} (hl : ds.length + es.length ≤ 100000) (h : ∀ r, Q (.a r) ((r, ds ++ es) :: μ)) : OpW K (OAdd K) (.d (.list ds)) (.d (.list es)) μ Q := fun F H v u m o1 o2 QV c => by
  obtain ⟨a, vs, rfl, h1, d1⟩ := dp_lstX o1
  obtain ⟨b, us, rfl, h2, d2⟩ := dp_lstX o2
  refine .inr (.inr (.inl ⟨a, b, vs, us, rfl, rfl, m.ex _ _ h1, m.ex _ _ h2, by rw [dps_len d1, dps_len d2]; exact Nat.le_trans hl (by decide), fun r nr => ?_⟩))
  obtain ⟨m2, w2⟩ := m.cell nr (dps_app d1 d2)
  exact c (.a r) _ _ _ _ w2 m2 rfl (h r)
theorem ow_eq {x y : Vd} {d e : PyData} (hx : Vw μ x d) (hy : Vw μ y e) (sd : SeqAt.shaped d = true) (se : SeqAt.shaped e = true) (h : Q (.d (.bool (PyData.eqv d e))) μ) : OpW K (rEqD K) x y μ Q := fun F H v u m o1 o2 QV c =>
  ⟨d, e, (vw_ok m o1 hx).dp, (vw_ok m o2 hy).dp, sd, se, c (.d (.bool _)) _ F H μ Fw.refl m (.bl _) h⟩
theorem ow_ne {x y : Vd} {d e : PyData} (hx : Vw μ x d) (hy : Vw μ y e) (sd : SeqAt.shaped d = true) (se : SeqAt.shaped e = true) (h : Q (.d (.bool (!PyData.eqv d e))) μ) : OpW K (rNeD K) x y μ Q := fun F H v u m o1 o2 QV c =>
  ⟨d, e, (vw_ok m o1 hx).dp, (vw_ok m o2 hy).dp, sd, se, c (.d (.bool _)) _ F H μ Fw.refl m (.bl _) h⟩
def isNone : PyData → Bool
  | .none => true
  | _ => false
theorem ow_isN {d : PyData} (h : Q (.d (.bool (isNone d))) μ) : OpW K (fun x y H Q => y = .non ∧ Q (.bl (decide (x = .non))) H) (.d d) (.d .none) μ Q := fun F H v u m o1 o2 QV c => by
  refine ⟨dp_non o2, c (.d (.bool _)) _ F H μ Fw.refl m ?_ h⟩
  show De K F (.bl (decide (v = .non))) _
  cases o1 <;> exact .bl _
theorem ow_notN {d : PyData} (h : Q (.d (.bool (!isNone d))) μ) : OpW K (fun x y H Q => y = .non ∧ Q (.bl (!decide (x = .non))) H) (.d d) (.d .none) μ Q := fun F H v u m o1 o2 QV c => by
  refine ⟨dp_non o2, c (.d (.bool _)) _ F H μ Fw.refl m ?_ h⟩
  show De K F (.bl (!decide (v = .non))) _
  cases o1 <;> exact .bl _
def flatD : PyData → Bool
  | .none => true
  | .bool _ => true
  | .int _ => true
  | .str _ => true
  | _ => false
theorem flat_ok {F : Hp} : ∀ {d : PyData} {v : V}, flatD d = true → De K F v d → flatV v = true
  | .none, _, _, h => by cases h; rfl
  | .bool _, _, _, h => by cases h; rfl
  | .int _, _, _, h => by cases h; rfl
  | .str _, _, _, h => by cases h; rfl
theorem flats_ok {F : Hp} : ∀ {ds : List PyData} {vs : List V}, ds.all flatD = true → DeAll K F vs ds → vs.all flatV = true
  | [], _, _, h => by
    cases h
    rfl
  | d :: ds, _, e, h => by
    cases h with
    | cons h1 h2 =>
      rw [List.all_cons, Bool.and_eq_true_iff] at e
      rw [List.all_cons, flat_ok e.1 h1, flats_ok e.2 h2]
      rfl
theorem eqv_flat {F : Hp} : ∀ {d e : PyData} {v u : V}, flatD d = true → flatD e = true → De K F v d → De K F u e → eqV v u = PyData.eqv d e := by
  intro d e v u hd he h1 h2
  cases h1 <;> first
    | (simp [flatD] at hd; done)
    | (cases h2 <;> first
        | (simp [flatD] at he; done)
        | (simp only [eqV, PyData.eqv]; done)
        | rfl
        | (simp [eqV, PyData.eqv]; done)
        | (unfold eqV; unfold PyData.eqv; first | rfl | simp | (rename_i a b; cases a <;> cases b <;> rfl) | (rename_i a b; cases a <;> rfl) | (rename_i a b; cases b <;> rfl)))
def inD (d : PyData) (ds : List PyData) : Bool := ds.any fun e => PyData.eqv e d
theorem inV_eq {F : Hp} {d : PyData} {v : V} (fd : flatD d = true) (h : De K F v d) : ∀ {ds : List PyData} {vs : List V}, ds.all flatD = true → DeAll K F vs ds → inV v vs = inD d ds
  | [], _, _, g => by
    cases g
    rfl
  | e :: ds, _, f, g => by
    cases g with
    | cons g1 g2 =>
      rw [List.all_cons, Bool.and_eq_true_iff] at f
      show ((eqV _ v) || _) = (PyData.eqv e d || _)
      rw [eqv_flat f.1 fd g1 h]
      exact congrArg _ (inV_eq fd h f.2 g2)
theorem ow_in {y : Vd} {d : PyData} {ds : List PyData} (hy : Ct μ y ds) (fd : flatD d = true) (fs : ds.all flatD = true) (h : Q (.d (.bool (inD d ds))) μ) : OpW K (rIn K false) (.d d) y μ Q := fun F H v u m o1 o2 QV c => by
  obtain ⟨a, vs, rfl, hs, hd⟩ := ct_ok m o2 hy
  refine ⟨a, vs, rfl, hs, flat_ok fd o1, flats_ok fs hd, ?_⟩
  show QV (.bl (inV v vs)) H
  rw [inV_eq fd o1 fs hd]
  exact c (.d (.bool _)) _ F H μ Fw.refl m (.bl _) h
theorem ow_ni {y : Vd} {d : PyData} {ds : List PyData} (hy : Ct μ y ds) (fd : flatD d = true) (fs : ds.all flatD = true) (h : Q (.d (.bool (!inD d ds))) μ) : OpW K (rIn K true) (.d d) y μ Q := fun F H v u m o1 o2 QV c => by
  obtain ⟨a, vs, rfl, hs, hd⟩ := ct_ok m o2 hy
  refine ⟨a, vs, rfl, hs, flat_ok fd o1, flats_ok fs hd, ?_⟩
  show QV (.bl (!inV v vs)) H
  rw [inV_eq fd o1 fs hd]
  exact c (.d (.bool _)) _ F H μ Fw.refl m (.bl _) h
theorem inD_int (i : Int) (ns : List Int) : inD (.int i) (intsD ns) = decide (i ∈ ns) := by
  induction ns with
  | nil => rfl
  | cons n r ih =>
    show (PyData.eqv (.int n) (.int i) || inD (.int i) (intsD r)) = _
    rw [ih]
    simp only [PyData.eqv, List.mem_cons, Bool.decide_or]
    congr 1
    by_cases e : n = i
    · subst e
      simp
    · have : ¬ i = n := fun z => e z.symm
      simp [e, this]
theorem flat_ints (ns : List Int) : (intsD ns).all flatD = true := by
  rw [List.all_eq_true]
  intro x hx
  obtain ⟨i, _, rfl⟩ := List.mem_map.mp hx
  rfl
theorem ow_ix {x : Vd} {i : Int} {d : PyData} {ds : List PyData} (hx : Ct μ x ds) (ha : atI ds i = some d) (h : Q (.d d) μ) : OpW K (rIx K) x (.d (.int i)) μ Q := fun F H v u m o1 o2 QV c => by
  obtain ⟨a, vs, rfl, hs, hd⟩ := ct_ok m o1 hx
  have hv : ∃ w, atI vs i = some w ∧ De K F w d := by
    unfold atI at ha ⊢
    rw [dps_len hd]
    cases q : ixN ds.length i with
    | none =>
      rw [q] at ha
      cases ha
    | some j =>
      rw [q] at ha
      exact dps_get hd ha
  obtain ⟨w, hw, ow⟩ := hv
  have fin : QV w H := c (.d _) _ F H μ Fw.refl m ow h
  rcases hs with hs | hs
  · exact .inl ⟨a, vs, i, w, rfl, dp_int o2, hs, hw, fin⟩
  · exact .inr (.inl ⟨a, vs, i, w, rfl, dp_int o2, hs, hw, fin⟩)
end
end Ec
set_option Elab.async false
set_option linter.all false
set_option maxRecDepth 100000
set_option maxHeartbeats 4000000
namespace Ec
open PySem PySem.Spec PyProof.Rows L2
structure Bl (mg : Str → Option Value) : Prop where
  len : mg "len" = none
  range : mg "range" = none
  list : mg "list" = none
  tuple : mg "tuple" = none
  sorted : mg "sorted" = none
  all : mg "all" = none
  any : mg "any" = none
  isi : mg "isinstance" = none
  min : mg "min" = none
  max : mg "max" = none
  abs : mg "abs" = none
  int : mg "int" = none
  str : mg "str" = none
  repr : mg "repr" = none
  set : mg "set" = none
  sum : mg "sum" = none
  enum : mg "enumerate" = none
  zip : mg "zip" = none
  bool : mg "bool" = none
  dict : mg "dict" = none
section
variable {X : Cx} {δ : Dl} {μ : Cells} {e a b : Expr} {pos p : Pos} {Q : Vd → Cells → Prop} {es : List Expr} {mg : Str → Option Value}
theorem we_cb {id : String} {x : Str} {r : List V → Hp → VK → Prop} (hc : CallR X (.builtin id) r) (hg : Gl X x) (hm : X.mg x = none) (hv : bootBuiltins x = some (.builtin id)) (h : WA X (e :: es) δ μ fun xs μ1 => CaW X.K r xs μ1 Q) (hn : x ≠ "__name__" := by decide) (hdb : (x == ("__debug__" : Str)) = false := by decide)
    (he : starEach (e :: es) X.env = (false, eval e X.env) :: starEach es X.env := by rfl) (hpl : (backTo pos (starEach es X.env)).any (·.1) = false := by rfl) : WE X (.Call (.Name x p) (e :: es) [] pos) δ μ Q := fun F H σ R QV c =>
  toE (pe_callB hc hg hm hv (pcA X (e :: es)) hn hdb he hpl) (h F H σ R _ fun vs xs F1 H1 μ1 w1 R1 o1 q => q F1 H1 vs R1.m o1 _ fun z w F3 H3 μ3 w3 m3 o3 q3 => c w z F3 H3 μ3 (w1.trans w3) (R1.to w3.f m3) o3 q3)
theorem we_ct {T : String} {x : Str} {r : List V → Hp → VK → Prop} (hc : CallR X (.type T) r) (hg : Gl X x) (hm : X.mg x = none) (hv : bootBuiltins x = some (.type T)) (h : WA X (e :: es) δ μ fun xs μ1 => CaW X.K r xs μ1 Q) (hn : x ≠ "__name__" := by decide) (hdb : (x == ("__debug__" : Str)) = false := by decide)
    (he : starEach (e :: es) X.env = (false, eval e X.env) :: starEach es X.env := by rfl) (hpl : (backTo pos (starEach es X.env)).any (·.1) = false := by rfl) : WE X (.Call (.Name x p) (e :: es) [] pos) δ μ Q := fun F H σ R QV c =>
  toE (pe_callTy hc hg hm hv (pcA X (e :: es)) hn hdb he hpl) (h F H σ R _ fun vs xs F1 H1 μ1 w1 R1 o1 q => q F1 H1 vs R1.m o1 _ fun z w F3 H3 μ3 w3 m3 o3 q3 => c w z F3 H3 μ3 (w1.trans w3) (R1.to w3.f m3) o3 q3)
theorem wa_one {QA : List Vd → Cells → Prop} (h : WE X e δ μ fun x μ1 => QA [x] μ1) (hs : starEach [e] X.env = (false, eval e X.env) :: starEach [] X.env := by rfl) : WA X [e] δ μ QA := wa_cons (h.mono fun x μ1 q => wa_nil q) hs
theorem wa_two {QA : List Vd → Cells → Prop} (h : WE X a δ μ fun x μ1 => WE X b δ μ1 fun y μ2 => QA [x, y] μ2) (hs : starEach [a, b] X.env = (false, eval a X.env) :: starEach [b] X.env := by rfl) (hs2 : starEach [b] X.env = (false, eval b X.env) :: starEach [] X.env := by rfl) :
    WA X [a, b] δ μ QA := wa_cons (h.mono fun x μ1 q => wa_one q hs2) hs
theorem we_len (B : Bl mg) (hg : Gl X "len") (h : WE X e δ μ fun x μ1 => ∃ ds, Ct μ1 x ds ∧ Q (.d (.int (ds.length : Int))) μ1) (hm : X.mg = mg := by rfl) (s1 : starEach [e] X.env = (false, eval e X.env) :: starEach [] X.env := by rfl) (s2 : (backTo pos (starEach [] X.env)).any (·.1) = false := by rfl) :
    WE X (.Call (.Name "len" p) [e] [] pos) δ μ Q :=
  we_cb call_len_seq hg (hm ▸ B.len) PySem.boot_len (wa_one (h.mono fun x μ1 q => fun F H vs m o QV c => by
    obtain ⟨ds, ct, q⟩ := q
    cases o with
    | cons o1 o2 =>
      cases o2
      obtain ⟨a, us, rfl, hs, hd⟩ := ct_ok m o1 ct
      refine ⟨a, us, rfl, hs, ?_⟩
      rw [dps_len hd]
      exact c (.d (.int _)) _ F H μ1 Fw.refl m (.int _) q) s1) (he := s1) (hpl := s2)
theorem we_list (B : Bl mg) (hg : Gl X "list") (h : WE X e δ μ fun x μ1 => ∃ ds, Ct μ1 x ds ∧ ∀ p, Q (.a p) ((p, ds) :: μ1)) (hm : X.mg = mg := by rfl) (s1 : starEach [e] X.env = (false, eval e X.env) :: starEach [] X.env := by rfl) (s2 : (backTo pos (starEach [] X.env)).any (·.1) = false := by rfl) :
    WE X (.Call (.Name "list" p) [e] [] pos) δ μ Q :=
  we_ct call_list_of hg (hm ▸ B.list) PyProof.Rows.boot_list (wa_one (h.mono fun x μ1 q => fun F H vs m o QV c => by
    obtain ⟨ds, ct, q⟩ := q
    cases o with
    | cons o1 o2 =>
      cases o2
      obtain ⟨a, us, rfl, hs, hd⟩ := ct_ok m o1 ct
      refine ⟨a, us, rfl, hs, fun l nl => ?_⟩
      obtain ⟨m2, w2⟩ := m.cell nl hd
      exact c (.a l) _ _ _ _ w2 m2 rfl (q l)) s1) (he := s1) (hpl := s2)
theorem intsD_inj : ∀ {as bs : List Int}, intsD as = intsD bs → as = bs
  | [], [], _ => rfl
  | a :: as, b :: bs, h => by
    have h1 := (List.cons.inj h).1
    have h2 := intsD_inj (List.cons.inj h).2
    cases h1
    rw [h2]
  | [], _ :: _, h => by cases h
  | _ :: _, [], h => by cases h
def rTupL (K : PySem.W.Frag) : List V → Hp → VK → Prop := fun xs H Q => ∃ p ys, xs = [.ref p] ∧ SqL K H p ys ∧ ∀ l o, o.dict = none → H l = none → Q (.ref l) (upd H l (.frz o (.tup ys)))
theorem cr_tupL : CallR X (.type "tuple") (rTupL X.K) := fun pins st σ H xs us Q iv rel h => by
  obtain ⟨p, ys, e, hl, q⟩ := h
  subst e
  obtain ⟨u, e, ru⟩ := vals1 rel
  subst e
  cases ru
  obtain ⟨its, rv, pl, hz⟩ := iv.list hl
  have hn := rv.length
  refine call_tuple_list pl.isList (fun hp kp => ?_) (by simp only [List.size_toArray] <;> omega)
  have J : Inv X pins σ H { st with heap := hp } := iv.kept (t' := st.toks) kp
  have nf := J.hok.fresh (Nat.le_refl hp.objs.size)
  exact ⟨.ref hp.objs.size, _, J.laid (t' := st.toks) (o := .frz { cls := .type "tuple", data := .seq its.toArray } (.tup ys)) (fun b o e => Heap.get?_push_of_some _ e) (Nat.le_refl _)
    ⟨Heap.get?_push_size _ rfl, hz, its, rv, IsTup.new _ _⟩, rfl, q _ _ rfl nf⟩
theorem we_tuple (B : Bl mg) (hg : Gl X "tuple") (h : WE X e δ μ fun x μ1 => ∃ ds, Ct μ1 x ds ∧ Q (.d (.tuple ds)) μ1) (hm : X.mg = mg := by rfl) (s1 : starEach [e] X.env = (false, eval e X.env) :: starEach [] X.env := by rfl) (s2 : (backTo pos (starEach [] X.env)).any (·.1) = false := by rfl) :
    WE X (.Call (.Name "tuple" p) [e] [] pos) δ μ Q :=
  we_ct (cr_tupL.or call_tuple_of) hg (hm ▸ B.tuple) PyProof.Rows.boot_tuple (wa_one (h.mono fun x μ1 q => fun F H vs m o QV c => by
    obtain ⟨ds, ct, q⟩ := q
    cases o with
    | cons o1 o2 =>
      cases o2
      have new : ∀ {a : Addr} {us : List V}, SqL X.K H a us → DeAll X.K F us ds → ∀ l o, o.dict = none → H l = none → QV (.ref l) (upd H l (.frz o (.tup us))) := fun {a us} hs hd l o ho nl => by
        obtain ⟨m2, w2⟩ := m.new (o := .frz o (.tup us)) nl
        exact c (.d (.tuple ds)) _ _ _ μ1 w2 m2 (.tup upd_same ho (dps_up w2.f _ _ hd)) q
      cases ct with
      | l =>
        obtain ⟨a, us, rfl, hs, hd⟩ := dp_lst o1
        exact .inl ⟨a, us, rfl, m.ex.seq hs, new (m.ex.seq hs) hd⟩
      | t =>
        obtain ⟨a, us, b, rfl, h1, h2, hd⟩ := dp_tupX o1
        exact .inr ⟨a, us, rfl, .inr ⟨.inl (.inr ⟨b, m.ex _ _ h1⟩), c (.d (.tuple ds)) _ F H μ1 Fw.refl m (.tup h1 h2 hd) q⟩⟩
      | s ns e0 =>
        subst e0
        obtain ⟨a, e, hs⟩ := o1
        subst e
        exact .inl ⟨a, _, rfl, m.ex.seq hs, new (m.ex.seq hs) (ints_dps ns)⟩
      | c i hi pl =>
        obtain ⟨_, us, e1, hd⟩ := m.cel _ _ (List.mem_of_getElem? hi)
        replace hd := hd.to pl
        exact .inl ⟨_, us, by rw [show _ = V.ref _ from o1], .of e1, new (.of e1) hd⟩) s1) (he := s1) (hpl := s2)
def srt (ns : List Int) : List Int := ns.mergeSort (fun a b => decide (a ≤ b))
theorem srt_perm (ns : List Int) : (srt ns).Perm ns := List.mergeSort_perm ns _
theorem srt_up (ns : List Int) : (srt ns).Pairwise (· ≤ ·) := by
  have h := List.pairwise_mergeSort (le := fun (a b : Int) => decide (a ≤ b)) (fun a b c h1 h2 => decide_eq_true (Int.le_trans (of_decide_eq_true h1) (of_decide_eq_true h2)))
    (fun a b => by
      rcases Int.le_total a b with h | h
      · simp [h]
      · simp [h]) ns
  exact h.imp fun h => of_decide_eq_true h
theorem srt_one {as bs : List Int} (p : as.Perm bs) (h1 : as.Pairwise (· ≤ ·)) (h2 : bs.Pairwise (· ≤ ·)) : as = bs := p.eq_of_pairwise (fun a b _ _ x y => Int.le_antisymm x y) h1 h2
theorem srt_eq {as ns : List Int} (p : as.Perm ns) (h1 : as.Pairwise (· ≤ ·)) : as = srt ns := srt_one (p.trans (srt_perm ns).symm) h1 (srt_up ns)
theorem we_sorted (B : Bl mg) (hg : Gl X "sorted") (h : WE X e δ μ fun x μ1 => ∃ ns, Ct μ1 x (intsD ns) ∧ (∀ ds, toC x ≠ .tuple ds) ∧ ns.length < 64 ∧ ∀ p, Q (.a p) ((p, intsD (srt ns)) :: μ1)) (hm : X.mg = mg := by rfl) (s1 : starEach [e] X.env = (false, eval e X.env) :: starEach [] X.env := by rfl) (s2 : (backTo pos (starEach [] X.env)).any (·.1) = false := by rfl) :
    WE X (.Call (.Name "sorted" p) [e] [] pos) δ μ Q :=
  we_cb cr_sorted hg (hm ▸ B.sorted) PyProof.Rows.boot_sorted (wa_one (h.mono fun x μ1 q => fun F H vs m o QV c => by
    obtain ⟨ns, ct, nt, hz, q⟩ := q
    cases o with
    | cons o1 o2 =>
      cases o2
      obtain ⟨a, us, rfl, hs, hd⟩ := ct_ok m o1 ct
      have hl : SqL X.K H a us := by
        cases ct with
        | l =>
          obtain ⟨a', us', e1, hs', hd'⟩ := dp_lst o1
          cases e1
          rw [dps_ints hd, ← dps_ints hd']
          exact m.ex.seq hs'
        | t => exact absurd rfl (nt _)
        | s ns2 e0 =>
          obtain ⟨a', e, hs'⟩ := o1
          cases e
          rw [dps_ints hd, intsD_inj e0]
          exact m.ex.seq hs'
        | c i hi pl =>
          obtain ⟨_, us', e1, hd'⟩ := m.cel _ _ (List.mem_of_getElem? hi)
          replace hd' := hd'.to pl
          have : V.ref a = .ref _ := o1
          cases this
          rw [dps_ints hd, ← dps_ints hd']
          exact .of e1
      rw [dps_ints hd] at hl
      refine ⟨a, ns, rfl, hl, hz, fun ns' l pm up nl => ?_⟩
      rw [srt_eq pm up]
      obtain ⟨m2, w2⟩ := m.cell nl (ints_dps (K := X.K) (H := F) (srt ns))
      exact c (.a l) _ _ _ _ w2 m2 rfl (q l)) s1) (he := s1) (hpl := s2)
abbrev blsD (bs : List Bool) : List PyData := bs.map PyData.bool
theorem ct_lst {K : PySem.W.Frag} {F H : Hp} {x : Vd} {v : V} {ds : List PyData} (m : RpM K F H μ) (o : VOk K F x v) (ct : Ct μ x ds) (nt : ∀ ds, toC x ≠ .tuple ds) : ∃ a us, v = .ref a ∧ SqL K H a us ∧ DeAll K F us ds := by
  cases ct with
  | l =>
    obtain ⟨a, us, e1, hs, hd⟩ := dp_lst o
    exact ⟨a, us, e1, m.ex.seq hs, hd⟩
  | t => exact absurd rfl (nt _)
  | s ns e0 =>
    subst e0
    obtain ⟨a, e, hs⟩ := o
    exact ⟨a, _, e, m.ex.seq hs, ints_dps ns⟩
  | c i hi pl =>
    obtain ⟨_, us, e1, hd⟩ := m.cel _ _ (List.mem_of_getElem? hi)
    exact ⟨_, us, o, .of e1, hd.to pl⟩
theorem we_all (B : Bl mg) (hg : Gl X "all") (hc : X.calm = true) (h : WE X e δ μ fun x μ1 => ∃ bs, Ct μ1 x (blsD bs) ∧ (∀ ds, toC x ≠ .tuple ds) ∧ Q (.d (.bool (bs.all id))) μ1) (hm : X.mg = mg := by rfl) (s1 : starEach [e] X.env = (false, eval e X.env) :: starEach [] X.env := by rfl) (s2 : (backTo pos (starEach [] X.env)).any (·.1) = false := by rfl) :
    WE X (.Call (.Name "all" p) [e] [] pos) δ μ Q :=
  we_cb (cr_all hc) hg (hm ▸ B.all) PyProof.Rows.boot_all (wa_one (h.mono fun x μ1 q => fun F H vs m o QV c => by
    obtain ⟨bs, ct, nt, q⟩ := q
    cases o with
    | cons o1 o2 =>
      cases o2
      obtain ⟨a, us, rfl, hs, hd⟩ := ct_lst m o1 ct nt
      rw [dps_bls hd] at hs
      exact ⟨a, bs, rfl, hs, c (.d (.bool _)) _ F H μ1 Fw.refl m (.bl _) q⟩) s1) (he := s1) (hpl := s2)
theorem we_any (B : Bl mg) (hg : Gl X "any") (hc : X.calm = true) (h : WE X e δ μ fun x μ1 => ∃ bs, Ct μ1 x (blsD bs) ∧ (∀ ds, toC x ≠ .tuple ds) ∧ Q (.d (.bool (bs.any id))) μ1) (hm : X.mg = mg := by rfl) (s1 : starEach [e] X.env = (false, eval e X.env) :: starEach [] X.env := by rfl) (s2 : (backTo pos (starEach [] X.env)).any (·.1) = false := by rfl) :
    WE X (.Call (.Name "any" p) [e] [] pos) δ μ Q :=
  we_cb (cr_any hc) hg (hm ▸ B.any) PyProof.Rows.boot_any (wa_one (h.mono fun x μ1 q => fun F H vs m o QV c => by
    obtain ⟨bs, ct, nt, q⟩ := q
    cases o with
    | cons o1 o2 =>
      cases o2
      obtain ⟨a, us, rfl, hs, hd⟩ := ct_lst m o1 ct nt
      rw [dps_bls hd] at hs
      exact ⟨a, bs, rfl, hs, c (.d (.bool _)) _ F H μ1 Fw.refl m (.bl _) q⟩) s1) (he := s1) (hpl := s2)
theorem we_abs (B : Bl mg) (hg : Gl X "abs") (h : WE X e δ μ fun x μ1 => ∃ i : Int, x = .d (.int i) ∧ Q (.d (.int (if i < 0 then -i else i))) μ1) (hm : X.mg = mg := by rfl) (s1 : starEach [e] X.env = (false, eval e X.env) :: starEach [] X.env := by rfl) (s2 : (backTo pos (starEach [] X.env)).any (·.1) = false := by rfl) :
    WE X (.Call (.Name "abs" p) [e] [] pos) δ μ Q :=
  we_cb call_abs hg (hm ▸ B.abs) PyProof.Rows.boot_abs (wa_one (h.mono fun x μ1 q => fun F H vs m o QV c => by
    obtain ⟨i, rfl, q⟩ := q
    cases o with
    | cons o1 o2 =>
      cases o2
      exact ⟨i, by rw [dp_int o1], c (.d (.int _)) _ F H μ1 Fw.refl m (.int _) q⟩) s1) (he := s1) (hpl := s2)
theorem we_intB (B : Bl mg) (hg : Gl X "int") (h : WE X e δ μ fun x μ1 => ∃ k, x = .d (.bool k) ∧ Q (.d (.int (if k then 1 else 0))) μ1) (hm : X.mg = mg := by rfl) (s1 : starEach [e] X.env = (false, eval e X.env) :: starEach [] X.env := by rfl) (s2 : (backTo pos (starEach [] X.env)).any (·.1) = false := by rfl) :
    WE X (.Call (.Name "int" p) [e] [] pos) δ μ Q :=
  we_ct call_int1 hg (hm ▸ B.int) PyProof.Rows.boot_int (wa_one (h.mono fun x μ1 q => fun F H vs m o QV c => by
    obtain ⟨k, rfl, q⟩ := q
    cases o with
    | cons o1 o2 =>
      cases o2
      exact .inr ⟨k, by rw [dp_bl o1], c (.d (.int _)) _ F H μ1 Fw.refl m (.int _) q⟩) s1) (he := s1) (hpl := s2)
theorem we_min2 (B : Bl mg) (hg : Gl X "min") (hc : X.calm = true) (h : WE X a δ μ fun x μ1 => WE X b δ μ1 fun y μ2 => ∃ i j : Int, x = .d (.int i) ∧ y = .d (.int j) ∧ Q (.d (.int (if j < i then j else i))) μ2) (hm : X.mg = mg := by rfl)
    (s1 : starEach [a, b] X.env = (false, eval a X.env) :: starEach [b] X.env := by rfl) (s2 : starEach [b] X.env = (false, eval b X.env) :: starEach [] X.env := by rfl) (s3 : (backTo pos (starEach [b] X.env)).any (·.1) = false := by rfl) :
    WE X (.Call (.Name "min" p) [a, b] [] pos) δ μ Q :=
  we_cb (call_min2 hc) hg (hm ▸ B.min) PyProof.Rows.boot_min (wa_two (h.mono fun x μ1 q => q.mono fun y μ2 q => fun F H vs m o QV c => by
    obtain ⟨i, j, rfl, rfl, q⟩ := q
    cases o with
    | cons o1 o2 =>
      cases o2 with
      | cons o2 o3 =>
        cases o3
        exact ⟨i, j, by rw [dp_int o1, dp_int o2], c (.d (.int _)) _ F H μ2 Fw.refl m (.int _) q⟩) s1 s2) (he := s1) (hpl := s3)
inductive Lk (μ : Cells) : Vd → Prop
  | d (ds : List PyData) : Lk μ (.d (.list ds))
  | c (i : Nat) {p : Addr} {ds : List PyData} (h : μ[i]? = some (p, (ds : Cont))) : Lk μ (.a p)
theorem lk_ok {K : PySem.W.Frag} {F H : Hp} {x : Vd} {v : V} (m : RpM K F H μ) (o : VOk K F x v) (h : Lk μ x) : ∃ a us, v = .ref a ∧ SqL K H a us := by
  cases h with
  | d =>
    obtain ⟨a, us, e1, hs, _⟩ := dp_lst o
    exact ⟨a, us, e1, m.ex.seq hs⟩
  | c i hi =>
    obtain ⟨_, us, e1, _⟩ := m.cel _ _ (List.mem_of_getElem? hi)
    exact ⟨_, us, o, .of e1⟩
def MtW (K : PySem.W.Frag) (r : V → List V → Hp → VK → Prop) (x : Vd) (xs : List Vd) (μ : Cells) (Q : Vd → Cells → Prop) : Prop := ∀ F H v vs, RpM K F H μ → VOk K F x v → VAll K F xs vs → ∀ QV : VK,
  (∀ z w F' H' μ', Fw (ks μ) (ks μ') F H F' H' → RpM K F' H' μ' → VOk K F' z w → Q z μ' → QV w H') → r v vs H QV
theorem we_bmL {name : Str} {id : String} {apos cpos : Pos} {o : Expr} {r : V → List V → Hp → VK → Prop} (pa : PlainAttrs "list") (slot : Slot "list" name id) (hty : typeOf (.builtin id) = pure (.type "method_descriptor")) (hm : MtR X id r)
    (h : WE X o δ μ fun x μ1 => Lk μ1 x ∧ WA X (e :: es) δ μ1 fun xs μ2 => MtW X.K r x xs μ2 Q)
    (hbase : attributeBase o name X.env (eval o X.env) = eval o X.env := by rfl)
    (hfew : ((backTo cpos (starEach (e :: es) X.env)).all (fun x => !x.1) && (backToKw cpos (keywordEach [] X.env)).all (fun x => x.1.isSome)
      && decide ((e :: es).length + ([] : List Keyword).length + (if ([] : List Keyword).isEmpty then 0 else 1) < 30)) = true := by rfl)
    (hline : (apos.endLine == cpos.line) = true := by rfl) (hs : starEach (e :: es) X.env = (false, eval e X.env) :: starEach es X.env := by rfl) (hplain : (backTo cpos (starEach es X.env)).any (·.1) = false := by rfl) :
    WE X (.Call (.Attribute o name apos) (e :: es) [] cpos) δ μ Q := fun F H σ R QV c =>
  toE (pe_bm pa slot hty hm (pcE X o) (pcA X (e :: es)) hbase hfew hline hs hplain) (h F H σ R _ fun v x F1 H1 μ1 w1 R1 o1 q => by
    obtain ⟨ct, q⟩ := q
    obtain ⟨a, us, rfl, hl⟩ := lk_ok R1.m o1 ct
    exact ⟨.inl ⟨rfl, us, hl⟩, q F1 H1 σ R1 _ fun vs xs F2 H2 μ2 w2 R2 o2 q2 => q2 F2 H2 _ vs R2.m (o1.up w2.f) o2 _ fun z w F3 H3 μ3 w3 m3 o3 q3 => c w z F3 H3 μ3 ((w1.trans w2).trans w3) (R2.to w3.f m3) o3 q3⟩)
theorem mw_append {K : PySem.W.Frag} {p : Addr} {ds : List PyData} {y : PyData} (i : Nat) (hi : μ[i]? = some (p, (ds : Cont))) (hz : ds.length < 100000) (h : Q (.d .none) (μ.set i (p, ds ++ [y]))) : MtW K rAppend (.a p) [.d y] μ Q := fun F H v vs m o1 o2 QV c => by
  cases o2 with
  | cons o2 o3 =>
    cases o3
    obtain ⟨_, us, e1, hd⟩ := m.cel _ _ (List.mem_of_getElem? hi)
    obtain ⟨m2, w2⟩ := m.setCQ (es := ds ++ [y]) hi (dqs_app hd (.cons (.d o2) .nil))
    exact ⟨p, us, _, o1, rfl, e1, by rw [dqs_len hd]; exact Nat.lt_of_lt_of_le hz (by decide), c (.d .none) _ _ _ _ w2 m2 .non h⟩
theorem we_append {o : Expr} {apos cpos : Pos} (h : WE X o δ μ fun x μ1 => ∃ (p : Addr) (ds : List PyData), (∃ i : Nat, μ1[i]? = some (p, (ds : Cont))) ∧ x = .a p ∧ WE X e δ μ1 fun y μ2 => ∃ (yd : PyData) (ds : List PyData) (i : Nat), y = .d yd ∧ μ2[i]? = some (p, (ds : Cont)) ∧ ds.length < 100000 ∧ Q (.d .none) (μ2.set i (p, ds ++ [yd])))
    (hbase : attributeBase o "append" X.env (eval o X.env) = eval o X.env := by rfl)
    (hfew : ((backTo cpos (starEach [e] X.env)).all (fun x => !x.1) && (backToKw cpos (keywordEach [] X.env)).all (fun x => x.1.isSome)
      && decide ([e].length + ([] : List Keyword).length + (if ([] : List Keyword).isEmpty then 0 else 1) < 30)) = true := by rfl)
    (hline : (apos.endLine == cpos.line) = true := by rfl) (hs : starEach [e] X.env = (false, eval e X.env) :: starEach [] X.env := by rfl) (hplain : (backTo cpos (starEach [] X.env)).any (·.1) = false := by rfl) :
    WE X (.Call (.Attribute o "append" apos) [e] [] cpos) δ μ Q :=
  we_bmL PySem.F.plainAttrs_list PySem.F.slot_list_append PySem.F.type_list_append mt_append (h.mono fun x μ1 q => by
    obtain ⟨p, ds, ⟨i, hi⟩, rfl, q⟩ := q
    refine ⟨.c i hi, wa_one (q.mono fun y μ2 q => ?_) hs⟩
    obtain ⟨yd, ds', j, rfl, hj, hz, q⟩ := q
    exact mw_append j hj hz q) hbase hfew hline hs hplain
theorem we_extend {o : Expr} {apos cpos : Pos} (h : WE X o δ μ fun x μ1 => ∃ (p : Addr) (ds : List PyData), (∃ i : Nat, μ1[i]? = some (p, (ds : Cont))) ∧ x = .a p ∧ WE X e δ μ1 fun y μ2 => ∃ (q : Addr) (fs ds : List PyData) (i j : Nat), y = .a q ∧ μ2[j]? = some (q, (fs : Cont)) ∧ μ2[i]? = some (p, (ds : Cont)) ∧ ds.length + fs.length ≤ 100000 ∧ Q (.d .none) (μ2.set i (p, ds ++ fs)))
    (hbase : attributeBase o "extend" X.env (eval o X.env) = eval o X.env := by rfl)
    (hfew : ((backTo cpos (starEach [e] X.env)).all (fun x => !x.1) && (backToKw cpos (keywordEach [] X.env)).all (fun x => x.1.isSome)
      && decide ([e].length + ([] : List Keyword).length + (if ([] : List Keyword).isEmpty then 0 else 1) < 30)) = true := by rfl)
    (hline : (apos.endLine == cpos.line) = true := by rfl) (hs : starEach [e] X.env = (false, eval e X.env) :: starEach [] X.env := by rfl) (hplain : (backTo cpos (starEach [] X.env)).any (·.1) = false := by rfl) :
    WE X (.Call (.Attribute o "extend" apos) [e] [] cpos) δ μ Q :=
  we_bmL PySem.F.plainAttrs_list PySem.F.slot_list_extend PySem.F.type_list_extend mt_extend (h.mono fun x μ1 q => by
    obtain ⟨p, ds, ⟨i, hi⟩, rfl, q⟩ := q
    refine ⟨.c i hi, wa_one (q.mono fun y μ2 q => ?_) hs⟩
    obtain ⟨q', fs, ds', i', j', rfl, hj, hi', hz, q⟩ := q
    intro F H v vs m o1 o2 QV c
    cases o2 with
    | cons o2 o3 =>
      cases o3
      obtain ⟨_, us, e1, hd⟩ := m.cel _ _ (List.mem_of_getElem? hi')
      obtain ⟨_, ws, e2, hd2⟩ := m.cel _ _ (List.mem_of_getElem? hj)
      obtain ⟨m2, w2⟩ := m.setCQ (es := ds' ++ fs) hi' (dqs_app hd hd2)
      exact ⟨p, q', us, ws, o1, by rw [show _ = V.ref q' from o2], e1, e2, by rw [dqs_len hd, dqs_len hd2]; exact Nat.le_trans hz (by decide), c (.d .none) _ _ _ _ w2 m2 .non q⟩) hbase hfew hline hs hplain
theorem extend_tup0 (l : Addr) (xs : Array Value) (n : Nat) (b : Addr) (ys : Array Value) (n2 : Nat) (dd : Option Addr) (sl : Array (Option Value)) (h0 : ¬(!xs.isEmpty && Builtin.List.listTooLong (xs.size + ys.size)) = true) (h1 : xs.size ≤ sizeLine) (h2 : xs.size + ys.size ≤ sizeLine + 1) :
    Meets (Builtin.«list.extend» ⟨[.ref l, .ref b], []⟩) (fun _ R s => s.heap.get? l = some { cls := .type "list", dict := none, data := .seq xs n, slots := #[] } ∧ s.heap.get? b = some { cls := .type "tuple", dict := dd, data := .seq ys n2, slots := sl } ∧
      R (.ok (.ret Value.none)) { s with heap := s.heap.update l (Obj.mapSeq fun x => x ++ ys), toks := s.toks }) :=
  .of_wp fun prog w A R s h => by
    obtain ⟨hp, g, d, tk, os⟩ := s
    obtain ⟨hl, hb, h⟩ := h
    have f1 := AutoSeq1.idx_int
    have f2 := AutoSeq1.sub_tuple_tuple
    have f3 := AutoSeq1.sub_list_list
    have f4 := AutoSeq1.sub_tuple_list
    have f5 := AutoSeq1.sub_list_tuple
    have hs0 := h0
    have hz' : (xs ++ ys).size ≤ sizeLine + 1 := by
      rw [Array.size_append]
      exact h2
    wp_walk using (wpAny_updateSeq hl rfl (hz := h1) (_hz' := hz')), AutoSeq1.wpAny_loadPart' hl, AutoSeq1.wpAny_loadPart' hb
    exact ⟨_, rfl, h⟩
def rExtT (K : PySem.W.Frag) : V → List V → Hp → VK → Prop := fun x vs H Q => ∃ l b xs zs, x = .ref l ∧ vs = [.ref b] ∧ H l = some (.lst xs) ∧ SqT K H b zs ∧ xs.length + zs.length ≤ sizeLine ∧ Q .non (upd H l (.lst (xs ++ zs)))
theorem mt_extT : MtM X "list.extend" (rExtT X.K) := by
  intro pins s σ H x vs v us Q I rx rv h
  obtain ⟨l, b, xs, zs, rfl, rfl, hH, hB, hz, q⟩ := h
  cases rx
  obtain ⟨u, rfl, ru⟩ := rv.one
  cases ru
  obtain ⟨z, its, n, r, hl, e⟩ := I.lstM hH
  obtain ⟨its2, r2, ⟨⟨oc, od, dt, sl⟩, e2, hcl, n2, hdt⟩, hz2⟩ := I.tuple hB
  replace hcl : oc = .type "tuple" := hcl
  replace hdt : dt = .seq its2.toArray n2 := hdt
  subst hcl hdt
  have hl2 := r2.length
  have ok1 : its.toArray.size + its2.toArray.size ≤ sizeLine := by
    rw [List.size_toArray, List.size_toArray]
    omega
  have ok2 : ¬ (!its.toArray.isEmpty && Builtin.List.listTooLong (its.toArray.size + its2.toArray.size)) = true := by
    rw [notLongL ok1, Bool.and_false]
    decide
  refine call_meets F.slot_list_extend ⟨_, e, rfl⟩ F.entry_list_extend (F.args_list_extend_2 _ _)
    (extend_tup0 l its.toArray n b its2.toArray n2 od sl ok2 (by rw [List.size_toArray]; omega) (by omega)) ⟨e, e2, ?_⟩
  refine ⟨.non, _, I.lset (its' := its ++ its2) hH e (by simp) (r.append r2) ?_, rfl, q⟩
  rw [List.length_append]
  exact hz
theorem we_extendT {o : Expr} {apos cpos : Pos} (h : WE X o δ μ fun x μ1 => ∃ (p : Addr) (ds : List PyData), (∃ i : Nat, μ1[i]? = some (p, (ds : Cont))) ∧ x = .a p ∧ WE X e δ μ1 fun y μ2 => ∃ (fs ds : List PyData) (i : Nat), y = .d (.tuple fs) ∧ μ2[i]? = some (p, (ds : Cont)) ∧ ds.length + fs.length ≤ 100000 ∧ Q (.d .none) (μ2.set i (p, ds ++ fs)))
    (hbase : attributeBase o "extend" X.env (eval o X.env) = eval o X.env := by rfl)
    (hfew : ((backTo cpos (starEach [e] X.env)).all (fun x => !x.1) && (backToKw cpos (keywordEach [] X.env)).all (fun x => x.1.isSome)
      && decide ([e].length + ([] : List Keyword).length + (if ([] : List Keyword).isEmpty then 0 else 1) < 30)) = true := by rfl)
    (hline : (apos.endLine == cpos.line) = true := by rfl) (hs : starEach [e] X.env = (false, eval e X.env) :: starEach [] X.env := by rfl) (hplain : (backTo cpos (starEach [] X.env)).any (·.1) = false := by rfl) :
    WE X (.Call (.Attribute o "extend" apos) [e] [] cpos) δ μ Q :=
  we_bmL PySem.F.plainAttrs_list PySem.F.slot_list_extend PySem.F.type_list_extend mt_extT (h.mono fun x μ1 q => by
    obtain ⟨p, ds, ⟨i, hi⟩, rfl, q⟩ := q
    refine ⟨.c i hi, wa_one (q.mono fun y μ2 q => ?_) hs⟩
    obtain ⟨fs, ds', i', rfl, hi', hz, q⟩ := q
    intro F H v vs m o1 o2 QV c
    cases o2 with
    | cons o2 o3 =>
      cases o3
      obtain ⟨_, us, e1, hd⟩ := m.cel _ _ (List.mem_of_getElem? hi')
      obtain ⟨b, ws, rfl, e2, hd2⟩ := dp_tup o2
      obtain ⟨m2, w2⟩ := m.setCQ (es := ds' ++ fs) hi' (dqs_app hd (.of hd2))
      exact ⟨p, b, us, ws, o1, rfl, e1, same_t m.ex e2, by rw [dqs_len hd, dps_len hd2]; exact Nat.le_trans hz (by decide), c (.d .none) _ _ _ _ w2 m2 .non q⟩) hbase hfew hline hs hplain
theorem wg_setL {is : List Nat} {o i : Expr} {x : PyData} {G : Dl → Cells → Prop} (h : WE X o δ μ fun y μ1 => WE X i δ μ1 fun z μ2 => ∃ (p : Addr) (ds : List PyData) (k j : Nat), y = .a p ∧ z = .d (.int (k : Int)) ∧ μ2[j]? = some (p, (ds : Cont)) ∧ k < ds.length ∧ G δ (μ2.set j (p, ds.set k x)))
    (ha : ∀ v, assign (.Subscript o i pos) X.env v = (do
      let ov ← holding [v] (eval o X.env)
      let iv ← holding [v, ov] (eval i X.env)
      standAt pos
      holding [v, ov, iv] (setItem ov iv v)
      release [v, ov, iv] []) := by intro _; rfl) : WGo X is (.Subscript o i pos) (.d x) δ μ G := fun F H σ R v ov QV c =>
  toG (pg_sub (pcE X o) (pcE X i) set_list ha) (h F H σ R _ fun v1 y F1 H1 μ1 w1 R1 o1 q => q F1 H1 σ R1 _ fun v2 z F2 H2 μ2 w2 R2 o2 q => by
    obtain ⟨p, ds, k, j, rfl, rfl, hj, hk, q⟩ := q
    obtain ⟨_, us, e1, hd⟩ := R2.m.cel _ _ (List.mem_of_getElem? hj)
    have hv : De X.K F2 v x := dp_up (w1.f.trans w2.f) _ _ ov
    obtain ⟨m2, w3⟩ := R2.m.setCQ (es := ds.set k x) hj (dqs_set (.d hv) k hd)
    refine ⟨p, us, (k : Int), k, (o1 : v1 = .ref p), dp_int o2, e1, ?_, ?_⟩
    · unfold ixN
      rw [if_pos (by omega), if_pos (by rw [dqs_len hd]; omega)]
      simp
    · exact c F2 _ σ δ _ ((w1.trans w2).trans w3) (R2.to w3.f m2) Only.refl q)
end
end Ec
set_option Elab.async false
set_option linter.all false
set_option maxRecDepth 100000
set_option maxHeartbeats 4000000
namespace Ec
open PySem PySem.Spec PyProof.Rows L2
mutual
def noL : PyData → Bool
  | .none => true
  | .bool _ => true
  | .int _ => true
  | .str _ => true
  | .list _ => false
  | .tuple ds => noLs ds
  | .dict _ => false
def noLs : List PyData → Bool
  | [] => true
  | d :: ds => noL d && noLs ds
end
def cut (F : Hp) (p : Addr) : Hp := fun b => if b = p then none else F b
theorem cut_ne {F : Hp} {p b : Addr} (h : b ≠ p) : cut F p b = F b := if_neg h
theorem cut_same {F : Hp} {p : Addr} : cut F p p = none := if_pos rfl
theorem same_cut {F : Hp} {p : Addr} : Same (cut F p) F := fun b o e => by
  by_cases h : b = p
  · subst h
    rw [cut_same] at e
    cases e
  · rw [cut_ne h] at e
    exact e
mutual
theorem dp_cut {K : PySem.W.Frag} {F : Hp} {p : Addr} {us : List V} (hp : F p = some (.lst us)) : ∀ (d : PyData) (v : V), noL d = true → De K F v d → De K (cut F p) v d
  | .none, _, _, h => by cases h; exact .non
  | .bool b, _, _, h => by cases h; exact .bl b
  | .int i, _, _, h => by cases h; exact .int i
  | .str x, _, _, h => by cases h; exact .str x
  | .list ds, _, n, _ => by simp [noL] at n
  | .tuple ds, _, n, h => by
    cases h with
    | tup hs hn ha => exact .tup (by rw [cut_ne fun z => by rw [z, hp] at hs; cases hs]; exact hs) hn (dps_cut hp ds _ (by simpa [noL] using n) ha)
  | .dict _, _, n, _ => by simp [noL] at n
theorem dps_cut {K : PySem.W.Frag} {F : Hp} {p : Addr} {us : List V} (hp : F p = some (.lst us)) : ∀ (ds : List PyData) (vs : List V), noLs ds = true → DeAll K F vs ds → DeAll K (cut F p) vs ds
  | [], _, _, h => by cases h; exact .nil
  | d :: ds, _, n, h => by
    cases h with
    | cons h1 h2 =>
      have n' : noL d = true ∧ noLs ds = true := by simpa [noLs] using n
      exact .cons (dp_cut hp d _ n'.1 h1) (dps_cut hp ds _ n'.2 h2)
end
theorem noLs_ints : ∀ ns : List Int, noLs (intsD ns) = true
  | [] => rfl
  | n :: ns => by
    show (noL (.int n) && noLs (intsD ns)) = true
    rw [noLs_ints ns]
    rfl
theorem noLs_pl : ∀ {ds : List PyData}, noLs ds = true → plS ds
  | [], _ => plS_nil
  | d :: ds, h => by
    have h' : noL d = true ∧ noLs ds = true := by simpa [noLs] using h
    refine plS_cons ?_ (noLs_pl h'.2)
    cases d <;> first | rfl | (simp [noL] at h')
def noLv : Vd → Bool
  | .d x => noL x
  | .a _ => true
  | .w _ => false
  | .s _ => false
  | .k _ _ => false
  | .e _ _ _ _ => false
  | .z _ _ => false
  | .q _ _ => false
  | .m _ _ _ => false
def noLc : Cont → Bool
  | .l ds => noLs ds
  | _ => false
inductive Lent (p : Addr) (ds : List PyData) : List Vd → List Vd → Prop
  | nil : Lent p ds [] []
  | keep {x : Vd} {xs ys : List Vd} : Lent p ds xs ys → Lent p ds (x :: xs) (x :: ys)
  | lend {xs ys : List Vd} : Lent p ds xs ys → Lent p ds (.a p :: xs) (.d (.list ds) :: ys)
theorem Lent.ok {K : PySem.W.Frag} {F F' : Hp} {p : Addr} {ds : List PyData} (f : Same F F') (hp : De K F' (.ref p) (.list ds)) : ∀ {xs ys : List Vd} {vs : List V}, Lent p ds xs ys → VAll K F xs vs → VAll K F' ys vs
  | _, _, _, .nil, h => by
    cases h
    exact .nil
  | _, _, _, .keep l, h => by
    cases h with
    | cons h1 h2 => exact .cons (h1.up f) (Lent.ok f hp l h2)
  | _, _, _, .lend l, h => by
    cases h with
    | cons h1 h2 =>
      rw [show _ = V.ref p from h1]
      exact .cons hp (Lent.ok f hp l h2)
section
variable {X : Cx} {δ : Dl} {μ : Cells} {e a b : Expr} {pos p : Pos} {Q : Vd → Cells → Prop}
theorem we_callZ {P : Program} {w : World} {K : PySem.W.Frag} {mg : Str → Option Value} {base : Heap} {T : TrD} {k : Nat} {x : Str} {es : List Expr} (i : Nat) (c : Cal P w K mg base k x T) (hr : Room k X.A) (hg : Gl X x)
    (h : WA X (e :: es) δ μ fun xs μ1 => ∃ (q : Addr) (ds : List PyData) (ys : List Vd), μ1[i]? = some (q, (ds : Cont)) ∧ plS ds ∧ Lent q ds xs ys ∧ T ys [] fun z μ' => noLv z = true ∧ (∀ y ∈ μ', noLc y.2 = true) ∧ Q z (μ' ++ μ1))
    (hgd : X.A.guards = some [] := by assumption) (hX : (X.prog, X.w, X.K, X.mg, X.base) = (P, w, K, mg, base) := by rfl)
    (hdb : (x == ("__debug__" : Str)) = false := by decide) (he : starEach (e :: es) X.env = (false, eval e X.env) :: starEach es X.env := by rfl) (hpl : (backTo pos (starEach es X.env)).any (·.1) = false := by rfl) :
    WE X (.Call (.Name x p) (e :: es) [] pos) δ μ Q := fun F H σ R QV kk => by
  obtain ⟨f, fd, ps, ok, hm, hk, hb⟩ := c
  cases hX
  refine toE (pe_callg ok hr hgd hg hm hk hb pass0 (pcA X (e :: es)) hdb he hpl) (h F H σ R _ fun vs xs F1 H1 μ1 w1 R1 o1 q => ?_)
  obtain ⟨q, ds, ys, hi, pl, hl, q0⟩ := q
  have pm : μ1.Perm ((q, (ds : Cont)) :: μ1.eraseIdx i) := by
    obtain ⟨hlt, e⟩ := List.getElem?_eq_some_iff.mp hi
    rw [← e]
    exact perm_erase hlt
  replace w1 := w1.perm (K := X.K) pm
  replace R1 := R1.perm pm
  generalize hμr : μ1.eraseIdx i = μr at pm w1 R1
  obtain ⟨us, hq, hd, m, sf, fq, out⟩ := R1.m.freeze pl
  have m0 : RpM X.K (upd F1 q (.lst us)) H1 [] := ⟨m.ex, List.nodup_nil, fun _ _ z => by cases z⟩
  refine ⟨_, ys, [], _, m0, Lent.ok sf (.lst upd_same hd) hl o1, q0, fun v z F2 H2 μ2 w2 m2 o2 q2 => ?_⟩
  obtain ⟨q2, q3, q4⟩ := q2
  have f2q : F2 q = some (.lst us) := w2.f q _ upd_same
  have nq : ∀ b, F1 b ≠ none → b ≠ q := fun b hb z => hb (z ▸ fq)
  have f12 : Same F1 (cut F2 q) := fun b o hb => by
    rw [cut_ne (nq b (by rw [hb]; exact fun z => by cases z))]
    exact w2.f b o (sf b o hb)
  have inr : ∀ b ∈ ks μr, F1 b = none ∧ H1 b ≠ none ∧ b ≠ q := fun b hb => by
    obtain ⟨⟨b', fs⟩, hm', e'⟩ := List.mem_map.mp hb
    have e2 : b' = b := e'
    subst e2
    obtain ⟨g1, g2⟩ := R1.m.cel b' fs (List.mem_cons_of_mem _ hm')
    exact ⟨g1, g2.ne, fun z => out (z ▸ hb)⟩
  have fresh : ∀ b ∈ ks μ2, H1 b = none := fun b hb => (w2.s b hb).elim (fun z => by cases z) id
  have W : Fw (ks ((q, (ds : Cont)) :: μr)) (ks (μ2 ++ (q, (ds : Cont)) :: μr)) F1 H1 (cut F2 q) H2 := by
    refine ⟨f12, fun b o hb _ => w2.k b o hb (by simp), fun b hb hb2 nb => ?_, fun b hb => ?_⟩
    · have nbq : b ≠ q := fun z => nb (z ▸ List.mem_cons_self)
      rw [cut_ne nbq]
      exact w2.c b (by rw [upd_ne nbq]; exact hb) hb2 (by simp)
    · rw [ks_app] at hb
      rcases List.mem_append.mp hb with hb | hb
      · exact .inr (fresh b hb)
      · exact .inl hb
  have M : RpM X.K (cut F2 q) H2 (μ2 ++ (q, (ds : Cont)) :: μr) := by
    refine ⟨same_cut.trans m2.ex, ?_, fun b fs hb => ?_⟩
    · rw [ks_app]
      refine List.nodup_append.mpr ⟨m2.nd, R1.m.nd, fun x mx y my e' => ?_⟩
      subst e'
      have h0 := fresh x mx
      obtain ⟨⟨b', fs⟩, hm', e'⟩ := List.mem_map.mp my
      have e2 : b' = x := e'
      subst e2
      exact (R1.m.cel b' fs hm').2.ne h0
    · rcases List.mem_append.mp hb with hb | hb
      · have hn := q3 _ hb
        cases fs with
        | l fs =>
          obtain ⟨g1, ws, g2, g3⟩ := m2.cel b _ hb
          have nbq : b ≠ q := fun z => by
            rw [z, f2q] at g1
            cases g1
          exact ⟨by rw [cut_ne nbq]; exact g1, ws, g2, .of (dps_cut f2q _ _ hn (g3.to (noLs_pl hn)))⟩
        | i _ => cases hn
        | t _ => cases hn
        | o _ _ => cases hn
      · rcases List.mem_cons.mp hb with hb | hb
        · cases hb
          obtain ⟨_, ws, g2, g3⟩ := R1.m.cel q (.l ds) List.mem_cons_self
          exact ⟨cut_same, ws, w2.k q _ g2 (by simp), dqs_up f12 _ _ g3⟩
        · obtain ⟨g1, g2⟩ := R1.m.cel b fs (List.mem_cons_of_mem _ hb)
          obtain ⟨i1, i2, i3⟩ := inr b (List.mem_map.mpr ⟨_, hb, rfl⟩)
          refine ⟨?_, g2.to f12 fun o e => w2.k b o e (by simp)⟩
          rw [cut_ne i3]
          exact w2.c b (by rw [upd_ne i3]; exact g1) i2 (by simp)
  have pm2 : (μ2 ++ (q, (ds : Cont)) :: μr).Perm (μ2 ++ μ1) := List.Perm.append_left μ2 pm.symm
  refine kk v z (cut F2 q) H2 (μ2 ++ μ1) ((w1.trans W).perm (K := X.K) pm2) (R1.to f12 (M.perm pm2)) ?_ q4
  cases z with
  | d x => exact dp_cut f2q x v q2 o2
  | a r => exact o2
  | w es => cases q2
  | s es => cases q2
  | k _ _ => cases q2
  | e _ _ _ _ => cases q2
  | z _ _ => cases q2
  | q _ _ => cases q2
  | m _ _ _ => cases q2
theorem we_callP {P : Program} {w : World} {K : PySem.W.Frag} {mg : Str → Option Value} {base : Heap} {T : TrD} {k : Nat} {x : Str} {es : List Expr} (c : Cal P w K mg base k x T) (hr : Room k X.A) (hg : Gl X x) (h : WA X (e :: es) δ μ fun xs μ1 => T xs [] fun z μ' => Q z (μ' ++ μ1))
    (hgd : X.A.guards = some [] := by assumption) (hX : (X.prog, X.w, X.K, X.mg, X.base) = (P, w, K, mg, base) := by rfl)
    (hdb : (x == ("__debug__" : Str)) = false := by decide) (he : starEach (e :: es) X.env = (false, eval e X.env) :: starEach es X.env := by rfl) (hpl : (backTo pos (starEach es X.env)).any (·.1) = false := by rfl) :
    WE X (.Call (.Name x p) (e :: es) [] pos) δ μ Q := by
  cases hX
  refine we_call c hr hg (fun F H σ R QV kk => h F H σ R QV fun vs xs F1 H1 μ1 w1 R1 o1 q => kk vs xs F1 H1 μ1 w1 R1 o1 ⟨[], μ1, rfl, q⟩) hgd hdb he hpl
theorem perm_set {α : Type} : ∀ {l : List α} {i : Nat} (h : i < l.length) (y : α), (l.set i y).Perm (y :: l.eraseIdx i)
  | x :: r, 0, _, y => List.Perm.refl _
  | x :: r, i + 1, h, y => ((perm_set (l := r) (i := i) (Nat.lt_of_succ_lt_succ h) y).cons x).trans (List.Perm.swap _ _ _)
theorem we_callB {P : Program} {w : World} {K : PySem.W.Frag} {mg : Str → Option Value} {base : Heap} {T : TrD} {k : Nat} {x : Str} {es : List Expr} (i : Nat) (c : Cal P w K mg base k x T) (hr : Room k X.A) (hg : Gl X x)
    (h : WA X (e :: es) δ μ fun xs μ1 => ∃ (q : Addr) (ds : Cont), μ1[i]? = some (q, ds) ∧ T xs [(q, ds)] fun z μ' => ∃ (new : Cells) (ds' : Cont), μ' = new ++ ([(q, ds')] : Cells) ∧ Q z (new ++ μ1.set i (q, ds'))) (hgd : X.A.guards = some [] := by assumption) (hX : (X.prog, X.w, X.K, X.mg, X.base) = (P, w, K, mg, base) := by rfl)
    (hdb : (x == ("__debug__" : Str)) = false := by decide) (he : starEach (e :: es) X.env = (false, eval e X.env) :: starEach es X.env := by rfl) (hpl : (backTo pos (starEach es X.env)).any (·.1) = false := by rfl) :
    WE X (.Call (.Name x p) (e :: es) [] pos) δ μ Q := fun F H σ R QV kk => by
  obtain ⟨f, fd, ps, ok, hm, hk, hb⟩ := c
  cases hX
  refine toE (pe_callg ok hr hgd hg hm hk hb pass0 (pcA X (e :: es)) hdb he hpl) (h F H σ R _ fun vs xs F1 H1 μ1 w1 R1 o1 q => ?_)
  obtain ⟨q, ds, hi, q0⟩ := q
  have hlt := (List.getElem?_eq_some_iff.mp hi).1
  have pm : μ1.Perm ([(q, ds)] ++ μ1.eraseIdx i) := by
    obtain ⟨hlt, e⟩ := List.getElem?_eq_some_iff.mp hi
    rw [← e]
    exact perm_erase hlt
  have w1p := w1.perm (K := X.K) pm
  have R1p := R1.perm pm
  refine ⟨F1, xs, [(q, ds)], _, R1p.m.left, o1, q0, fun v z F2 H2 μ2 w2 m2 o2 q2 => ?_⟩
  obtain ⟨new, ds', rfl, q3⟩ := q2
  obtain ⟨m3, w3⟩ := R1p.m.frame w2 m2
  have pm2 : (new ++ [(q, ds')] ++ μ1.eraseIdx i).Perm (new ++ μ1.set i (q, ds')) := by
    rw [List.append_assoc]
    exact List.Perm.append_left new (perm_set hlt (q, ds')).symm
  exact kk v z F2 H2 _ ((w1p.trans w3).perm (K := X.K) pm2) (R1p.to w2.f (m3.perm pm2) |>.to (Same.refl _) (m3.perm pm2)) o2 q3
end
local macro_rules | `(tactic| walk_at "vis") => `(tactic| first | exact Or.inl rfl | exact Or.inr (Or.inl rfl) | exact Or.inr (Or.inr rfl))
end Ec
set_option Elab.async false
set_option linter.all false
set_option maxRecDepth 100000
set_option maxHeartbeats 4000000
namespace Ec
open PySem PySem.Spec PyProof.Rows L2
section
variable {X : Cx} {δ : Dl} {μ : Cells} {e a b : Expr} {pos p : Pos} {Q : Vd → Cells → Prop}
theorem wb_names {N : List Str} {st : List Stmt} {D : Dn} (hN : X.N = N) (k : (∀ (i : Nat) x, N[i]? = some x → X.N[i]? = some x) → WB X st δ μ D) : WB X st δ μ D := k (by rw [hN]; exact fun _ _ h => h)
theorem lcP {α : Type} (ι : α → PyData) (t : α → Bool) (g : α → PyData) {elt tg iter : Expr} {ifs : List Expr} {scope : Scope} {own : List (Str × Nat)}
    (h : WI X tg iter δ μ fun ds μ1 => ∃ xs : List α, ds = xs.map ι ∧ xs.length ≤ 100000 ∧ (∀ x ∈ xs, Blk X scope fun Y => WGo Y (own.map (·.2)) tg (.d (ι x)) (wipeD δ (own.map (·.2))) μ1 fun δ2 μ2 => Blk X scope fun Y => WTs Y ifs δ2 μ2 fun k μ3 => k = t x ∧
        if k = true then Blk X scope fun Y => WE Y elt δ2 μ3 fun y μ4 => y = .d (g x) ∧ μ4 = μ1 else μ3 = μ1) ∧ ∀ q, Q (.a q) ((q, (xs.filter t).map g) :: μ1)) : LcP X scope own elt tg iter ifs δ μ Q := by
  intro F H σ R RV c
  refine h F H σ R RV fun J ds F' H' μ' w r wk q => c J ds F' H' μ' w r wk ?_
  obtain ⟨xs, rfl, hz, hx, hq⟩ := q
  refine ⟨fun i acc μ2 => μ2 = μ' ∧ acc = ((xs.take i).filter t).map g, ⟨rfl, by simp⟩, by rw [List.length_map]; exact hz, fun i acc μ2 q => ?_, fun i d acc μ2 hd q => ?_, fun acc μ2 q p => ?_⟩
  · rw [q.2, List.length_map]
    refine Nat.le_trans (List.length_filter_le _ _) ?_
    rw [List.length_take]
    exact Nat.min_le_left _ _
  · obtain ⟨rfl, rfl⟩ := q
    rw [List.getElem?_map] at hd
    cases q : xs[i]? with
    | none =>
      rw [q] at hd
      cases hd
    | some x =>
      rw [q] at hd
      cases hd
      have tk : xs.take (i + 1) = xs.take i ++ [x] := by rw [List.take_add_one, q]; rfl
      intro s H C cl fp F0 H0 σ0 R0 v o QV c
      refine hx x (List.mem_of_getElem? q) s H C cl fp F0 H0 σ0 R0 v o QV fun F1 H1 σ1 δ1 μ1 w1 R1 y1 q1 => c F1 H1 σ1 δ1 μ1 w1 R1 y1 ?_
      have fin : ∀ k μ3, (k = t x ∧ if k = true then Blk X scope fun Y => WE Y elt δ1 μ3 fun y μ4 => y = .d (g x) ∧ μ4 = μ2 else μ3 = μ2) →
          (if k = true then Blk X scope fun Y => WE Y elt δ1 μ3 fun y μ4 => ∃ yd, y = .d yd ∧ μ4 = μ2 ∧ ((xs.take i).filter t).map g ++ [yd] = ((xs.take (i + 1)).filter t).map g else μ3 = μ2 ∧ ((xs.take i).filter t).map g = ((xs.take (i + 1)).filter t).map g) := by
        intro k μ3 ⟨ek, q⟩
        rw [tk, List.filter_append, List.map_append]
        cases k with
        | true =>
          rw [if_pos rfl] at q ⊢
          intro s H C cl fp
          refine (q s H C cl fp).mono fun y μ4 q => ⟨_, q.1, q.2, ?_⟩
          simp [← ek]
        | false =>
          rw [if_neg (by decide)] at q ⊢
          refine ⟨q, ?_⟩
          simp [← ek]
      intro s H C cl fp
      have h1 := q1 s H C cl fp
      match ifs, h1 with
      | [], h1 => exact fin _ _ h1
      | [cnd], h1 => exact (show WT _ cnd δ1 μ1 _ from h1).mono fun k μ3 q => fin k μ3 q
      | _ :: _ :: _, h1 => exact h1
  · obtain ⟨rfl, rfl⟩ := q
    rw [List.length_map, List.take_length]
    exact hq p
theorem lcW {α : Type} (ι : α → PyData) (t : α → Bool) (g : α → PyData) {elt tg iter : Expr} {ifs : List Expr} {scope : Scope} {own : List (Str × Nat)}
    (h : WI X tg iter δ μ fun ds μ1 => ∃ xs : List α, ds = xs.map ι ∧ xs.length ≤ 100000 ∧ (∀ x ∈ xs, Blk X scope fun Y => WGo Y (own.map (·.2)) tg (.w (ι x)) (wipeD δ (own.map (·.2))) μ1 fun δ2 μ2 => Blk X scope fun Y => WTs Y ifs δ2 μ2 fun k μ3 => k = t x ∧
        if k = true then Blk X scope fun Y => WE Y elt δ2 μ3 fun y μ4 => y = .d (g x) ∧ μ4 = μ1 else μ3 = μ1) ∧ ∀ q, Q (.a q) ((q, (xs.filter t).map g) :: μ1)) : LcPg Vd.w X scope own elt tg iter ifs δ μ Q := by
  intro F H σ R RV c
  refine h F H σ R RV fun J ds F' H' μ' w r wk q => c J ds F' H' μ' w r wk ?_
  obtain ⟨xs, rfl, hz, hx, hq⟩ := q
  refine ⟨fun i acc μ2 => μ2 = μ' ∧ acc = ((xs.take i).filter t).map g, ⟨rfl, by simp⟩, by rw [List.length_map]; exact hz, fun i acc μ2 q => ?_, fun i d acc μ2 hd q => ?_, fun acc μ2 q p => ?_⟩
  · rw [q.2, List.length_map]
    refine Nat.le_trans (List.length_filter_le _ _) ?_
    rw [List.length_take]
    exact Nat.min_le_left _ _
  · obtain ⟨rfl, rfl⟩ := q
    rw [List.getElem?_map] at hd
    cases q : xs[i]? with
    | none =>
      rw [q] at hd
      cases hd
    | some x =>
      rw [q] at hd
      cases hd
      have tk : xs.take (i + 1) = xs.take i ++ [x] := by rw [List.take_add_one, q]; rfl
      intro s H C cl fp F0 H0 σ0 R0 v o QV c
      refine hx x (List.mem_of_getElem? q) s H C cl fp F0 H0 σ0 R0 v o QV fun F1 H1 σ1 δ1 μ1 w1 R1 y1 q1 => c F1 H1 σ1 δ1 μ1 w1 R1 y1 ?_
      have fin : ∀ k μ3, (k = t x ∧ if k = true then Blk X scope fun Y => WE Y elt δ1 μ3 fun y μ4 => y = .d (g x) ∧ μ4 = μ2 else μ3 = μ2) →
          (if k = true then Blk X scope fun Y => WE Y elt δ1 μ3 fun y μ4 => ∃ yd, y = .d yd ∧ μ4 = μ2 ∧ ((xs.take i).filter t).map g ++ [yd] = ((xs.take (i + 1)).filter t).map g else μ3 = μ2 ∧ ((xs.take i).filter t).map g = ((xs.take (i + 1)).filter t).map g) := by
        intro k μ3 ⟨ek, q⟩
        rw [tk, List.filter_append, List.map_append]
        cases k with
        | true =>
          rw [if_pos rfl] at q ⊢
          intro s H C cl fp
          refine (q s H C cl fp).mono fun y μ4 q => ⟨_, q.1, q.2, ?_⟩
          simp [← ek]
        | false =>
          rw [if_neg (by decide)] at q ⊢
          refine ⟨q, ?_⟩
          simp [← ek]
      intro s H C cl fp
      have h1 := q1 s H C cl fp
      match ifs, h1 with
      | [], h1 => exact fin _ _ h1
      | [cnd], h1 => exact (show WT _ cnd δ1 μ1 _ from h1).mono fun k μ3 q => fin k μ3 q
      | _ :: _ :: _, h1 => exact h1
  · obtain ⟨rfl, rfl⟩ := q
    rw [List.length_map, List.take_length]
    exact hq p
end
abbrev Co := List (List Int × Int)
def SqD (d : PyData) (ds : List PyData) : Prop := d = .list ds ∨ d = .tuple ds
def EnD (d : PyData) (e : List Int × Int) : Prop := ∃ df, SqD d [df, .int e.2] ∧ SqD df (intsD e.1)
def AllD {α : Type} (r : PyData → α → Prop) : List PyData → List α → Prop
  | [], [] => True
  | d :: ds, x :: xs => r d x ∧ AllD r ds xs
  | _, _ => False
theorem allD_len {α : Type} {r : PyData → α → Prop} : ∀ {ds : List PyData} {xs : List α}, AllD r ds xs → ds.length = xs.length
  | [], [], _ => rfl
  | d :: ds, x :: xs, h => by simp [allD_len h.2]
  | [], _ :: _, h => h.elim
  | _ :: _, [], h => h.elim
theorem allD_get {α : Type} {r : PyData → α → Prop} : ∀ {ds : List PyData} {xs : List α} {i : Nat} {x : α}, AllD r ds xs → xs[i]? = some x → ∃ d, ds[i]? = some d ∧ r d x
  | [], [], _, _, _, e => by simp at e
  | d :: ds, x :: xs, 0, y, h, e => by
    simp at e
    subst e
    exact ⟨d, rfl, h.1⟩
  | d :: ds, x :: xs, i + 1, y, h, e => by
    obtain ⟨d', e1, e2⟩ := allD_get (i := i) h.2 (by simpa using e)
    exact ⟨d', by simpa using e1, e2⟩
  | [], _ :: _, _, _, h, _ => h.elim
  | _ :: _, [], _, _, h, _ => h.elim
structure CoD (d : PyData) (c : Co) : Prop where
  sq : ∃ ds, SqD d ds ∧ AllD EnD ds c
  len : c.length ≤ 1000
  frs : ∀ e ∈ c, e.1.length ≤ 1000
def fr (c : Co) (p : Int) : List Int := (c.getD p.toNat ([], 0)).1
def nd (c : Co) (p : Int) : Int := (c.getD p.toNat ([], 0)).2
def cnt (c : Co) (t : List Int) (p : Int) : Int := (((fr c p).filter fun x => decide (x ∈ t)).length : Nat)
def comes (c : Co) (t : List Int) (p : Int) : Bool := decide (nd c p ≤ cnt c t p)
def rng (n : Nat) : List Int := (List.range n).map fun (i : Nat) => (i : Int)
def nexts (c : Co) (t : List Int) : List Int := ((rng c.length).filter fun p => !decide (p ∈ t)).filter (comes c t)
theorem rng_len (n : Nat) : (rng n).length = n := by simp [rng]
theorem mem_rng {n : Nat} {p : Int} : p ∈ rng n ↔ 0 ≤ p ∧ p < n := by
  unfold rng
  rw [List.mem_map]
  constructor
  · rintro ⟨i, h, rfl⟩
    rw [List.mem_range] at h
    omega
  · rintro ⟨h1, h2⟩
    exact ⟨p.toNat, by rw [List.mem_range]; omega, by omega⟩
theorem rangeD_eq (n : Nat) : rangeD 0 n = intsD (rng n) := by
  unfold rangeD intsD rng
  rw [List.map_map]
  refine List.map_congr_left fun i _ => ?_
  simp
theorem mem_nexts {c : Co} {t : List Int} {p : Int} : p ∈ nexts c t ↔ (0 ≤ p ∧ p < c.length) ∧ p ∉ t ∧ comes c t p = true := by
  unfold nexts
  rw [List.mem_filter, List.mem_filter, mem_rng]
  simp [and_assoc]
theorem ct_sq {μ : Cells} {d : PyData} {ds : List PyData} (h : SqD d ds) : Ct μ (.d d) ds := by
  rcases h with rfl | rfl
  · exact .l ds
  · exact .t ds
theorem seqd_sq {d : PyData} {ds : List PyData} (h : SqD d ds) : Seqd (.d d) ds := by
  rcases h with rfl | rfl
  · exact .l ds
  · exact .t ds
theorem co_at {d : PyData} {c : Co} {p : Int} (h : CoD d c) (h0 : 0 ≤ p) (h1 : p < c.length) : ∃ ds de, SqD d ds ∧ atI ds p = some de ∧ EnD de (fr c p, nd c p) := by
  obtain ⟨ds, sq, al⟩ := h.sq
  have hl : p.toNat < c.length := by omega
  obtain ⟨de, e1, e2⟩ := allD_get al (List.getElem?_eq_getElem hl)
  refine ⟨ds, de, sq, ?_, ?_⟩
  · have := atI_nat e1
    rw [show ((p.toNat : Nat) : Int) = p by omega] at this
    exact this
  · unfold fr nd
    rw [List.getD_eq_getElem?_getD, List.getElem?_eq_getElem hl]
    exact e2
theorem fr_len {d : PyData} {c : Co} {p : Int} (h : CoD d c) : (fr c p).length ≤ 1000 := by
  unfold fr
  rw [List.getD_eq_getElem?_getD]
  cases q : c[p.toNat]? with
  | none => exact Nat.zero_le _
  | some e => exact h.frs e (List.mem_of_getElem? q)
end Ec
set_option Elab.async false
set_option linter.all false
set_option maxRecDepth 100000
set_option maxHeartbeats 4000000
namespace Ec
open PySem PySem.Spec PyProof.Rows L2
theorem itT {b : Bool} {p q : Prop} (h : b = true) (g : p) : if b = true then p else q := by rw [if_pos h]; exact g
theorem itF {b : Bool} {p q : Prop} (h : b = false) (g : q) : if b = true then p else q := by rw [if_neg (by rw [h]; decide)]; exact g
def tyP : PyData → String
  | .none => "NoneType"
  | .bool _ => "bool"
  | .int _ => "int"
  | .str _ => "str"
  | .list _ => "list"
  | .tuple _ => "tuple"
  | .dict _ => "dict"
def tyD : Vd → String
  | .d x => tyP x
  | .a _ => "list"
  | .w _ => "tuple"
  | .s _ => "list"
  | .k _ _ => "dict"
  | .e _ _ _ _ => "dict"
  | .z _ _ => "dict"
  | .q _ _ => "dict"
  | .m _ b _ => if b = true then "tuple" else "list"
def tys : List String := ["NoneType", "bool", "int", "str", "list", "tuple"]
inductive Kn (μ : Cells) : Vd → Prop
  | d (x : PyData) : Kn μ (.d x)
  | c (i : Nat) {p : Addr} {ds : List PyData} (h : μ[i]? = some (p, (ds : Cont))) : Kn μ (.a p)
theorem Kn.x {μ : Cells} (ds : List PyData) : Kn μ (.x ds) := .d _
theorem ty_seqL {K : PySem.W.Frag} {H : Hp} {a : Addr} {xs : List V} (h : SqL K H a xs) : TyX K H (.ref a) (.type "list") := by
  rcases h with (h | ⟨o, h⟩) | ⟨o, its, n, h, hc, _⟩
  · exact .base (.lst h)
  · exact .base (.frz h)
  · exact .kList h hc
theorem ty_dp {K : PySem.W.Frag} {H : Hp} {v : V} {d : PyData} (h : De K H v d) : TyX K H v (.type (tyP d)) ∧ tyP d ∈ tys := by
  cases h with
  | non => exact ⟨.base .non, by decide⟩
  | bl b => exact ⟨.base (.bl b), (by decide : "bool" ∈ tys)⟩
  | int i => exact ⟨.base (.int i), (by decide : "int" ∈ tys)⟩
  | str x => exact ⟨.base (.str x), (by decide : "str" ∈ tys)⟩
  | lst h1 h2 => exact ⟨ty_seqL (.of h1), (by decide : "list" ∈ tys)⟩
  | tup h1 h2 h3 => exact ⟨.fTuple h1, (by decide : "tuple" ∈ tys)⟩
theorem ty_ok {K : PySem.W.Frag} {F H : Hp} {μ : Cells} {x : Vd} {v : V} (m : RpM K F H μ) (o : VOk K F x v) (k : Kn μ x) : TyX K H v (.type (tyD x)) ∧ tyD x ∈ tys := by
  cases k with
  | d x => exact ty_dp (dp_up m.ex _ _ o)
  | c i h =>
    obtain ⟨_, us, e1, _⟩ := m.cel _ _ (List.mem_of_getElem? h)
    rw [show v = V.ref _ from o]
    exact ⟨.base (.lst e1), (by decide : "list" ∈ tys)⟩
def isT (a T : String) : Bool := (kitB a T).getD false
theorem isT_ok {a T : String} (h : tys.all (fun a => (kitB a T).isSome) = true) (ha : a ∈ tys) : kitB a T = some (isT a T) := by
  have := (List.all_eq_true.mp h) a ha
  unfold isT
  cases q : kitB a T with
  | none =>
    rw [q] at this
    cases this
  | some b => rfl
section
variable {X : Cx} {δ : Dl} {μ : Cells} {e a b : Expr} {pos p p2 : Pos} {Q : Vd → Cells → Prop} {es : List Expr} {mg : Str → Option Value}
theorem we_isi {x2 : Str} {T : String} (B : Bl mg) (hg : Gl X "isinstance") (hg2 : Gl X x2) (h : WE X e δ μ fun x μ1 => Kn μ1 x ∧ Q (.d (.bool (isT (tyD x) T))) μ1) (hv2 : bootBuiltins x2 = some (.type T)) (hm2 : mg x2 = none) (hT : tys.all (fun a => (kitB a T).isSome) = true) (hn2 : x2 ≠ "__name__") (hd2 : (x2 == ("__debug__" : Str)) = false) (hm : X.mg = mg := by rfl)
    (s1 : starEach [e, .Name x2 p2] X.env = (false, eval e X.env) :: starEach [.Name x2 p2] X.env := by rfl) (s2 : starEach [.Name x2 p2] X.env = (false, eval (.Name x2 p2) X.env) :: starEach [] X.env := by rfl) (s3 : (backTo pos (starEach [.Name x2 p2] X.env)).any (·.1) = false := by rfl) :
    WE X (.Call (.Name "isinstance" p) [e, .Name x2 p2] [] pos) δ μ Q := fun F H σ R QV c =>
  toE (pe_callB call_isi hg (hm ▸ B.isi) PyProof.Rows.boot_isinstance (pa_cons (pcE X e) (pa_cons (pe_bltn (v := .ty T) hg2 (hm ▸ hm2) hv2 rfl hn2 hd2) pa_nil s2) s1) (by decide) (by decide) s1 s3)
    (h F H σ R _ fun v x F1 H1 μ1 w1 R1 o1 q => by
      obtain ⟨k, q⟩ := q
      obtain ⟨t1, t2⟩ := ty_ok R1.m o1 k
      exact ⟨v, .ty T, _, _, _, rfl, .ty T, t1, kit_ty (isT_ok hT t2), c _ (.d (.bool _)) F1 H1 μ1 w1 R1 (.bl _) q⟩)
theorem we_isi2 {x2 x3 : Str} {T U : String} {k : Nat} {tp p3 : Pos} (B : Bl mg) (hg : Gl X "isinstance") (hg2 : Gl X x2) (hg3 : Gl X x3) (h : WE X e δ μ fun x μ1 => Kn μ1 x ∧ Q (.d (.bool (isT (tyD x) T || isT (tyD x) U))) μ1) (hv2 : bootBuiltins x2 = some (.type T)) (hm2 : mg x2 = none) (hT : tys.all (fun a => (kitB a T).isSome) = true) (hn2 : x2 ≠ "__name__") (hd2 : (x2 == ("__debug__" : Str)) = false)
    (hv3 : bootBuiltins x3 = some (.type U)) (hm3 : mg x3 = none) (hU : tys.all (fun a => (kitB a U).isSome) = true) (hn3 : x3 ≠ "__name__") (hd3 : (x3 == ("__debug__" : Str)) = false) (hm : X.mg = mg := by rfl)
    (s1 : starEach [e, .Tuple [.Name x2 p2, .Name x3 p3] k tp] X.env = (false, eval e X.env) :: starEach [.Tuple [.Name x2 p2, .Name x3 p3] k tp] X.env := by rfl) (s2 : starEach [.Tuple [.Name x2 p2, .Name x3 p3] k tp] X.env = (false, eval (.Tuple [.Name x2 p2, .Name x3 p3] k tp) X.env) :: starEach [] X.env := by rfl) (s3 : (backTo pos (starEach [.Tuple [.Name x2 p2, .Name x3 p3] k tp] X.env)).any (·.1) = false := by rfl)
    (s4 : starEach [.Name x2 p2, .Name x3 p3] X.env = (false, eval (.Name x2 p2) X.env) :: starEach [.Name x3 p3] X.env := by rfl) (s5 : starEach [.Name x3 p3] X.env = (false, eval (.Name x3 p3) X.env) :: starEach [] X.env := by rfl) :
    WE X (.Call (.Name "isinstance" p) [e, .Tuple [.Name x2 p2, .Name x3 p3] k tp] [] pos) δ μ Q := fun F H σ R QV c =>
  toE (pe_callB call_isiT hg (hm ▸ B.isi) PyProof.Rows.boot_isinstance (pa_cons (pcE X e) (pa_cons (pe_tup (pa_cons (pe_bltn (v := .ty T) hg2 (hm ▸ hm2) hv2 rfl hn2 hd2) (pa_cons (pe_bltn (v := .ty U) hg3 (hm ▸ hm3) hv3 rfl hn3 hd3) pa_nil s5) s4)) pa_nil s2) s1) (by decide) (by decide) s1 s3)
    (h F H σ R _ fun v x F1 H1 μ1 w1 R1 o1 q => by
      obtain ⟨k, q⟩ := q
      refine ⟨by show 2 ≤ sizeLine; rw [sizeLine_eq]; omega, fun q0 nq => ?_⟩
      obtain ⟨m2, w2⟩ := R1.m.new (o := .tup [.ty T, .ty U]) nq
      have R2 := R1.to w2.f m2
      obtain ⟨t1, t2⟩ := ty_ok R2.m (o1.up w2.f) k
      refine ⟨v, q0, [.ty T, .ty U], _, [.type T, .type U], _, rfl, upd_same, .cons (.ty T) (.cons (.ty U) .nil), t1, ?_, c _ (.d (.bool _)) _ _ μ1 (w1.trans w2) R2 (.bl _) q⟩
      refine kitAny_cons (kit_ty (isT_ok hT t2)) (fun e1 => kitAny_cons (r := isT (tyD x) T || isT (tyD x) U) (kit_ty (isT_ok hU t2)) (fun e2 => ?_) (fun e2 => by rw [e2, Bool.or_true])) (fun e1 => by rw [e1, Bool.true_or])
      rw [e1, e2]
      exact kitAny_nil)
end
def isLi : Vd → Bool
  | .m _ b _ => !b
  | .d (.list _) => true
  | .s _ => true
  | .a _ => true
  | _ => false
def isTu : Vd → Bool
  | .d (.tuple _) => true
  | .w _ => true
  | .m _ b _ => b
  | _ => false
def isIn : Vd → Bool
  | .d (.int _) => true
  | .d (.bool _) => true
  | _ => false
def isBo : Vd → Bool
  | .d (.bool _) => true
  | _ => false
def isSt : Vd → Bool
  | .d (.str _) => true
  | _ => false
theorem isT_Li (x : Vd) : isT (tyD x) "list" = isLi x := by
  have h1 : isT "NoneType" "list" = false := by decide +kernel
  have h2 : isT "bool" "list" = false := by decide +kernel
  have h3 : isT "int" "list" = false := by decide +kernel
  have h4 : isT "str" "list" = false := by decide +kernel
  have h5 : isT "list" "list" = true := by decide +kernel
  have h6 : isT "tuple" "list" = false := by decide +kernel
  have h7 : isT "dict" "list" = false := by decide +kernel
  cases x with
  | a p => exact h5
  | w ds => exact h6
  | s ns => exact h5
  | k _ _ => exact h7
  | e _ _ _ _ => exact h7
  | z _ _ => exact h7
  | q _ _ => exact h7
  | m _ b _ => cases b <;> first | exact h5 | exact h6
  | d x => cases x <;> first | exact h1 | exact h2 | exact h3 | exact h4 | exact h5 | exact h6 | exact h7
theorem isT_Tu (x : Vd) : isT (tyD x) "tuple" = isTu x := by
  have h1 : isT "NoneType" "tuple" = false := by decide +kernel
  have h2 : isT "bool" "tuple" = false := by decide +kernel
  have h3 : isT "int" "tuple" = false := by decide +kernel
  have h4 : isT "str" "tuple" = false := by decide +kernel
  have h5 : isT "list" "tuple" = false := by decide +kernel
  have h6 : isT "tuple" "tuple" = true := by decide +kernel
  have h7 : isT "dict" "tuple" = false := by decide +kernel
  cases x with
  | a p => exact h5
  | w ds => exact h6
  | s ns => exact h5
  | k _ _ => exact h7
  | e _ _ _ _ => exact h7
  | z _ _ => exact h7
  | q _ _ => exact h7
  | m _ b _ => cases b <;> first | exact h5 | exact h6
  | d x => cases x <;> first | exact h1 | exact h2 | exact h3 | exact h4 | exact h5 | exact h6 | exact h7
theorem isT_In (x : Vd) : isT (tyD x) "int" = isIn x := by
  have h1 : isT "NoneType" "int" = false := by decide +kernel
  have h2 : isT "bool" "int" = true := by decide +kernel
  have h3 : isT "int" "int" = true := by decide +kernel
  have h4 : isT "str" "int" = false := by decide +kernel
  have h5 : isT "list" "int" = false := by decide +kernel
  have h6 : isT "tuple" "int" = false := by decide +kernel
  have h7 : isT "dict" "int" = false := by decide +kernel
  cases x with
  | a p => exact h5
  | w ds => exact h6
  | s ns => exact h5
  | k _ _ => exact h7
  | e _ _ _ _ => exact h7
  | z _ _ => exact h7
  | q _ _ => exact h7
  | m _ b _ => cases b <;> first | exact h5 | exact h6
  | d x => cases x <;> first | exact h1 | exact h2 | exact h3 | exact h4 | exact h5 | exact h6 | exact h7
theorem isT_Bo (x : Vd) : isT (tyD x) "bool" = isBo x := by
  have h1 : isT "NoneType" "bool" = false := by decide +kernel
  have h2 : isT "bool" "bool" = true := by decide +kernel
  have h3 : isT "int" "bool" = false := by decide +kernel
  have h4 : isT "str" "bool" = false := by decide +kernel
  have h5 : isT "list" "bool" = false := by decide +kernel
  have h6 : isT "tuple" "bool" = false := by decide +kernel
  have h7 : isT "dict" "bool" = false := by decide +kernel
  cases x with
  | a p => exact h5
  | w ds => exact h6
  | s ns => exact h5
  | k _ _ => exact h7
  | e _ _ _ _ => exact h7
  | z _ _ => exact h7
  | q _ _ => exact h7
  | m _ b _ => cases b <;> first | exact h5 | exact h6
  | d x => cases x <;> first | exact h1 | exact h2 | exact h3 | exact h4 | exact h5 | exact h6 | exact h7
theorem isT_St (x : Vd) : isT (tyD x) "str" = isSt x := by
  have h1 : isT "NoneType" "str" = false := by decide +kernel
  have h2 : isT "bool" "str" = false := by decide +kernel
  have h3 : isT "int" "str" = false := by decide +kernel
  have h4 : isT "str" "str" = true := by decide +kernel
  have h5 : isT "list" "str" = false := by decide +kernel
  have h6 : isT "tuple" "str" = false := by decide +kernel
  have h7 : isT "dict" "str" = false := by decide +kernel
  cases x with
  | a p => exact h5
  | w ds => exact h6
  | s ns => exact h5
  | k _ _ => exact h7
  | e _ _ _ _ => exact h7
  | z _ _ => exact h7
  | q _ _ => exact h7
  | m _ b _ => cases b <;> first | exact h5 | exact h6
  | d x => cases x <;> first | exact h1 | exact h2 | exact h3 | exact h4 | exact h5 | exact h6 | exact h7
section
variable {X : Cx} {δ : Dl} {μ : Cells} {e a b : Expr} {pos p p2 : Pos} {Q : Vd → Cells → Prop} {es : List Expr} {mg : Str → Option Value}
theorem we_isLi (B : Bl mg) (hg : Gl X "isinstance") (hg2 : Gl X "list") (h : WE X e δ μ fun x μ1 => Kn μ1 x ∧ Q (.d (.bool (isLi x))) μ1) (hm : X.mg = mg := by rfl)
    (s1 : starEach [e, .Name "list" p2] X.env = (false, eval e X.env) :: starEach [.Name "list" p2] X.env := by rfl) (s2 : starEach [.Name "list" p2] X.env = (false, eval (.Name "list" p2) X.env) :: starEach [] X.env := by rfl) (s3 : (backTo pos (starEach [.Name "list" p2] X.env)).any (·.1) = false := by rfl) :
    WE X (.Call (.Name "isinstance" p) [e, .Name "list" p2] [] pos) δ μ Q :=
  we_isi B hg hg2 (h.mono fun x μ1 q => by rw [isT_Li]; exact q) PyProof.Rows.boot_list B.list (by decide +kernel) (by decide) (by decide) hm s1 s2 s3
theorem we_isTu (B : Bl mg) (hg : Gl X "isinstance") (hg2 : Gl X "tuple") (h : WE X e δ μ fun x μ1 => Kn μ1 x ∧ Q (.d (.bool (isTu x))) μ1) (hm : X.mg = mg := by rfl)
    (s1 : starEach [e, .Name "tuple" p2] X.env = (false, eval e X.env) :: starEach [.Name "tuple" p2] X.env := by rfl) (s2 : starEach [.Name "tuple" p2] X.env = (false, eval (.Name "tuple" p2) X.env) :: starEach [] X.env := by rfl) (s3 : (backTo pos (starEach [.Name "tuple" p2] X.env)).any (·.1) = false := by rfl) :
    WE X (.Call (.Name "isinstance" p) [e, .Name "tuple" p2] [] pos) δ μ Q :=
  we_isi B hg hg2 (h.mono fun x μ1 q => by rw [isT_Tu]; exact q) PyProof.Rows.boot_tuple B.tuple (by decide +kernel) (by decide) (by decide) hm s1 s2 s3
theorem we_isIn (B : Bl mg) (hg : Gl X "isinstance") (hg2 : Gl X "int") (h : WE X e δ μ fun x μ1 => Kn μ1 x ∧ Q (.d (.bool (isIn x))) μ1) (hm : X.mg = mg := by rfl)
    (s1 : starEach [e, .Name "int" p2] X.env = (false, eval e X.env) :: starEach [.Name "int" p2] X.env := by rfl) (s2 : starEach [.Name "int" p2] X.env = (false, eval (.Name "int" p2) X.env) :: starEach [] X.env := by rfl) (s3 : (backTo pos (starEach [.Name "int" p2] X.env)).any (·.1) = false := by rfl) :
    WE X (.Call (.Name "isinstance" p) [e, .Name "int" p2] [] pos) δ μ Q :=
  we_isi B hg hg2 (h.mono fun x μ1 q => by rw [isT_In]; exact q) PyProof.Rows.boot_int B.int (by decide +kernel) (by decide) (by decide) hm s1 s2 s3
theorem we_isBo (B : Bl mg) (hg : Gl X "isinstance") (hg2 : Gl X "bool") (h : WE X e δ μ fun x μ1 => Kn μ1 x ∧ Q (.d (.bool (isBo x))) μ1) (hm : X.mg = mg := by rfl)
    (s1 : starEach [e, .Name "bool" p2] X.env = (false, eval e X.env) :: starEach [.Name "bool" p2] X.env := by rfl) (s2 : starEach [.Name "bool" p2] X.env = (false, eval (.Name "bool" p2) X.env) :: starEach [] X.env := by rfl) (s3 : (backTo pos (starEach [.Name "bool" p2] X.env)).any (·.1) = false := by rfl) :
    WE X (.Call (.Name "isinstance" p) [e, .Name "bool" p2] [] pos) δ μ Q :=
  we_isi B hg hg2 (h.mono fun x μ1 q => by rw [isT_Bo]; exact q) PyProof.Rows.boot_bool B.bool (by decide +kernel) (by decide) (by decide) hm s1 s2 s3
theorem we_isLiTu {k : Nat} {tp p3 : Pos} (B : Bl mg) (hg : Gl X "isinstance") (hg2 : Gl X "list") (hg3 : Gl X "tuple") (h : WE X e δ μ fun x μ1 => Kn μ1 x ∧ Q (.d (.bool (isLi x || isTu x))) μ1) (hm : X.mg = mg := by rfl)
    (s1 : starEach [e, .Tuple [.Name "list" p2, .Name "tuple" p3] k tp] X.env = (false, eval e X.env) :: starEach [.Tuple [.Name "list" p2, .Name "tuple" p3] k tp] X.env := by rfl) (s2 : starEach [.Tuple [.Name "list" p2, .Name "tuple" p3] k tp] X.env = (false, eval (.Tuple [.Name "list" p2, .Name "tuple" p3] k tp) X.env) :: starEach [] X.env := by rfl) (s3 : (backTo pos (starEach [.Tuple [.Name "list" p2, .Name "tuple" p3] k tp] X.env)).any (·.1) = false := by rfl)
    (s4 : starEach [.Name "list" p2, .Name "tuple" p3] X.env = (false, eval (.Name "list" p2) X.env) :: starEach [.Name "tuple" p3] X.env := by rfl) (s5 : starEach [.Name "tuple" p3] X.env = (false, eval (.Name "tuple" p3) X.env) :: starEach [] X.env := by rfl) :
    WE X (.Call (.Name "isinstance" p) [e, .Tuple [.Name "list" p2, .Name "tuple" p3] k tp] [] pos) δ μ Q :=
  we_isi2 B hg hg2 hg3 (h.mono fun x μ1 q => by rw [isT_Li, isT_Tu]; exact q) PyProof.Rows.boot_list B.list (by decide +kernel) (by decide) (by decide) PyProof.Rows.boot_tuple B.tuple (by decide +kernel) (by decide) (by decide) hm s1 s2 s3 s4 s5
theorem we_isBoSt {k : Nat} {tp p3 : Pos} (B : Bl mg) (hg : Gl X "isinstance") (hg2 : Gl X "bool") (hg3 : Gl X "str") (h : WE X e δ μ fun x μ1 => Kn μ1 x ∧ Q (.d (.bool (isBo x || isSt x))) μ1) (hm : X.mg = mg := by rfl)
    (s1 : starEach [e, .Tuple [.Name "bool" p2, .Name "str" p3] k tp] X.env = (false, eval e X.env) :: starEach [.Tuple [.Name "bool" p2, .Name "str" p3] k tp] X.env := by rfl) (s2 : starEach [.Tuple [.Name "bool" p2, .Name "str" p3] k tp] X.env = (false, eval (.Tuple [.Name "bool" p2, .Name "str" p3] k tp) X.env) :: starEach [] X.env := by rfl) (s3 : (backTo pos (starEach [.Tuple [.Name "bool" p2, .Name "str" p3] k tp] X.env)).any (·.1) = false := by rfl)
    (s4 : starEach [.Name "bool" p2, .Name "str" p3] X.env = (false, eval (.Name "bool" p2) X.env) :: starEach [.Name "str" p3] X.env := by rfl) (s5 : starEach [.Name "str" p3] X.env = (false, eval (.Name "str" p3) X.env) :: starEach [] X.env := by rfl) :
    WE X (.Call (.Name "isinstance" p) [e, .Tuple [.Name "bool" p2, .Name "str" p3] k tp] [] pos) δ μ Q :=
  we_isi2 B hg hg2 hg3 (h.mono fun x μ1 q => by rw [isT_Bo, isT_St]; exact q) PyProof.Rows.boot_bool B.bool (by decide +kernel) (by decide) (by decide) PyProof.Rows.boot_str B.str (by decide +kernel) (by decide) (by decide) hm s1 s2 s3 s4 s5
end
section
variable {X : Cx} {δ : Dl} {μ : Cells} {e a b : Expr} {pos p p2 : Pos} {Q : Vd → Cells → Prop} {es : List Expr} {mg : Str → Option Value}
def cutZ (ds : List PyData) (lo hi : Option Int) : List PyData := (ds.drop (HT.sIx ds.length 0 lo)).take (HT.sIx ds.length ds.length hi - HT.sIx ds.length 0 lo)
theorem dps_cutZ {K : PySem.W.Frag} {F : Hp} {ds : List PyData} {vs : List V} (h : DeAll K F vs ds) (lo hi : Option Int) : DeAll K F (cutV vs lo hi) (cutZ ds lo hi) := by
  unfold cutV cutZ
  rw [dps_len h]
  exact dps_take _ (dps_drop _ h)
def tO (X : Cx) : Option Expr → TO
  | none => tNoPart
  | some e => tPart (cE X e)
theorem pcO : ∀ (o : Option Expr), PO X o (tO X o)
  | none => po_none
  | some e => po_some (pcE X e)
def WO (X : Cx) (o : Option Expr) (δ : Dl) (μ : Cells) (QO : Option Int → Cells → Prop) : Prop := match o with
  | none => QO none μ
  | some e => WE X e δ μ fun z μ1 => ∃ i, z = .d (.int i) ∧ QO (some i) μ1
theorem wo_run {o : Option Expr} {QO : Option Int → Cells → Prop} (h : WO X o δ μ QO) {F H : Hp} {σ : L2.St} (R : Rp X.K F H σ δ μ) {QV : Option Int → Hp → Prop}
    (c : ∀ i F' H' μ', Fw (ks μ) (ks μ') F H F' H' → Rp X.K F' H' σ δ μ' → QO i μ' → QV i H') : tO X o σ H QV := by
  cases o with
  | none => exact c none F H μ Fw.refl R h
  | some e =>
    refine (show WE X e δ μ _ from h) F H σ R _ fun v z F1 H1 μ1 w1 R1 o1 q => ?_
    obtain ⟨i, rfl, q⟩ := q
    exact ⟨i, dp_int o1, c _ F1 H1 μ1 w1 R1 q⟩
theorem we_slL {lo hi : Option Expr} (h : WE X e δ μ fun x μ1 => WO X lo δ μ1 fun l μ2 => WO X hi δ μ2 fun u μ3 => ∃ ds, Ct μ3 x ds ∧ (∀ ds, toC x ≠ .tuple ds) ∧ ∀ p, Q (.a p) ((p, cutZ ds l u) :: μ3)) : WE X (.Subscript e (.Slice lo hi none p2) pos) δ μ Q := fun F H σ R QV c =>
  toE (pe_slice sl_list (pcE X e) (pcO lo) (pcO hi)) (h F H σ R _ fun v x F1 H1 μ1 w1 R1 o1 q => wo_run q R1 fun l F2 H2 μ2 w2 R2 q2 => wo_run q2 R2 fun u F3 H3 μ3 w3 R3 q3 => by
    obtain ⟨ds, ct, nt, q3⟩ := q3
    obtain ⟨a, vs, rfl, hs, hd⟩ := ct_lst R3.m (o1.up (w2.f.trans w3.f)) ct nt
    refine ⟨a, vs, rfl, hs, fun l' nl => ?_⟩
    obtain ⟨m4, w4⟩ := R3.m.cell nl (dps_cutZ hd l u)
    exact c _ (.a l') _ _ _ (((w1.trans w2).trans w3).trans w4) (R3.to w4.f m4) rfl (q3 l'))
theorem vall_q {K : PySem.W.Frag} {F : Hp} : ∀ {xs : List Vd} {vs : List V}, (∀ d, Vd.w d ∉ xs ∧ ∀ ns, Vd.s ns ∉ xs) → VAll K F xs vs → DqAll K F vs (xs.map toC)
  | _, _, _, .nil => .nil
  | _, _, n, .cons h t => .cons (VOk.toC (fun d => ⟨fun e => (n d).1 (e ▸ List.mem_cons_self), fun ns e => (n d).2 ns (e ▸ List.mem_cons_self)⟩) h) (vall_q (fun d => ⟨fun m => (n d).1 (List.mem_cons_of_mem _ m), fun ns m => (n d).2 ns (List.mem_cons_of_mem _ m)⟩) t)
theorem we_lstP (h : WA X es δ μ fun xs μ1 => xs.length ≤ 100000 ∧ (∀ d, Vd.w d ∉ xs ∧ ∀ ns, Vd.s ns ∉ xs) ∧ ∀ p, Q (.a p) ((p, xs.map toC) :: μ1)) : WE X (.List es pos) δ μ Q := fun F H σ R QV c =>
  toE (pe_lst (pcA X es)) (h F H σ R _ fun vs xs F1 H1 μ1 w1 R1 o1 q => by
    obtain ⟨hl, nw, q⟩ := q
    have hd := vall_q nw o1
    refine ⟨by rw [dqs_len hd, List.length_map]; exact Nat.le_trans hl (by decide), fun p np => ?_⟩
    obtain ⟨m, w⟩ := R1.m.cellQ np hd
    exact c _ (.a p) _ _ _ (w1.trans w) (R1.to w.f m) rfl (q p))
end
section
variable {K : PySem.W.Frag} {μ : Cells} {Q : Vd → Cells → Prop}
theorem ow_ixC {q : Addr} {i : Int} {d : PyData} {ds : List PyData} (j : Nat) (hj : μ[j]? = some (q, (ds : Cont))) (ha : atI ds i = some d) (h : (isP d = false ∧ Q (.d d) μ) ∨ ∃ r, d = ptr r ∧ Q (.a r) μ) : OpW K (rIx K) (.a q) (.d (.int i)) μ Q := fun F H v u m o1 o2 QV c => by
  obtain ⟨_, vs, e1, hd⟩ := m.cel _ _ (List.mem_of_getElem? hj)
  have hv : ∃ w, atI vs i = some w ∧ Dq K F w d := by
    unfold atI at ha ⊢
    rw [dqs_len hd]
    cases q : ixN ds.length i with
    | none =>
      rw [q] at ha
      cases ha
    | some j =>
      rw [q] at ha
      exact dqs_get hd ha
  obtain ⟨w, hw, ow⟩ := hv
  refine .inl ⟨q, vs, i, w, o1, dp_int o2, .of e1, hw, ?_⟩
  rcases h with ⟨hp, h⟩ | ⟨r, rfl, h⟩
  · exact c (.d d) w F H μ Fw.refl m (ow.to hp) h
  · refine c (.a r) w F H μ Fw.refl m ?_ h
    cases ow with
    | d h => cases h
    | p a => rfl
inductive LItem (μ : Cells) : PyData → PyData → Prop
  | d {d : PyData} (h : isP d = false) : LItem μ d d
  | q (j : Nat) {q : Addr} {es : List PyData} (h : μ[j]? = some (q, (es : Cont))) (pl : plS es) : LItem μ (ptr q) (.list es)
abbrev LItems (μ : Cells) : List PyData → List PyData → Prop := Paired (LItem μ)
inductive LView (μ : Cells) : Addr → PyData → Prop
  | mk (i : Nat) {p : Addr} {rs ds : List PyData} (h : μ[i]? = some (p, (rs : Cont))) (hs : LItems μ rs ds) : LView μ p (.list ds)
theorem litems_pl {rs : List PyData} (h : plS rs) : LItems μ rs rs := by
  induction rs with
  | nil => exact .nil
  | cons r t ih => exact .cons (.d (h r List.mem_cons_self)) (ih fun d m => h d (List.mem_cons_of_mem _ m))
def allF (F H : Hp) (bs : List Addr) : Hp := fun b => if b ∈ bs then H b else F b
theorem RpM.all {F H : Hp} (m : RpM K F H μ) : Same F (allF F H (ks μ)) ∧ Same (allF F H (ks μ)) H ∧ ∀ b ∈ ks μ, F b = none ∧ ∃ o, allF F H (ks μ) b = some o ∧ Own o := by
  have inn : ∀ b ∈ ks μ, F b = none ∧ ∃ o, H b = some o ∧ Own o := fun b hb => by
    obtain ⟨⟨b', fs⟩, hm', e'⟩ := List.mem_map.mp hb
    have e2 : b' = b := e'
    subst e2
    obtain ⟨g1, g2⟩ := m.cel b' fs hm'
    exact ⟨g1, g2.obj⟩
  refine ⟨fun b o e => ?_, fun b o e => ?_, fun b hb => ?_⟩
  · unfold allF
    rw [if_neg fun h => by rw [(inn b h).1] at e; cases e]
    exact e
  · unfold allF at e
    split at e
    · exact e
    · exact m.ex b o e
  · obtain ⟨g1, us, g2, g3⟩ := inn b hb
    refine ⟨g1, us, ?_, g3⟩
    unfold allF
    rw [if_pos hb]
    exact g2
theorem lview_gen {F H G : Hp} (m : RpM K F H μ) (s1 : Same F G) (hG : ∀ b ∈ ks μ, G b = H b) {p : Addr} {d : PyData} (h : LView μ p d) : De K G (.ref p) d := by
  have key : ∀ {i : Nat} {q : Addr} {es : List PyData}, μ[i]? = some (q, (es : Cont)) → ∃ vs, G q = some (.lst vs) ∧ DqAll K G vs es := fun {i q es} hj => by
    have hm := List.mem_of_getElem? hj
    obtain ⟨_, vs, e, hd⟩ := m.cel _ _ hm
    exact ⟨vs, by rw [hG q (List.mem_map.mpr ⟨_, hm, rfl⟩)]; exact e, dqs_up s1 _ _ hd⟩
  have item : ∀ {v : V} {r d : PyData}, LItem μ r d → Dq K G v r → De K G v d := fun {v r d} hi ho => by
    cases hi with
    | d hp => exact ho.to hp
    | q j hj pl =>
      obtain ⟨vs, e, hd⟩ := key hj
      cases ho with
      | d h => cases h
      | p a => exact .lst e (hd.to pl)
  have items : ∀ {rs ds : List PyData} {vs : List V}, LItems μ rs ds → DqAll K G vs rs → DeAll K G vs ds := fun {rs ds vs} hi => by
    induction hi generalizing vs with
    | nil =>
      intro ho
      cases ho
      exact .nil
    | cons h1 _ ih =>
      intro ho
      cases ho with
      | cons o1 o2 => exact .cons (item h1 o1) (ih o2)
  cases h with
  | mk i hj hs =>
    obtain ⟨vs, e, hd⟩ := key hj
    exact .lst e (items hs hd)
inductive LentT (μ : Cells) : List Vd → List Vd → Prop
  | nil : LentT μ [] []
  | keep {x : Vd} {xs ys : List Vd} : LentT μ xs ys → LentT μ (x :: xs) (x :: ys)
  | lend {p : Addr} {d : PyData} {xs ys : List Vd} (h : LView μ p d) : LentT μ xs ys → LentT μ (.a p :: xs) (.d d :: ys)
  | wk {ds : List PyData} {xs ys : List Vd} : LentT μ xs ys → LentT μ (.x ds :: xs) (.d (.tuple ds) :: ys)
theorem LentT.ok {F H G : Hp} (m : RpM K F H μ) (s1 : Same F G) (hG : ∀ b ∈ ks μ, G b = H b) : ∀ {xs ys : List Vd} {vs : List V}, LentT μ xs ys → VAll K F xs vs → VAll K G ys vs
  | _, _, _, .nil, h => by
    cases h
    exact .nil
  | _, _, _, .keep l, h => by
    cases h with
    | cons h1 h2 => exact .cons (h1.up s1) (LentT.ok m s1 hG l h2)
  | _, _, _, .lend hv l, h => by
    cases h with
    | cons h1 h2 =>
      rw [show _ = V.ref _ from h1]
      exact .cons (lview_gen m s1 hG hv) (LentT.ok m s1 hG l h2)
  | _, _, _, .wk l, h => by
    cases h with
    | cons h1 h2 =>
      exact .cons (dp_up s1 _ _ h1) (LentT.ok m s1 hG l h2)
def cutS (F : Hp) (bs : List Addr) : Hp := fun b => if b ∈ bs then none else F b
theorem same_cutS {F : Hp} {bs : List Addr} : Same (cutS F bs) F := fun b o e => by
  unfold cutS at e
  split at e
  · cases e
  · exact e
theorem cutS_ne {F : Hp} {bs : List Addr} {b : Addr} (h : b ∉ bs) : cutS F bs b = F b := if_neg h
mutual
theorem dp_cutS {F : Hp} {bs : List Addr} (hp : ∀ b ∈ bs, ∃ o, F b = some o ∧ Own o) : ∀ (d : PyData) (v : V), noL d = true → De K F v d → De K (cutS F bs) v d
  | .none, _, _, h => by cases h; exact .non
  | .bool b, _, _, h => by cases h; exact .bl b
  | .int i, _, _, h => by cases h; exact .int i
  | .str x, _, _, h => by cases h; exact .str x
  | .list ds, _, n, _ => by simp [noL] at n
  | .tuple ds, _, n, h => by
    cases h with
    | tup hs hn ha => exact .tup (by rw [cutS_ne fun z => by obtain ⟨o, e, ow⟩ := hp _ z; rw [e] at hs; cases hs; exact ow]; exact hs) hn (dps_cutS hp ds _ (by simpa [noL] using n) ha)
  | .dict _, _, n, _ => by simp [noL] at n
theorem dps_cutS {F : Hp} {bs : List Addr} (hp : ∀ b ∈ bs, ∃ o, F b = some o ∧ Own o) : ∀ (ds : List PyData) (vs : List V), noLs ds = true → DeAll K F vs ds → DeAll K (cutS F bs) vs ds
  | [], _, _, h => by cases h; exact .nil
  | d :: ds, _, n, h => by
    cases h with
    | cons h1 h2 =>
      have n' : noL d = true ∧ noLs ds = true := by simpa [noLs] using n
      exact .cons (dp_cutS hp d _ n'.1 h1) (dps_cutS hp ds _ n'.2 h2)
end
end
theorem paired_get {α β : Type} {r : α → β → Prop} : ∀ {xs : List α} {ys : List β} (i : Nat), Paired r xs ys → (xs[i]? = none ∧ ys[i]? = none) ∨ ∃ x y, xs[i]? = some x ∧ ys[i]? = some y ∧ r x y
  | _, _, i, .nil => .inl ⟨by simp, by simp⟩
  | _, _, 0, .cons h _ => .inr ⟨_, _, rfl, rfl, h⟩
  | _, _, i + 1, .cons _ t => by
    rcases paired_get i t with ⟨h1, h2⟩ | ⟨x, y, h1, h2, h3⟩
    · exact .inl ⟨by simpa using h1, by simpa using h2⟩
    · exact .inr ⟨x, y, by simpa using h1, by simpa using h2, h3⟩
section
variable {X : Cx} {δ : Dl} {μ : Cells} {e a b E : Expr} {pos p p2 : Pos} {Q : Vd → Cells → Prop} {es : List Expr} {mg : Str → Option Value} {kws : List Keyword}
def WCl (X : Cx) (E : Expr) (T : TrD) (δ : Dl) (μ : Cells) (QA : List Vd → Cells → Prop) : Prop := ∀ F H σ, Rp X.K F H σ δ μ → ∀ QV : VK,
  (∀ vs xs F' H' μ', Fw (ks μ) (ks μ') F H F' H' → Rp X.K F' H' σ δ μ' → VAll X.K F' xs vs → QA xs μ' → spW X.K T vs H' QV E0) → cE X E σ H QV
theorem wc_pos {P : Program} {w : World} {K : PySem.W.Frag} {mg : Str → Option Value} {base : Heap} {T : TrD} {k : Nat} {x : Str} {QA : List Vd → Cells → Prop} (c : Cal P w K mg base k x T) (hr : Room k X.A) (hg : Gl X x) (h : WA X (e :: es) δ μ QA)
    (hgd : X.A.guards = some [] := by assumption) (hX : (X.prog, X.w, X.K, X.mg, X.base) = (P, w, K, mg, base) := by rfl)
    (hdb : (x == ("__debug__" : Str)) = false := by decide) (he : starEach (e :: es) X.env = (false, eval e X.env) :: starEach es X.env := by rfl) (hpl : (backTo pos (starEach es X.env)).any (·.1) = false := by rfl) :
    WCl X (.Call (.Name x p) (e :: es) [] pos) T δ μ QA := fun F H σ R QV kk => by
  obtain ⟨f, fd, ps, ok, hm, hk, hb⟩ := c
  cases hX
  refine toE (pe_callg ok hr hgd hg hm hk hb pass0 (pcA X (e :: es)) hdb he hpl) (h F H σ R _ fun vs xs F1 H1 μ1 w1 R1 o1 q => ?_)
  exact kk vs xs F1 H1 μ1 w1 R1 o1 q
theorem we_clT {T : TrD} (h : WCl X E T δ μ fun xs μ1 => ∃ ys, LentT μ1 xs ys ∧ T ys [] fun z μ' => noLv z = true ∧ (∀ y ∈ μ', noLc y.2 = true) ∧ Q z (μ' ++ μ1)) : WE X E δ μ Q := fun F H σ R QV kk =>
  h F H σ R QV fun vs xs F1 H1 μ1 w1 R1 o1 q => by
    obtain ⟨ys, hl, q0⟩ := q
    obtain ⟨sf, sh, hc⟩ := R1.m.all
    have hG : ∀ b ∈ ks μ1, allF F1 H1 (ks μ1) b = H1 b := fun b hb => if_pos hb
    have m0 : RpM X.K (allF F1 H1 (ks μ1)) H1 [] := ⟨sh, List.nodup_nil, fun _ _ z => by cases z⟩
    refine ⟨_, ys, [], _, m0, LentT.ok R1.m sf hG hl o1, q0, fun v z F2 H2 μ2 w2 m2 o2 q2 => ?_⟩
    obtain ⟨q2, q3, q4⟩ := q2
    have f2 : ∀ b ∈ ks μ1, ∃ o, F2 b = some o ∧ Own o := fun b hb => by
      obtain ⟨_, us, e, ow⟩ := hc b hb
      exact ⟨us, w2.f b _ e, ow⟩
    have f12 : Same F1 (cutS F2 (ks μ1)) := fun b o hb => by
      rw [cutS_ne fun z => by rw [(hc b z).1] at hb; cases hb]
      exact w2.f b o (sf b o hb)
    have live : ∀ b ∈ ks μ1, H1 b ≠ none := fun b hb z => by
      obtain ⟨_, us, e, _⟩ := hc b hb
      rw [hG b hb, z] at e
      cases e
    have fresh : ∀ b ∈ ks μ2, H1 b = none := fun b hb => (w2.s b hb).elim (fun z => by cases z) id
    have W : Fw (ks μ1) (ks (μ2 ++ μ1)) F1 H1 (cutS F2 (ks μ1)) H2 := by
      refine ⟨f12, fun b o hb _ => w2.k b o hb (by simp), fun b hb hb2 nb => ?_, fun b hb => ?_⟩
      · rw [cutS_ne nb]
        exact w2.c b (by unfold allF; rw [if_neg nb]; exact hb) hb2 (by simp)
      · rw [ks_app] at hb
        rcases List.mem_append.mp hb with hb | hb
        · exact .inr (fresh b hb)
        · exact .inl hb
    have M : RpM X.K (cutS F2 (ks μ1)) H2 (μ2 ++ μ1) := by
      refine ⟨same_cutS.trans m2.ex, ?_, fun b fs hb => ?_⟩
      · rw [ks_app]
        refine List.nodup_append.mpr ⟨m2.nd, R1.m.nd, fun x mx y my e' => ?_⟩
        subst e'
        exact live x my (fresh x mx)
      · rcases List.mem_append.mp hb with hb | hb
        · have nb : b ∉ ks μ1 := fun z => live b z (fresh b (List.mem_map.mpr ⟨_, hb, rfl⟩))
          have hn := q3 _ hb
          cases fs with
          | l fs =>
            obtain ⟨g1, ws, g2, g3⟩ := m2.cel b _ hb
            exact ⟨by rw [cutS_ne nb]; exact g1, ws, g2, .of (dps_cutS f2 _ _ hn (g3.to (noLs_pl hn)))⟩
          | i _ => cases hn
          | t _ => cases hn
          | o _ _ => cases hn
        · obtain ⟨g1, g2⟩ := R1.m.cel b fs hb
          exact ⟨if_pos (List.mem_map.mpr ⟨_, hb, rfl⟩), g2.to f12 fun o e => w2.k b o e (by simp)⟩
    refine kk v z (cutS F2 (ks μ1)) H2 (μ2 ++ μ1) (w1.trans W) (R1.to f12 M) ?_ q4
    cases z with
    | d x => exact dp_cutS f2 x v q2 o2
    | a r => exact o2
    | w es => cases q2
    | s es => cases q2
    | k _ _ => cases q2
    | e _ _ _ _ => cases q2
    | z _ _ => cases q2
    | q _ _ => cases q2
    | m _ _ _ => cases q2
end
end Ec
set_option Elab.async false
set_option linter.all false
set_option maxRecDepth 100000
set_option maxHeartbeats 4000000
namespace Ec
open PySem PySem.Spec PyProof.Rows L2
theorem entry_hp {P : Program} {w : World} {K : PySem.W.Frag} {h : Heap} {a : Addr} {vs : List Value} {ns : List Int} (KX : K.In h) (ha : h.get? a = some { cls := .type "list", data := .seq vs.toArray }) (hi : IntsAre vs ns) (hl : ns.length ≤ sizeLine) :
    ∃ H : Hp, L2.Only H ∧ SqL K H a (ns.map V.int) ∧ HOk P w H h ∧ (∀ b, H b ≠ none → b = a) ∧ (H a ≠ none → K.lookup a = none) := by
  have rv := vals_ints hi
  cases hk : K.lookup a with
  | some o =>
    have e := (KX a o hk).symm.trans ha
    cases e
    exact ⟨fun _ => none, fun _ => .inl rfl, .inr ⟨_, vs.toArray, _, hk, rfl, rfl, rfl, by rw [List.size_toArray, hi.length]; exact hl, by simpa using rv⟩, (fun _ _ z => by cases z), fun _ z => absurd rfl z, fun z => absurd rfl z⟩
  | none =>
    let H : Hp := upd (fun _ => none) a (.frz { cls := .type "list", data := .seq vs.toArray } (.lst (ns.map V.int)))
    have at_ : ∀ b, b ≠ a → H b = none := fun b hb => upd_ne hb
    refine ⟨H, fun b => ?_, .inl (.inr ⟨_, upd_same⟩), fun b u z => ?_, fun b z => ?_, fun _ => rfl⟩
    · by_cases hb : b = a
      · subst hb
        exact .inr ⟨_, _, upd_same⟩
      · exact .inl (at_ b hb)
    · by_cases hb : b = a
      · subst hb
        cases (upd_same.symm.trans z : some _ = some u)
        exact ⟨ha, by rw [List.length_map]; exact hl, vs, _, rv, ha⟩
      · cases (at_ b hb).symm.trans z
    · by_cases hb : b = a
      · exact hb
      · exact absurd (at_ b hb) z
theorem law_g {P : Program} {w : World} {K : PySem.W.Frag} {mg mb : Str → Option Value} {k : Nat} {fa a : Addr} {fd : FuncData} {x : Str} {sp : Sp} {s₁ : Shared} {vs : List Value} {ns : List Int}
    (KX : K.In s₁.heap) (hns : s₁.heap.Ns mainGlobals mg) (hb : s₁.heap.Ns builtinsNs mb) (hbb : ∀ x : Str, x ≠ "__name__" → mb x = bootBuiltins x) (hlim : s₁.heap.NoLimit) (hg : s₁.gens = #[])
    (ha : s₁.heap.get? a = some { cls := .type "list", data := .seq vs.toArray }) (hi : IntsAre vs ns) (hl : ns.length ≤ sizeLine) (hr : Room k callerA)
    (F : ∀ base : Heap, K.In base → base.Ns mainGlobals mg → FnG P w K mg base CX0 k fa fd [x] sp) (hbind : ∀ (s : Shared) (u : Value), BindsTo s fd ⟨[u], []⟩ [(x, u)])
    (hsp : ∀ H : Hp, L2.Only H → SqL K H a (ns.map V.int) → sp [.ref a] H (fun v _ => v = .bl true) fun _ _ _ => False) :
    codeAny (model P w) callerA (.call (.ref fa) ⟨[.ref a], []⟩) (fun r s' => r = .ok (.ret (.bool true)) ∧ OldK s₁.heap s'.heap ∧ s'.os = s₁.os ∧ AllBare s'.gens) s₁ := by
  obtain ⟨H, hO, hS, hok, hA, hK⟩ := entry_hp (P := P) (w := w) KX ha hi hl
  have off : ∀ {b : Addr} {o : Obj}, s₁.heap.get? b = some o → (b = a → False) → (hidT s₁.heap H).get? b = some o := fun {b o} e n => hidT_get e (by
    cases q : H b with
    | none => rfl
    | some u => exact (n (hA b (by rw [q]; simp))).elim)
  have nsOff : ∀ {b : Addr} {m : Str → Option Value}, s₁.heap.Ns b m → (hidT s₁.heap H).Ns b m := fun {b m} ⟨o, es, ep, e, d, r⟩ => ⟨o, es, ep, off e (fun z => by
    subst z
    rw [ha] at e
    cases e
    cases (show Data.seq vs.toArray _ = Data.dict es ep from d)), d, r⟩
  have hKb : K.In (hidT s₁.heap H) := fun b o e => by
    cases q : H b with
    | none => exact hidT_get (KX b o e) q
    | some u =>
      have z := hA b (by rw [q]; simp)
      subst z
      rw [hK (by rw [q]; simp)] at e
      cases e
  obtain ⟨mc, l1, l2⟩ := hlim
  have e0 : Env0 P w K mg (hidT s₁.heap H) callerA [] s₁ H := ⟨rfl, ⟨hKb, nsOff hns, ⟨mb, nsOff hb, hbb⟩, ⟨mc, nsOff l1, l2⟩⟩, fun b o e => of_hidT e, Nat.le_of_eq (hidT_size _ _), trivial, fun b z => absurd (show b ∈ ([] : List Addr) from z) (by simp), hok, .of_eq hg⟩
  refine codeAny_mono ((F _ hKb (nsOff hns)).run callerA [] s₁ H ⟨[.ref a], []⟩ [.ref a] [.ref a] _ _ hr rfl e0 (hbind s₁ (.ref a)) (.cons rfl .nil) (hsp H hO hS)) fun r s' h => ?_
  match r, h with
  | .error e, h => exact h.elim
  | .ok .next, h => exact h.elim
  | .ok .brk, h => exact h.elim
  | .ok .cont, h => exact h.elim
  | .ok (.ret u), ⟨v, H', os, bare, un, hok', r', q⟩ =>
    have q' : v = .bl true := q
    subst q'
    obtain rfl : u = Value.bool true := r'
    refine ⟨rfl, OldK.of_keep fun b o e => ?_, os, bare⟩
    rcases hO b with z | ⟨ob, xs, z⟩
    · exact un.keep b o e z (fun m => absurd (show b ∈ ([] : List Addr) from m) (by simp)) (by simp)
    · obtain ⟨e1, _⟩ := hok b _ z
      obtain ⟨e2, _⟩ := hok' b _ (un.frzs b ob _ z)
      rw [e] at e1
      cases e1
      exact e2
theorem walk_g {l : PySem.W.OpenLaw} {n k : Nat} {q : Program} {loose : List Str} {XP : (Str → Option Value) → Heap → Prop} {YP : World → Heap → Prop} {d : DefRec} {K : Params → PySem.W.Frag} {sp : World → Sp} {x : Str}
    (hn : l.most = some n) (hn2 : n ≤ sizeLine) (hdf : d.params.defaults = []) (hr : Room k callerA)
    (hY : ∀ (w : World) (h : Heap), YP w h → (K w.params).In h)
    (F : ∀ (w : World) (mg : Str → Option Value) (fa : Addr) (h : Heap), (K w.params).In h → h.Ns mainGlobals mg → mg d.name = some (.ref fa) →
      ∃ fd : FuncData, (∀ (s : Shared) (u : Value), BindsTo s fd ⟨[u], []⟩ [(x, u)]) ∧
        ∀ base : Heap, (K w.params).In base → base.Ns mainGlobals mg → FnG l.prog w (K w.params) mg base CX0 k fa fd [x] (sp w))
    (hsp : ∀ (w : World) (H : Hp) (a : Addr) (ns : List Int), ns.length ≤ n → L2.Only H → SqL (K w.params) H a (ns.map V.int) → sp w [.ref a] H (fun v _ => v = .bl true) fun _ _ _ => False) :
    PySem.W.WalkO q loose XP YP l.row.toRowW d [] (fun f vs => PySem.call f vs) :=
  Att.attach_call hn hdf fun w s₀ s₁ mg mb fa o pm cd doc a vs ns G Y ho hd hcd hmg hobj hints hlen hg => by
    obtain ⟨fd, hb, hF⟩ := F w mg fa _ (hY w _ Y) G.T.g hmg
    exact law_g (hY w _ Y) G.T.g G.T.b G.T.builtins G.T.nolimit hg hobj hints (Nat.le_trans hlen hn2) hr hF hb fun H hO hS => hsp w H a ns hlen hO hS
section
variable {X : Cx} {δ : Dl} {μ : Cells} {e : Expr} {pos p : Pos} {Q : Vd → Cells → Prop} {mg : Str → Option Value}
end
end Ec
set_option Elab.async false
set_option linter.all false
set_option maxRecDepth 100000
set_option maxHeartbeats 4000000
namespace Ec
open PySem PySem.Spec PyProof.Rows L2
section
variable {X : Cx} {is : List Nat} {δ : Dl} {μ : Cells} {pos : Pos} {G : Dl → Cells → Prop}
theorem wg_lst {ts : List Expr} {k : Nat} {ds : List PyData} (hc : X.calm = true) (h : WGso X is ts (ds.map Vd.d) δ μ G) (hn : (assignEach ts X.env).length = ds.length := by rfl)
    (hst : (assignEach ts X.env).findIdx? (·.1) = none := by rfl) : WGo X is (.Tuple ts k pos) (.d (.list ds)) δ μ G := fun F H σ R v o QV c => by
  obtain ⟨a, vs, rfl, hs, hd⟩ := dp_lst o
  exact toG (pg_lst hc (pcGs X ts) hn hst) ⟨a, vs, rfl, R.m.ex.seq hs, dps_len hd, h F H σ R vs (vall_d hd) QV c⟩
theorem wg_sq {ts : List Expr} {k : Nat} {d : PyData} {ds : List PyData} (q : SqD d ds) (hc : X.calm = true) (h : WGso X is ts (ds.map Vd.d) δ μ G) (hn : (assignEach ts X.env).length = ds.length := by rfl)
    (hst : (assignEach ts X.env).findIdx? (·.1) = none := by rfl) : WGo X is (.Tuple ts k pos) (.d d) δ μ G := by
  rcases q with rfl | rfl
  · exact wg_lst hc h hn hst
  · exact wg_tup hc h hn hst
end
theorem allD_zip {α : Type} {r : PyData → α → Prop} : ∀ {ds : List PyData} {xs : List α}, AllD r ds xs → (ds.zip xs).map Prod.fst = ds ∧ (ds.zip xs).map Prod.snd = xs ∧ ∀ z ∈ ds.zip xs, r z.1 z.2
  | [], [], _ => ⟨rfl, rfl, fun _ z => by cases z⟩
  | d :: ds, x :: xs, h => by
    obtain ⟨h1, h2, h3⟩ := allD_zip h.2
    refine ⟨by rw [List.zip_cons_cons, List.map_cons, h1], by rw [List.zip_cons_cons, List.map_cons, h2], fun z m => ?_⟩
    rcases List.mem_cons.mp m with rfl | m
    · exact h.1
    · exact h3 z m
  | [], _ :: _, h => h.elim
  | _ :: _, [], h => h.elim
end Ec
set_option Elab.async false
set_option linter.all false
set_option maxRecDepth 100000
set_option maxHeartbeats 4000000
namespace Ec
theorem filter_lt {α : Type} {p q : α → Bool} : ∀ {l : List α}, (∀ a ∈ l, p a = true → q a = true) → (∃ a ∈ l, q a = true ∧ p a = false) → (l.filter p).length < (l.filter q).length
  | [], _, h => by
    obtain ⟨a, h, _⟩ := h
    cases h
  | x :: l, h, ⟨a, ha, h1, h2⟩ => by
    have le : (l.filter p).length ≤ (l.filter q).length := by
      clear h1 h2 ha
      have hl : ∀ a ∈ l, p a = true → q a = true := fun a m => h a (List.mem_cons_of_mem _ m)
      clear h
      induction l with
      | nil => exact Nat.le_refl _
      | cons y r ih =>
        have := ih fun a m => hl a (List.mem_cons_of_mem _ m)
        have hy := hl y List.mem_cons_self
        rw [List.filter_cons, List.filter_cons]
        by_cases e : p y = true
        · rw [if_pos e, if_pos (hy e)]
          simp only [List.length_cons]
          omega
        · rw [if_neg e]
          split
          · simp only [List.length_cons]
            omega
          · exact this
    rw [List.filter_cons, List.filter_cons]
    rcases List.mem_cons.mp ha with e | m
    · subst e
      rw [h1, h2]
      simp only [if_true, Bool.false_eq_true, if_false, List.length_cons]
      omega
    · have ih := filter_lt (fun a m => h a (List.mem_cons_of_mem _ m)) ⟨a, m, h1, h2⟩
      by_cases e : p x = true
      · rw [if_pos e, if_pos (h x List.mem_cons_self e)]
        simp only [List.length_cons]
        omega
      · rw [if_neg e]
        split
        · simp only [List.length_cons]
          omega
        · exact ih
theorem rng_nodup (n : Nat) : (rng n).Nodup := by
  unfold rng
  rw [List.nodup_iff_pairwise_ne, List.pairwise_map]
  exact (List.nodup_range).imp fun h e => h (by omega)
def stp (c : Co) (t b : List Int) : List Int := (nexts c t).filter fun p => !decide (p ∈ b)
def rnds : Nat → Co → List Int → List Int → List (List Int)
  | 0, _, _, _ => []
  | n + 1, c, t, b => if stp c t b = [] then [] else stp c t b :: rnds n c (t ++ stp c t b) b
def und (c : Co) (t : List Int) : Nat := ((rng c.length).filter fun p => !decide (p ∈ t)).length
theorem mem_stp {c : Co} {t b : List Int} {p : Int} : p ∈ stp c t b ↔ (0 ≤ p ∧ p < c.length) ∧ p ∉ t ∧ comes c t p = true ∧ p ∉ b := by
  unfold stp
  rw [List.mem_filter, mem_nexts]
  simp [and_assoc]
theorem und_le (c : Co) (t : List Int) : und c t ≤ c.length := by
  unfold und
  refine Nat.le_trans (List.length_filter_le _ _) ?_
  rw [rng_len]
  exact Nat.le_refl _
theorem und_lt {c : Co} {t s : List Int} (h : ∃ x, x ∈ s ∧ x ∉ t ∧ 0 ≤ x ∧ x < c.length) : und c (t ++ s) < und c t := by
  obtain ⟨x, h1, h2, h3, h4⟩ := h
  refine filter_lt (fun a _ e => ?_) ⟨x, mem_rng.mpr ⟨h3, h4⟩, by simp [h2], by simp [h1]⟩
  simp at e ⊢
  exact e.1
theorem stp_lt {c : Co} {t b : List Int} (h : stp c t b ≠ []) : und c (t ++ stp c t b) < und c t := by
  obtain ⟨x, hx⟩ := List.exists_mem_of_ne_nil _ h
  obtain ⟨h1, h2, _⟩ := mem_stp.mp hx
  exact und_lt ⟨x, hx, h2, h1⟩
theorem stp_sum (c : Co) (t b : List Int) : (stp c t b).length + und c (t ++ stp c t b) = und c t := by
  unfold und
  have e : ∀ L : List Int, (L.filter fun p => !decide (p ∈ t ++ stp c t b)) = (L.filter fun p => !decide (p ∈ t)).filter fun p => !decide (p ∈ stp c t b) := fun L => by
    rw [List.filter_filter]
    refine List.filter_congr fun x _ => ?_
    by_cases h1 : x ∈ t <;> by_cases h2 : x ∈ stp c t b <;> simp [h1, h2]
  rw [e]
  generalize hL : ((rng c.length).filter fun p => !decide (p ∈ t)) = L
  have s : stp c t b = L.filter fun p => comes c t p && !decide (p ∈ b) := by
    unfold stp nexts
    rw [hL, List.filter_filter]
    refine List.filter_congr fun x _ => ?_
    rw [Bool.and_comm]
  have s2 : (L.filter fun p => !decide (p ∈ stp c t b)) = L.filter fun p => !(comes c t p && !decide (p ∈ b)) := List.filter_congr fun x hx => by
    simp only [s, List.mem_filter, hx, true_and]
    cases (comes c t x && !decide (x ∈ b)) <;> rfl
  rw [s2, s]
  have cnt : ∀ (f : Int → Bool) (L : List Int), (L.filter f).length + (L.filter fun p => !f p).length = L.length := fun f L => by
    induction L with
    | nil => rfl
    | cons x r ih =>
      rw [List.filter_cons, List.filter_cons]
      cases hf : f x <;> simp <;> omega
  exact cnt _ L
theorem rnds_flat : ∀ (n : Nat) (c : Co) (t b : List Int), (rnds n c t b).flatten.length ≤ und c t
  | 0, _, _, _ => Nat.zero_le _
  | n + 1, c, t, b => by
    unfold rnds
    split
    · exact Nat.zero_le _
    · rw [List.flatten_cons, List.length_append]
      have := rnds_flat n c (t ++ stp c t b) b
      have := stp_sum c t b
      omega
def AR (c : Co) (t b : List Int) : List (List Int) := rnds (c.length + 1) c t b
def cl (c : Co) (t b : List Int) : List Int := srt (t ++ (AR c t b).flatten)
theorem comes_mono {c : Co} {s t : List Int} (h : ∀ x ∈ s, x ∈ t) {p : Int} (hp : comes c s p = true) : comes c t p = true := by
  unfold comes cnt at *
  have h1 := of_decide_eq_true hp
  refine decide_eq_true (Int.le_trans h1 ?_)
  have : ∀ L : List Int, (L.filter fun x => decide (x ∈ s)).length ≤ (L.filter fun x => decide (x ∈ t)).length := fun L => by
    induction L with
    | nil => exact Nat.le_refl _
    | cons y r ih =>
      rw [List.filter_cons, List.filter_cons]
      by_cases e : y ∈ s
      · rw [if_pos (decide_eq_true e), if_pos (decide_eq_true (h y e))]
        simp only [List.length_cons]
        omega
      · rw [if_neg (by simp [e])]
        split
        · simp only [List.length_cons]
          omega
        · exact ih
  exact Int.ofNat_le.mpr (this _)
theorem comes_same {c : Co} {s t : List Int} (h : ∀ x, x ∈ s ↔ x ∈ t) (p : Int) : comes c s p = comes c t p := by
  cases h1 : comes c s p with
  | true => exact (comes_mono (fun x m => (h x).mp m) h1).symm
  | false =>
    cases h2 : comes c t p with
    | true => exact absurd (comes_mono (fun x m => (h x).mpr m) h2) (by rw [h1]; decide)
    | false => rfl
def Shut (c : Co) (b : List Int) (S : Int → Prop) : Prop := ∀ p : Int, 0 ≤ p → p < c.length → p ∉ b → (∃ t : List Int, (∀ x ∈ t, S x) ∧ comes c t p = true) → S p
theorem rnds_in {c : Co} {b : List Int} {S : Int → Prop} (hS : Shut c b S) : ∀ (n : Nat) (t : List Int), (∀ x ∈ t, S x) → ∀ x ∈ (rnds n c t b).flatten, S x
  | 0, _, _, x, h => by cases h
  | n + 1, t, ht, x, h => by
    unfold rnds at h
    split at h
    · cases h
    · rw [List.flatten_cons] at h
      have hs : ∀ y ∈ stp c t b, S y := fun y hy => by
        obtain ⟨⟨h0, h1⟩, _, h3, h4⟩ := mem_stp.mp hy
        exact hS y h0 h1 h4 ⟨t, ht, h3⟩
      rcases List.mem_append.mp h with h | h
      · exact hs x h
      · exact rnds_in hS n _ (fun y hy => (List.mem_append.mp hy).elim (ht y) (hs y)) x h
theorem rnds_end {c : Co} {b : List Int} : ∀ (n : Nat) (t : List Int), und c t < n → stp c (t ++ (rnds n c t b).flatten) b = []
  | 0, _, h => absurd h (Nat.not_lt_zero _)
  | n + 1, t, h => by
    unfold rnds
    split
    · rename_i e
      rw [List.flatten_nil, List.append_nil]
      exact e
    · rename_i e
      rw [List.flatten_cons, ← List.append_assoc]
      have := stp_lt e
      exact rnds_end n _ (by omega)
theorem shut_of {c : Co} {b t : List Int} (h : stp c t b = []) : Shut c b (fun x => x ∈ t) := fun p h0 h1 hb ⟨s, hs, hc⟩ => by
  apply Classical.byContradiction
  intro hn
  have : p ∈ stp c t b := mem_stp.mpr ⟨⟨h0, h1⟩, hn, comes_mono hs hc, hb⟩
  rw [h] at this
  cases this
theorem rnds_nodup : ∀ (n : Nat) (c : Co) (t b : List Int), (rnds n c t b).flatten.Nodup ∧ ∀ x ∈ (rnds n c t b).flatten, x ∉ t ∧ 0 ≤ x ∧ x < c.length
  | 0, _, _, _ => ⟨List.nodup_nil, fun x h => by cases h⟩
  | n + 1, c, t, b => by
    unfold rnds
    split
    · exact ⟨List.nodup_nil, fun x h => by cases h⟩
    · obtain ⟨ih, ih2⟩ := rnds_nodup n c (t ++ stp c t b) b
      rw [List.flatten_cons]
      refine ⟨List.nodup_append.mpr ⟨?_, ih, fun x h y h' e => ?_⟩, fun x h => ?_⟩
      · exact (((rng_nodup _).filter _).filter _).filter _
      · subst e
        exact (ih2 x h').1 (List.mem_append_right _ h)
      · rcases List.mem_append.mp h with h | h
        · obtain ⟨h1, h2, _⟩ := mem_stp.mp h
          exact ⟨h2, h1⟩
        · obtain ⟨h1, h2⟩ := ih2 x h
          exact ⟨fun z => h1 (List.mem_append_left _ z), h2⟩
theorem mem_srt {x : Int} {l : List Int} : x ∈ srt l ↔ x ∈ l := (srt_perm l).mem_iff
theorem mem_cl {c : Co} {t b : List Int} {x : Int} : x ∈ cl c t b ↔ x ∈ t ++ (AR c t b).flatten := mem_srt
theorem cl_in {c : Co} {t b : List Int} {S : Int → Prop} (hS : Shut c b S) (ht : ∀ x ∈ t, S x) : ∀ x ∈ cl c t b, S x := fun x h => by
  rcases List.mem_append.mp (mem_cl.mp h) with h | h
  · exact ht x h
  · exact rnds_in hS _ t ht x h
theorem cl_shut (c : Co) (t b : List Int) : Shut c b (fun x => x ∈ cl c t b) := by
  have h := shut_of (rnds_end (c := c) (b := b) (c.length + 1) t (by have := und_le c t; omega))
  intro p h0 h1 hb hc
  obtain ⟨s, hs, hc⟩ := hc
  exact mem_cl.mpr (h p h0 h1 hb ⟨s, fun x m => mem_cl.mp (hs x m), hc⟩)
theorem cl_nodup {c : Co} {t b : List Int} (h : t.Nodup) : (cl c t b).Nodup := by
  refine (srt_perm _).nodup_iff.mpr (List.nodup_append.mpr ⟨h, (rnds_nodup _ c t b).1, fun x hx y hy e => ?_⟩)
  subst e
  exact ((rnds_nodup _ c t b).2 x hy).1 hx
theorem cl_rng {c : Co} {t b : List Int} (h : ∀ x ∈ t, 0 ≤ x ∧ x < c.length) : ∀ x ∈ cl c t b, 0 ≤ x ∧ x < c.length := fun x hx => by
  rcases List.mem_append.mp (mem_cl.mp hx) with m | m
  · exact h x m
  · exact ((rnds_nodup _ c t b).2 x m).2
theorem cl_len (c : Co) (t b : List Int) : (t ++ (AR c t b).flatten).length ≤ t.length + c.length := by
  rw [List.length_append]
  have := rnds_flat (c.length + 1) c t b
  have := und_le c t
  unfold AR
  omega
theorem perm_of_mem {as bs : List Int} (h1 : as.Nodup) (h2 : bs.Nodup) (h : ∀ x, x ∈ as ↔ x ∈ bs) : as.Perm bs := (List.perm_ext_iff_of_nodup h1 h2).mpr h
def gr (c : Co) : List Int := cl c [] []
def nev (c : Co) : List Int := (rng c.length).filter fun p => !decide (p ∈ gr c)
end Ec
set_option Elab.async false
set_option linter.all false
namespace Ec
open PySem PySem.Spec PyProof.Rows L2
def boxD (x y z : Int) : List PyData := [.int x, .int y, .int z]
def BoxOk (m : Nat) (ds : List PyData) : Prop := ∃ x y z : Int, ds = boxD x y z ∧ 0 ≤ x ∧ 0 ≤ y ∧ y < 4611686018427387904 ∧ 0 ≤ z ∧ z ≤ m
theorem BoxOk.mono {m n : Nat} {ds : List PyData} (h : BoxOk m ds) (l : m ≤ n) : BoxOk n ds := by
  obtain ⟨x, y, z, e, h1, h2, h3, h4, h5⟩ := h
  exact ⟨x, y, z, e, h1, h2, h3, h4, by omega⟩
abbrev T_cell : TrD := fun xs μ R => ∃ (ns : List Int) (k : Nat), xs = [.s ns, .d (.int (k : Int))] ∧ R (.d (.int (ns.getD k 0))) μ
abbrev T_box : TrD := fun xs μ R => ∃ (ns : List Int) (k : Nat), xs = [.s ns, .d (.int (k : Int))] ∧ k ≤ 1000 ∧ ∀ q ds, BoxOk 0 ds → R (.a q) ((q, ds) :: μ)
abbrev T_takeN (lim c : Nat) : TrD := fun xs μ R => ∃ (b : Addr) (ds : List PyData) (n : Int) (m : Nat), xs = [.a b, .d (.int n)] ∧ μ = ([(b, ds)] : Cells) ∧ BoxOk m ds ∧ 0 < n ∧ n ≤ lim ∧ m ≤ 1000000000000 ∧ ∀ (r : Int) ds', 0 ≤ r → r < n → BoxOk (m + c) ds' → R (.d (.int r)) [(b, ds')]
abbrev T_take : TrD := T_takeN 10000000 1
structure CoW (c : Co) : Prop where
  up : ∀ e ∈ c, e.1.Pairwise (· < ·)
  nn : ∀ e ∈ c, 0 ≤ e.2
  nb : ∀ e ∈ c, e.2 ≤ 1000
  lt : ∀ e ∈ c, ∀ x ∈ e.1, 0 ≤ x ∧ x < c.length
  no : ∀ (i : Nat) (e : List Int × Int), c[i]? = some e → (i : Int) ∉ e.1
def enD (e : List Int × Int) : PyData := .tuple [.tuple (intsD e.1), .int e.2]
def coD (c : Co) : PyData := .tuple (c.map enD)
abbrev T_crowd_of : TrD := fun xs μ R => ∃ (b : Addr) (ds : List PyData) (n m : Nat), xs = [.a b, .d (.int (n : Int))] ∧ μ = ([(b, ds)] : Cells) ∧ BoxOk m ds ∧ n ≤ 40 ∧ m + 4000 ≤ 1000000000000 ∧ ∀ c ds', c.length = n → CoW c → BoxOk (m + 4000) ds' → R (.d (coD c)) [(b, ds')]
abbrev T_crowd : TrD := fun xs μ R => ∃ (b : Addr) (ds : List PyData) (n m : Nat), xs = [.a b, .d (.int (n : Int))] ∧ μ = ([(b, ds)] : Cells) ∧ BoxOk m ds ∧ n ≤ 40 ∧ m + 5000 ≤ 1000000000000 ∧ ∀ c ds', c.length ≤ n → CoW c → BoxOk (m + 5000) ds' → R (.d (coD c)) [(b, ds')]
def CoP (n : Nat) (c : Co) : Prop := ∀ (j : Nat) (e : List Int × Int), c[j]? = some e → e.1.Sublist (rng n) ∧ (j : Int) ∉ e.1 ∧ 0 ≤ e.2 ∧ e.2 ≤ 1000
theorem CoP.add {n : Nat} {c : Co} {e : List Int × Int} (h : CoP n c) (h1 : e.1.Sublist (rng n)) (h2 : (c.length : Int) ∉ e.1) (h3 : 0 ≤ e.2) (h4 : e.2 ≤ 1000) : CoP n (c ++ [e]) := fun j x hj => by
  by_cases hl : j < c.length
  · rw [List.getElem?_append_left hl] at hj
    exact h j x hj
  · rw [List.getElem?_append_right (by omega)] at hj
    have hz : j - c.length = 0 := by
      have := (List.getElem?_eq_some_iff.mp hj).1
      simp at this
      omega
    rw [hz] at hj
    cases hj
    rw [show j = c.length by omega]
    exact ⟨h1, h2, h3, h4⟩
theorem sub_rng {n : Nat} {l : List Int} (h : l.Sublist (rng n)) : l.Pairwise (· < ·) ∧ (∀ x ∈ l, 0 ≤ x ∧ x < n) ∧ l.length ≤ n := by
  refine ⟨?_, fun x hx => mem_rng.mp (h.mem hx), ?_⟩
  · refine List.Pairwise.sublist h ?_
    unfold rng
    rw [List.pairwise_map]
    exact List.pairwise_lt_range.imp fun h => by omega
  · have := h.length_le
    rw [rng_len] at this
    exact this
theorem rng_take_succ {n i : Nat} (h : i < n) : (rng n).take (i + 1) = (rng n).take i ++ [(i : Int)] := by
  rw [List.take_add_one]
  have : (rng n)[i]? = some (i : Int) := by
    unfold rng
    rw [List.getElem?_map, List.getElem?_range h]
    rfl
  rw [this]
  rfl
theorem CoP.whole {c : Co} (h : CoP c.length c) : CoW c where
  up := fun e he => by
    obtain ⟨j, hj⟩ := List.mem_iff_getElem?.mp he
    exact (sub_rng (h j e hj).1).1
  nn := fun e he => by
    obtain ⟨j, hj⟩ := List.mem_iff_getElem?.mp he
    exact (h j e hj).2.2.1
  nb := fun e he => by
    obtain ⟨j, hj⟩ := List.mem_iff_getElem?.mp he
    exact (h j e hj).2.2.2
  lt := fun e he => by
    obtain ⟨j, hj⟩ := List.mem_iff_getElem?.mp he
    exact (sub_rng (h j e hj).1).2.1
  no := fun j e hj => (h j e hj).2.1
abbrev T_cnt : TrD := fun xs μ R => ∃ dc c p dt t, xs = [.d dc, .d (.int p), .d dt] ∧ CoD dc c ∧ 0 ≤ p ∧ p < c.length ∧ SqD dt (intsD t) ∧ R (.d (.int (cnt c t p))) μ
abbrev T_can : TrD := fun xs μ R => ∃ dc c p dt t, xs = [.d dc, .d (.int p), .d dt] ∧ CoD dc c ∧ 0 ≤ p ∧ p < c.length ∧ SqD dt (intsD t) ∧ R (.d (.bool (comes c t p))) μ
abbrev T_next : TrD := fun xs μ R => ∃ dc c dt t, xs = [.d dc, .d dt] ∧ CoD dc c ∧ SqD dt (intsD t) ∧ ∀ q, R (.a q) ((q, intsD (nexts c t)) :: μ)
abbrev tups (rs : List (List Int)) : List PyData := rs.map fun r => .tuple (intsD r)
abbrev T_rounds : TrD := fun xs μ R => ∃ dc c dt t db b, xs = [.d dc, .d dt, .d db] ∧ CoD dc c ∧ SqD dt (intsD t) ∧ SqD db (intsD b) ∧ t.length ≤ 1000 ∧ ∀ q, R (.a q) ((q, tups (AR c t b)) :: μ)
abbrev T_closure : TrD := fun xs μ R => ∃ dc c dt t db b, xs = [.d dc, .d dt, .d db] ∧ CoD dc c ∧ SqD dt (intsD t) ∧ SqD db (intsD b) ∧ t.length + c.length < 64 ∧ R (.d (.tuple (intsD (cl c t b)))) μ
theorem asc_len {b : Int} : ∀ {l : List Int} {a : Int}, l.Pairwise (· < ·) → (∀ x ∈ l, a ≤ x ∧ x < b) → l.length ≤ (b - a).toNat
  | [], _, _, _ => Nat.zero_le _
  | x :: l, a, h, hb => by
    obtain ⟨h1, h2⟩ := List.pairwise_cons.mp h
    have hx := hb x List.mem_cons_self
    have := asc_len (a := x + 1) (b := b) h2 fun y hy => by
      have := h1 y hy
      have := hb y (List.mem_cons_of_mem _ hy)
      omega
    rw [List.length_cons]
    omega
theorem enD_ok (e : List Int × Int) : EnD (enD e) e := ⟨_, .inr rfl, .inr rfl⟩
theorem canLays_ints : ∀ ns : List Int, PyData.canLayAll0 (intsD ns) = true
  | [] => rfl
  | n :: ns => by
    show (PyData.canLay0 (.int n) && PyData.canLayAll0 (intsD ns)) = true
    rw [canLays_ints ns]
    rfl
theorem depth_ints : ∀ ns : List Int, PyData.depthAll (intsD ns) = 0
  | [] => rfl
  | n :: ns => by
    have := depth_ints ns
    simp only [intsD, List.map_cons, PyData.depthAll] at this ⊢
    rw [this]
    rfl
theorem shaped_tup (ns : List Int) : SeqAt.shaped (.tuple (intsD ns)) = true := by
  unfold SeqAt.shaped
  rw [Bool.and_eq_true_iff]
  refine ⟨canLays_ints ns, decide_eq_true ?_⟩
  simp only [PyData.depth, depth_ints]
  decide
theorem shaped_lst (ns : List Int) : SeqAt.shaped (.list (intsD ns)) = true := by
  unfold SeqAt.shaped
  rw [Bool.and_eq_true_iff]
  refine ⟨canLays_ints ns, decide_eq_true ?_⟩
  simp only [PyData.depth, depth_ints]
  decide
theorem eqvAll_ints : ∀ as bs : List Int, PyData.eqvAll (intsD as) (intsD bs) = decide (as = bs)
  | [], [] => rfl
  | [], b :: bs => rfl
  | a :: as, [] => rfl
  | a :: as, b :: bs => by
    show (PyData.eqv (.int a) (.int b) && PyData.eqvAll (intsD as) (intsD bs)) = _
    rw [eqvAll_ints as bs]
    simp only [PyData.eqv, List.cons.injEq, Bool.decide_and]
    congr 1
theorem eqv_tup (as bs : List Int) : PyData.eqv (.tuple (intsD as)) (.tuple (intsD bs)) = decide (as = bs) := eqvAll_ints as bs
theorem eqv_lst (as bs : List Int) : PyData.eqv (.list (intsD as)) (.list (intsD bs)) = decide (as = bs) := eqvAll_ints as bs
end Ec
set_option Elab.async false
set_option linter.all false
namespace Ec
open PySem PySem.Spec PyProof.Rows L2
structure Cls (c : Co) (t b tt : List Int) : Prop where
  nd : tt.Nodup
  base : ∀ x ∈ t, x ∈ tt
  low : ∀ S : Int → Prop, Shut c b S → (∀ x ∈ t, S x) → ∀ x ∈ tt, S x
  len : tt.length + und c tt ≤ t.length + c.length
theorem Cls.start {c : Co} {t b : List Int} (h : t.Nodup) : Cls c t b t := ⟨h, fun _ h => h, fun _ _ h => h, by have := und_le c t; omega⟩
theorem Cls.add {c : Co} {t b tt : List Int} {i : Int} (h : Cls c t b tt) (h0 : 0 ≤ i) (h1 : i < c.length) (h2 : i ∉ tt) (h3 : i ∉ b) (h4 : comes c tt i = true) : Cls c t b (tt ++ [i]) where
  nd := List.nodup_append.mpr ⟨h.nd, by simp, fun x hx y hy e => by
    rw [List.mem_singleton] at hy
    subst hy
    subst e
    exact h2 hx⟩
  base := fun x m => List.mem_append_left _ (h.base x m)
  low := fun S hS ht x m => by
    rcases List.mem_append.mp m with m | m
    · exact h.low S hS ht x m
    · rw [List.mem_singleton] at m
      subst m
      exact hS x h0 h1 h3 ⟨tt, h.low S hS ht, h4⟩
  len := by
    have := und_lt (c := c) (t := tt) (s := [i]) ⟨i, List.mem_singleton.mpr rfl, h2, h0, h1⟩
    have := h.len
    rw [List.length_append, List.length_singleton]
    omega
def fits : Nat → PyData → Bool
  | _, .none => true
  | _, .bool _ => true
  | _, .int _ => true
  | _, .str x => SeqAt.shaped (.str x)
  | 0, .list _ => false
  | 0, .tuple _ => false
  | n + 1, .list ds => decide (ds.length ≤ 1000) && ds.all (fits n)
  | n + 1, .tuple ds => decide (ds.length ≤ 1000) && ds.all (fits n)
  | _, .dict _ => false
abbrev T_same (n : Nat) : TrD := fun xs μ R => ∃ d, xs = [.d d, .d d] ∧ fits n d = true ∧ R (.d (.bool true)) μ
theorem all_true {α : Type} (l : List α) : ((l.map fun _ => true).all id) = true := by
  rw [List.all_map]
  exact List.all_eq_true.mpr fun _ _ => rfl
theorem zip_self (ds : List PyData) : zipD ds ds = ds.map fun d => .tuple [d, d] := by
  unfold zipD
  induction ds with
  | nil => rfl
  | cons d r ih =>
    rw [List.zipWith_cons_cons, ih]
    rfl
theorem filt_all {α : Type} (l : List α) : l.filter (fun _ => true) = l := List.filter_eq_self.mpr fun _ _ => rfl
theorem eqv_ii (i : Int) : PyData.eqv (.int i) (.int i) = true := by simp [PyData.eqv]
theorem eqv_bb (i : Bool) : PyData.eqv (.bool i) (.bool i) = true := by simp [PyData.eqv]
theorem eqv_ss (i : Str) : PyData.eqv (.str i) (.str i) = true := by simp [PyData.eqv]
theorem eqv_nn : PyData.eqv .none .none = true := by simp [PyData.eqv]
theorem fits_ints (n : Nat) (ns : List Int) (h : ns.length ≤ 1000) : fits (n + 1) (.list (intsD ns)) = true ∧ fits (n + 1) (.tuple (intsD ns)) = true := by
  have : (intsD ns).all (fits n) = true := List.all_eq_true.mpr fun d hd => by
    obtain ⟨i, _, rfl⟩ := List.mem_map.mp hd
    unfold fits
    rfl
  unfold fits
  rw [this, List.length_map]
  simp [h]
end Ec
set_option Elab.async false
set_option linter.all false
set_option maxRecDepth 100000
set_option maxHeartbeats 4000000
namespace Ec
open PySem PySem.Spec PyProof.Rows L2
section
variable {X : Cx} {δ : Dl} {μ : Cells} {e a b : Expr} {pos p : Pos} {Q : Vd → Cells → Prop} {D : Dn} {sts : List Stmt}
theorem wts_nil {Q : Bool → Cells → Prop} (h : Q true μ) : WTs X [] δ μ Q := h
end
theorem coD_ok' {c : Co} (hl : c.length ≤ 1000) (hf : ∀ e ∈ c, e.1.length ≤ 1000) : CoD (coD c) c where
  sq := ⟨_, .inr rfl, by
    have : ∀ l : Co, AllD EnD (l.map enD) l := fun l => by
      induction l with
      | nil => trivial
      | cons e r ih => exact ⟨enD_ok e, ih⟩
    exact this c⟩
  len := hl
  frs := hf
theorem CoW.frs {c : Co} (h : CoW c) (hl : c.length ≤ 40) : ∀ e ∈ c, e.1.length ≤ 1000 := fun e he => by
  have := asc_len (h.up e he) (h.lt e he)
  omega
theorem enD_fits {e : List Int × Int} (h : e.1.length ≤ 1000) : fits 2 (enD e) = true := by
  have := (fits_ints 0 e.1 h).2
  unfold enD fits
  simp only [List.all_cons, this, List.all_nil]
  rfl
theorem canLays_all : ∀ {ds : List PyData}, (∀ d ∈ ds, d.canLay0 = true) → PyData.canLayAll0 ds = true
  | [], _ => rfl
  | d :: ds, h => by
    show (PyData.canLay0 d && PyData.canLayAll0 ds) = true
    rw [h d List.mem_cons_self, canLays_all fun x m => h x (List.mem_cons_of_mem _ m)]
    rfl
theorem depths_le {k : Nat} : ∀ {ds : List PyData}, (∀ d ∈ ds, d.depth ≤ k) → PyData.depthAll ds ≤ k
  | [], _ => Nat.zero_le _
  | d :: ds, h => by
    simp only [PyData.depthAll]
    exact Nat.max_le.mpr ⟨h d List.mem_cons_self, depths_le fun x m => h x (List.mem_cons_of_mem _ m)⟩
theorem eqvs_self : ∀ {ds : List PyData}, (∀ d ∈ ds, PyData.eqv d d = true) → PyData.eqvAll ds ds = true
  | [], _ => rfl
  | d :: ds, h => by
    show (PyData.eqv d d && PyData.eqvAll ds ds) = true
    rw [h d List.mem_cons_self, eqvs_self fun x m => h x (List.mem_cons_of_mem _ m)]
    rfl
theorem fits_all : ∀ (n : Nat) (d : PyData), fits n d = true → d.canLay0 = true ∧ d.depth ≤ n ∧ PyData.eqv d d = true
  | n, .none, _ => ⟨rfl, Nat.zero_le _, eqv_nn⟩
  | n, .bool b, _ => ⟨rfl, Nat.zero_le _, eqv_bb b⟩
  | n, .int i, _ => ⟨rfl, Nat.zero_le _, eqv_ii i⟩
  | n, .str x, h => by
    have h' : SeqAt.shaped (.str x) = true := by
      unfold fits at h
      exact h
    unfold SeqAt.shaped at h'
    rw [Bool.and_eq_true_iff] at h'
    exact ⟨h'.1, Nat.zero_le _, eqv_ss x⟩
  | 0, .list ds, h => by simp [fits] at h
  | 0, .tuple ds, h => by simp [fits] at h
  | n, .dict ds, h => by simp [fits] at h
  | n + 1, .list ds, h => by
    simp [fits] at h
    have ih := fun d m => fits_all n d (h.2 d m)
    exact ⟨canLays_all fun d m => (ih d m).1, by simp only [PyData.depth]; exact Nat.succ_le_succ (depths_le fun d m => (ih d m).2.1), eqvs_self fun d m => (ih d m).2.2⟩
  | n + 1, .tuple ds, h => by
    simp [fits] at h
    have ih := fun d m => fits_all n d (h.2 d m)
    exact ⟨canLays_all fun d m => (ih d m).1, by simp only [PyData.depth]; exact Nat.succ_le_succ (depths_le fun d m => (ih d m).2.1), eqvs_self fun d m => (ih d m).2.2⟩
theorem fits_shaped {n : Nat} {d : PyData} (h : fits n d = true) (hn : n ≤ 64 := by decide) : SeqAt.shaped d = true := by
  obtain ⟨h1, h2, _⟩ := fits_all n d h
  unfold SeqAt.shaped
  rw [h1, Bool.true_and]
  exact decide_eq_true (Nat.le_trans h2 hn)
theorem fits_tup {n : Nat} {ds : List PyData} (hl : ds.length ≤ 1000) (h : ∀ d ∈ ds, fits n d = true) : fits (n + 1) (.tuple ds) = true := by
  unfold fits
  rw [decide_eq_true hl, List.all_eq_true.mpr h]
  rfl
theorem fits_lst {n : Nat} {ds : List PyData} (hl : ds.length ≤ 1000) (h : ∀ d ∈ ds, fits n d = true) : fits (n + 1) (.list ds) = true := by
  unfold fits
  rw [decide_eq_true hl, List.all_eq_true.mpr h]
  rfl
theorem coD_fits {c : Co} (hl : c.length ≤ 1000) (hf : ∀ e ∈ c, e.1.length ≤ 1000) : fits 3 (coD c) = true := fits_tup (by rw [List.length_map]; exact hl) fun d m => by
  obtain ⟨e, he, rfl⟩ := List.mem_map.mp m
  exact enD_fits (hf e he)
theorem cutZ_take {ds : List PyData} {k : Nat} (h : k ≤ ds.length) : cutZ ds none (some (k : Int)) = ds.take k := by
  unfold cutZ
  rw [HT.sIx_none, HT.sIx_nat, Nat.min_eq_left h, Nat.sub_zero]
  rfl
section
variable {X : Cx} {δ : Dl} {μ : Cells}
theorem wo_none {QO : Option Int → Cells → Prop} (h : QO none μ) : WO X none δ μ QO := h
theorem wo_some {e : Expr} {QO : Option Int → Cells → Prop} (h : WE X e δ μ fun z μ1 => ∃ i, z = .d (.int i) ∧ QO (some i) μ1) : WO X (some e) δ μ QO := h
end
abbrev T_right (k : Nat) : TrD := fun xs μ R => ∃ (b : Addr) (ds : List PyData) (m : Nat), xs = [.a b] ∧ μ = ([(b, ds)] : Cells) ∧ BoxOk m ds ∧ m + k ≤ 1000000000000 ∧ ∀ ds', BoxOk (m + k) ds' → R (.d (.bool true)) [(b, ds')]
section
variable {X : Cx} {δ : Dl} {μ : Cells} {D : Dn} {st : Stmt}
end
abbrev T_law : TrD := fun xs μ R => ∃ ns : List Int, xs = [.s ns] ∧ ns.length ≤ 63 ∧ μ = [] ∧ R (.d (.bool true)) []
theorem law_end {K : PySem.W.Frag} {vs : List V} {H : Hp} {Q : VK} {E : XK} (h : ∃ (a : Addr) (ns : List Int), vs = [.ref a] ∧ SqL K H a (ns.map V.int) ∧ ns.length ≤ 63 ∧ ∀ H', Q (.bl true) H') : spW K T_law vs H Q E := by
  obtain ⟨a, ns, rfl, hs, hl, q⟩ := h
  refine ⟨H, [.s ns], [], fun z _ => z = .d (.bool true), ⟨Same.refl _, List.nodup_nil, fun _ _ z => by cases z⟩, .cons ⟨a, rfl, hs⟩ .nil, ⟨ns, rfl, hl, rfl, rfl⟩, fun v x F' H' μ' _ _ o e => ?_⟩
  subst e
  rw [dp_bl o]
  exact q H'
end Ec
set_option Elab.async false
set_option linter.all false
set_option maxRecDepth 100000
set_option maxHeartbeats 4000000
namespace Ec
open PySem PySem.Spec PyProof.Rows L2
section
variable {prog : Program} {w : World} {A : Around} {E : Value → Shared → Prop} {s : Shared}
end
section
variable {X : Cx} {δ : Dl} {μ : Cells} {e a b : Expr} {pos p : Pos} {Q : Vd → Cells → Prop} {es : List Expr} {mg : Str → Option Value}
def posn (v : Int) : List Int → Nat
  | [] => 0
  | x :: r => if x = v then 0 else posn v r + 1
theorem posn_at {v : Int} : ∀ {ns : List Int}, v ∈ ns → ns[posn v ns]? = some v ∧ ∀ m : Nat, m < posn v ns → ∀ z, ns[m]? = some z → z ≠ v
  | [], h => by cases h
  | x :: r, h => by
    unfold posn
    by_cases e : x = v
    · rw [if_pos e]
      exact ⟨by rw [e]; rfl, fun m h => absurd h (Nat.not_lt_zero _)⟩
    · rw [if_neg e]
      rcases List.mem_cons.mp h with h | h
      · exact absurd h.symm e
      · obtain ⟨h1, h2⟩ := posn_at h
        refine ⟨by simpa using h1, fun m hm z hz => ?_⟩
        cases m with
        | zero =>
          simp at hz
          rw [← hz]
          exact e
        | succ m => exact h2 m (by omega) z (by simpa using hz)
theorem wt_chain {op op' : CmpOp} {r r' : R2} {c : Expr} {T : Bool → Cells → Prop} (ho : OpR X (compareOp op) r) (ho' : OpR X (compareOp op') r') (h : WE X a δ μ fun x μ1 => WE X b δ μ1 fun y μ2 => OpW X.K r x y μ2 fun z μ3 => ∃ k, z = .d (.bool k) ∧ if k = true then ∀ y', y' = y → WE X c δ μ3 fun w μ4 => OpW X.K r' y' w μ4 fun z μ5 => ∃ k, z = .d (.bool k) ∧ T k μ5 else T false μ3)
    (hm : lastMarks [op, op'] [b, c] = false := by with_unfolding_all rfl) : WT X (.Compare a [op, op'] [b, c] pos) δ μ T := fun F H σ R QV cc =>
  toT (pt_chain ho ho' (pcE X a) (pcE X b) (pcE X c) hm) (h F H σ R _ fun v x F1 H1 μ1 w1 R1 o1 q1 => q1 F1 H1 σ R1 _ fun u y F2 H2 μ2 w2 R2 o2 q2 => q2 F2 H2 v u R2.m (o1.up w2.f) o2 _ fun z w F3 H3 μ3 w3 m3 o3 q3 => by
    obtain ⟨k, rfl, q3⟩ := q3
    refine ⟨k, dp_bl o3, ?_⟩
    have R3 := R2.to w3.f m3
    have wa := (w1.trans w2).trans w3
    cases k with
    | true => exact (q3 y rfl) F3 H3 σ R3 _ fun w' x4 F4 H4 μ4 w4 R4 o4 q4 => q4 F4 H4 u w' R4.m (o2.up (w3.f.trans w4.f)) o4 _ fun z5 w5' F5 H5 μ5 w5 m5 o5 q5 => by
                obtain ⟨k5, rfl, q5⟩ := q5
                exact ⟨k5, dp_bl o5, cc k5 F5 H5 μ5 ((wa.trans w4).trans w5) (R4.to w5.f m5) q5⟩
    | false => exact ⟨false, rfl, cc false F3 H3 μ3 wa R3 q3⟩)
theorem ow_isB {K : PySem.W.Frag} {i j : Bool} (h : Q (.d (.bool (decide (i = j)))) μ) : OpW K (fun x y H Q => ∃ a b, x = .bl a ∧ y = .bl b ∧ Q (.bl (decide (a = b))) H) (.d (.bool i)) (.d (.bool j)) μ Q := fun F H v u m o1 o2 QV c =>
  ⟨i, j, dp_bl o1, dp_bl o2, c (.d (.bool _)) _ F H μ Fw.refl m (.bl _) h⟩
theorem ow_inB {K : PySem.W.Frag} {i j : Bool} (h : Q (.d (.bool (!decide (i = j)))) μ) : OpW K (fun x y H Q => ∃ a b, x = .bl a ∧ y = .bl b ∧ Q (.bl (!decide (a = b))) H) (.d (.bool i)) (.d (.bool j)) μ Q := fun F H v u m o1 o2 QV c =>
  ⟨i, j, dp_bl o1, dp_bl o2, c (.d (.bool _)) _ F H μ Fw.refl m (.bl _) h⟩
end
end Ec
set_option Elab.async false
set_option linter.all false
namespace Ec
open PySem PySem.Spec PyProof.Rows L2
def misL (c : Co) (r : List Int) : List Nat := (List.range r.length).filter fun i => !comes c (r.take i) (r.getD i 0)
def bh (c : Co) (p : Int) : List Int := (rng c.length).filter fun o => !decide (o = p) && !decide (o ∈ cl c [] [p])
def duoD (q : Int × Int) : PyData := .tuple [.int q.1, .int q.2]
def prs (n : Nat) : List (Int × Int) := (rng n).flatMap fun lo => ((rng n).filter fun h => decide (lo < h)).map fun h => (lo, h)
def mb (c : Co) : List (Int × Int) := (rng c.length).flatMap fun p => (bh c p).map fun o => (p, o)
def fp (c : Co) : List (Int × Int) := (prs c.length).filter fun q => !decide (q ∈ mb c) && !decide ((q.2, q.1) ∈ mb c)
def er (c : Co) (p : Int) : List Int := ((rng c.length).filter fun o => !decide (o = p)).filter fun o => decide (p ∈ bh c o)
abbrev T_lookp : TrD := fun xs μ R => ∃ dc c p, xs = [.d dc, .d (.int p)] ∧ CoD dc c ∧ 0 ≤ p ∧ p < c.length ∧ R (.d .none) μ
theorem pr_fits (q : Int × Int) : fits 1 (duoD q) = true := by
  unfold duoD fits
  simp only [List.all_cons, List.all_nil]
  unfold fits
  rfl
theorem shaped_lst' {n : Nat} {ds : List PyData} (h : ∀ d ∈ ds, fits n d = true) (hn : n + 1 ≤ 64 := by decide) : SeqAt.shaped (.list ds) = true := by
  have ih := fun d m => fits_all n d (h d m)
  unfold SeqAt.shaped
  rw [Bool.and_eq_true_iff]
  refine ⟨canLays_all fun d m => (ih d m).1, decide_eq_true ?_⟩
  simp only [PyData.depth]
  exact Nat.le_trans (Nat.succ_le_succ (depths_le fun d m => (ih d m).2.1)) hn
theorem prs_shaped (l : List (Int × Int)) : SeqAt.shaped (.list (l.map duoD)) = true := shaped_lst' (n := 1) fun d m => by
  obtain ⟨q, _, rfl⟩ := List.mem_map.mp m
  exact pr_fits q
end Ec
set_option Elab.async false
set_option linter.all false
set_option maxRecDepth 100000
set_option maxHeartbeats 4000000
namespace Ec
theorem cnt_two {α : Type} (f : α → Bool) : ∀ L : List α, (L.filter f).length + (L.filter fun p => !f p).length = L.length
  | [] => rfl
  | x :: r => by
    have := cnt_two f r
    rw [List.filter_cons, List.filter_cons]
    cases hf : f x <;> simp <;> omega
theorem nodup_le {as bs : List Int} (ha : as.Nodup) (hb : bs.Nodup) (h : ∀ x ∈ as, x ∈ bs) : as.length ≤ bs.length := by
  have p : as.Perm (bs.filter fun x => decide (x ∈ as)) := perm_of_mem ha (hb.filter _) fun x => by
    rw [List.mem_filter]
    exact ⟨fun m => ⟨h x m, decide_eq_true m⟩, fun m => of_decide_eq_true m.2⟩
  rw [p.length_eq]
  exact List.length_filter_le _ _
theorem len_und {c : Co} {t : List Int} (h : t.Nodup) (hr : ∀ x ∈ t, 0 ≤ x ∧ x < c.length) : t.length + und c t = c.length := by
  have p : t.Perm ((rng c.length).filter fun x => decide (x ∈ t)) := perm_of_mem h ((rng_nodup _).filter _) fun x => by
    rw [List.mem_filter]
    exact ⟨fun m => ⟨mem_rng.mpr (hr x m), decide_eq_true m⟩, fun m => of_decide_eq_true m.2⟩
  have := cnt_two (fun x => decide (x ∈ t)) (rng c.length)
  rw [rng_len] at this
  unfold und
  rw [p.length_eq]
  exact this
theorem gr_nodup (c : Co) : (gr c).Nodup := cl_nodup List.nodup_nil
theorem gr_rng (c : Co) : ∀ x ∈ gr c, 0 ≤ x ∧ x < c.length := cl_rng fun x h => by cases h
theorem whole_iff (c : Co) : nev c = [] ↔ ∀ p : Int, 0 ≤ p → p < c.length → p ∈ gr c := by
  unfold nev
  rw [List.filter_eq_nil_iff]
  constructor
  · intro h p h0 h1
    have := h p (mem_rng.mpr ⟨h0, h1⟩)
    simpa using this
  · intro h p hp
    have := mem_rng.mp hp
    simpa using h p this.1 this.2
theorem whole_len {c : Co} (h : nev c = []) : (gr c).length = c.length := by
  have h1 := nodup_le (gr_nodup c) (rng_nodup c.length) fun x m => mem_rng.mpr (gr_rng c x m)
  have h2 := nodup_le (rng_nodup c.length) (gr_nodup c) fun x m => (whole_iff c).mp h x (mem_rng.mp m).1 (mem_rng.mp m).2
  rw [rng_len] at h1 h2
  omega
theorem fr_set {c : Co} {s : Nat} {e : List Int × Int} {k : Int} (he : c[s]? = some e) (p : Int) : fr (c.set s (e.1, k)) p = fr c p := by
  unfold fr
  rw [List.getD_eq_getElem?_getD, List.getD_eq_getElem?_getD]
  by_cases hs : s = p.toNat
  · have hl := (List.getElem?_eq_some_iff.mp he).1
    rw [← hs, List.getElem?_set_self hl, he]
    rfl
  · rw [List.getElem?_set_ne hs]
theorem nd_set {c : Co} {s : Nat} {e : List Int × Int} {k : Int} (he : c[s]? = some e) (p : Int) : nd (c.set s (e.1, k)) p = if s = p.toNat then k else nd c p := by
  unfold nd
  rw [List.getD_eq_getElem?_getD, List.getD_eq_getElem?_getD]
  by_cases hs : s = p.toNat
  · have hl := (List.getElem?_eq_some_iff.mp he).1
    rw [if_pos hs, ← hs, List.getElem?_set_self hl]
    rfl
  · rw [List.getElem?_set_ne hs, if_neg hs]
theorem cnt_set {c : Co} {s : Nat} {e : List Int × Int} {k : Int} (he : c[s]? = some e) (t : List Int) (p : Int) : cnt (c.set s (e.1, k)) t p = cnt c t p := by
  unfold cnt
  rw [fr_set he]
structure POrd (c : Co) (r : List Int) : Prop where
  nd : r.Nodup
  rg : ∀ x ∈ r, 0 ≤ x ∧ x < c.length
  ok : ∀ i : Nat, ∀ x, r[i]? = some x → comes c (r.take i) x = true
theorem POrd.nil (c : Co) : POrd c [] := ⟨List.nodup_nil, fun x h => (by cases h), fun i x h => (by simp at h)⟩
theorem POrd.add {c : Co} {r : List Int} {x : Int} (h : POrd c r) (h0 : 0 ≤ x) (h1 : x < c.length) (h2 : x ∉ r) (h3 : comes c r x = true) : POrd c (r ++ [x]) where
  nd := List.nodup_append.mpr ⟨h.nd, by simp, fun a ha b hb e => by
    rw [List.mem_singleton] at hb
    subst hb
    subst e
    exact h2 ha⟩
  rg := fun y m => by
    rcases List.mem_append.mp m with m | m
    · exact h.rg y m
    · rw [List.mem_singleton] at m
      subst m
      exact ⟨h0, h1⟩
  ok := fun i y hy => by
    by_cases hi : i < r.length
    · rw [List.getElem?_append_left hi] at hy
      rw [List.take_append_of_le_length (by omega)]
      exact h.ok i y hy
    · have hl := (List.getElem?_eq_some_iff.mp hy).1
      rw [List.length_append, List.length_singleton] at hl
      have e : i = r.length := by omega
      subst e
      rw [List.getElem?_append_right (Nat.le_refl _), Nat.sub_self] at hy
      cases hy
      rw [List.take_append_of_le_length (Nat.le_refl _), List.take_length]
      exact h3
theorem POrd.take {c : Co} {r : List Int} (h : POrd c r) (k : Nat) : POrd c (r.take k) where
  nd := h.nd.sublist (List.take_sublist _ _)
  rg := fun x m => h.rg x (List.mem_of_mem_take m)
  ok := fun i x hx => by
    have hl := (List.getElem?_eq_some_iff.mp hx).1
    rw [List.length_take] at hl
    rw [List.getElem?_take_of_lt (by omega)] at hx
    rw [List.take_take, Nat.min_eq_left (by omega)]
    exact h.ok i x hx
theorem POrd.len {c : Co} {r : List Int} (h : POrd c r) : r.length ≤ c.length := by
  have := nodup_le h.nd (rng_nodup c.length) fun x m => mem_rng.mpr (h.rg x m)
  rw [rng_len] at this
  exact this
theorem POrd.more {c : Co} {r : List Int} (h : POrd c r) (hw : nev c = []) (hl : r.length < c.length) : ∃ x : Int, 0 ≤ x ∧ x < c.length ∧ x ∉ r ∧ comes c r x = true := by
  apply Classical.byContradiction
  intro hn
  have hS : Shut c [] (fun x => x ∈ r) := fun p h0 h1 _ ⟨t, ht, hc⟩ => by
    apply Classical.byContradiction
    intro hp
    exact hn ⟨p, h0, h1, hp, comes_mono ht hc⟩
  have hin := cl_in (t := []) hS (fun x h => by cases h)
  have := nodup_le (gr_nodup c) h.nd hin
  rw [whole_len hw] at this
  omega
theorem POrd.sub {c : Co} {s : Int} : ∀ {r : List Int}, POrd c r → s ∉ r → ∀ x ∈ r, x ∈ cl c [] [s] := fun {r} h hs => by
  have key : ∀ k, ∀ x ∈ r.take k, x ∈ cl c [] [s] := fun k => by
    induction k with
    | zero => intro x hx; simp at hx
    | succ k ih =>
      intro x hx
      cases q : r[k]? with
      | none =>
        rw [List.take_add_one, q] at hx
        exact ih x (by simpa using hx)
      | some y =>
        rw [List.take_add_one, q] at hx
        rcases List.mem_append.mp hx with hx | hx
        · exact ih x hx
        · have e : x = y := by simpa using hx
          subst e
          have hm := List.mem_of_getElem? q
          refine cl_shut c [] [s] x (h.rg x hm).1 (h.rg x hm).2 ?_ ⟨r.take k, ih, h.ok k x q⟩
          intro z
          rw [List.mem_singleton] at z
          exact hs (z ▸ hm)
  intro x hx
  refine key r.length x ?_
  rw [List.take_length]
  exact hx
structure IsOrd (c : Co) (r : List Int) : Prop where
  po : POrd c r
  len : r.length = c.length
theorem IsOrd.mem {c : Co} {r : List Int} (h : IsOrd c r) {x : Int} (h0 : 0 ≤ x) (h1 : x < c.length) : x ∈ r := by
  have p : und c r = 0 := by
    have := len_und h.po.nd h.po.rg
    have := h.len
    omega
  unfold und at p
  have := List.filter_eq_nil_iff.mp (List.length_eq_zero_iff.mp p) x (mem_rng.mpr ⟨h0, h1⟩)
  simpa using this
theorem IsOrd.perm {c : Co} {r : List Int} (h : IsOrd c r) : r.Perm (rng c.length) := perm_of_mem h.po.nd (rng_nodup _) fun x => ⟨fun m => mem_rng.mpr (h.po.rg x m), fun m => h.mem (mem_rng.mp m).1 (mem_rng.mp m).2⟩
theorem rng_up (n : Nat) : (rng n).Pairwise (· ≤ ·) := by
  unfold rng
  rw [List.pairwise_map]
  exact List.pairwise_lt_range.imp fun h => by omega
theorem misL_nil {c : Co} {r : List Int} (h : POrd c r) : misL c r = [] := by
  unfold misL
  refine List.filter_eq_nil_iff.mpr fun i hi => ?_
  have hl := List.mem_range.mp hi
  have := h.ok i r[i] (List.getElem?_eq_getElem hl)
  rw [List.getD_eq_getElem?_getD, List.getElem?_eq_getElem hl]
  simp [this]
theorem posn_lt {v : Int} {r : List Int} (h : v ∈ r) : posn v r < r.length := (List.getElem?_eq_some_iff.mp (posn_at h).1).1
theorem posn_take {v : Int} {r : List Int} (h : v ∈ r) : v ∉ r.take (posn v r) := fun z => by
  obtain ⟨k, hk⟩ := List.mem_iff_getElem?.mp z
  have hl := (List.getElem?_eq_some_iff.mp hk).1
  rw [List.length_take] at hl
  rw [List.getElem?_take_of_lt (by omega)] at hk
  exact (posn_at h).2 k (by omega) v hk rfl
theorem mem_bh {c : Co} {p o : Int} : o ∈ bh c p ↔ (0 ≤ o ∧ o < c.length) ∧ o ≠ p ∧ o ∉ cl c [] [p] := by
  unfold bh
  rw [List.mem_filter, mem_rng]
  simp
structure Led (c : Co) (s : Int) (r : List Int) : Prop where
  po : POrd c r
  off : s ∈ r → ∀ x ∈ cl c [] [s], x ∈ r.take (posn s r)
theorem posn_app {v : Int} {r q : List Int} (h : v ∈ r) : posn v (r ++ q) = posn v r := by
  induction r with
  | nil => cases h
  | cons x t ih =>
    show (if x = v then 0 else posn v (t ++ q) + 1) = if x = v then 0 else posn v t + 1
    split
    · rfl
    · rename_i hx
      rcases List.mem_cons.mp h with h | h
      · exact absurd h.symm hx
      · rw [ih h]
theorem posn_end {v : Int} {r : List Int} (h : v ∉ r) : posn v (r ++ [v]) = r.length := by
  induction r with
  | nil => simp [posn]
  | cons x t ih =>
    show (if x = v then 0 else posn v (t ++ [v]) + 1) = t.length + 1
    rw [if_neg (fun e : x = v => h (by rw [← e]; exact List.mem_cons_self)), ih fun m => h (List.mem_cons_of_mem _ m)]
theorem Led.nil (c : Co) (s : Int) : Led c s [] := ⟨POrd.nil c, fun h => (by cases h)⟩
theorem Led.other {c : Co} {s : Int} {r : List Int} {x : Int} (h : Led c s r) (hp : POrd c (r ++ [x])) (hx : s ∈ r ∨ x ≠ s) : Led c s (r ++ [x]) := ⟨hp, fun m y hy => by
  rcases List.mem_append.mp m with m | m
  · rw [posn_app m, List.take_append_of_le_length (Nat.le_of_lt (posn_lt m))]
    exact h.off m y hy
  · rw [List.mem_singleton] at m
    rcases hx with hx | hx
    · rw [posn_app hx, List.take_append_of_le_length (Nat.le_of_lt (posn_lt hx))]
      exact h.off hx y hy
    · exact absurd m.symm hx⟩
theorem Led.self {c : Co} {s : Int} {r : List Int} (h : Led c s r) (hp : POrd c (r ++ [s])) (hs : s ∉ r) (hno : ∀ x : Int, 0 ≤ x → x < c.length → x ∉ r → comes c r x = true → x = s) : Led c s (r ++ [s]) := ⟨hp, fun _ y hy => by
  rw [posn_end hs, List.take_append_of_le_length (Nat.le_refl _), List.take_length]
  refine cl_in (t := []) (fun p h0 h1 hb ⟨t, ht, hc⟩ => ?_) (fun x h => by cases h) y hy
  apply Classical.byContradiction
  intro hn
  exact hb (List.mem_singleton.mpr (hno p h0 h1 hn (comes_mono ht hc)))⟩
theorem Led.set {c : Co} {s : Int} {r : List Int} (h : Led c s r) (hs : s ∈ r) (x : Int) : x ∈ r.take (posn s r) ↔ x ∈ cl c [] [s] := ⟨(h.po.take _).sub (posn_take hs) x, h.off hs x⟩
theorem Led.rest {c : Co} {s : Int} {r : List Int} (h : Led c s r) (hl : r.length = c.length) (h0 : 0 ≤ s) (h1 : s < c.length) : srt (r.drop (posn s r + 1)) = bh c s := by
  have ho : IsOrd c r := ⟨h.po, hl⟩
  have hs := ho.mem h0 h1
  have nd2 : (r.drop (posn s r + 1)).Nodup := h.po.nd.sublist (List.drop_sublist _ _)
  have split : ∀ x, x ∈ r ↔ x ∈ r.take (posn s r) ∨ x = s ∨ x ∈ r.drop (posn s r + 1) := fun x => by
    have e : r = r.take (posn s r) ++ (s :: r.drop (posn s r + 1)) := by
      have h2 := (posn_at hs).1
      obtain ⟨hl2, e2⟩ := List.getElem?_eq_some_iff.mp h2
      conv => lhs; rw [← List.take_append_drop (posn s r) r]
      rw [List.drop_eq_getElem_cons hl2, e2]
    constructor
    · intro m
      rw [e] at m
      rcases List.mem_append.mp m with m | m
      · exact .inl m
      · rcases List.mem_cons.mp m with m | m
        · exact .inr (.inl m)
        · exact .inr (.inr m)
    · rintro (m | rfl | m)
      · exact List.mem_of_mem_take m
      · exact hs
      · exact List.mem_of_mem_drop m
  have dis : ∀ x, x ∈ r.drop (posn s r + 1) → x ∉ r.take (posn s r) ∧ x ≠ s := fun x m => by
    have nd := h.po.nd
    rw [← List.take_append_drop (posn s r + 1) r] at nd
    have d := (List.nodup_append.mp nd).2.2
    have e3 : r.take (posn s r + 1) = r.take (posn s r) ++ [s] := by rw [List.take_add_one, (posn_at hs).1]; rfl
    rw [e3] at d
    exact ⟨fun z => d x (List.mem_append_left _ z) x m rfl, fun z => d s (List.mem_append_right _ (List.mem_singleton.mpr rfl)) x m z.symm⟩
  have up : (bh c s).Pairwise (· ≤ ·) := (rng_up _).sublist List.filter_sublist
  refine srt_one ((srt_perm _).trans ?_) (srt_up _) up
  refine perm_of_mem nd2 ((rng_nodup _).filter _) fun x => ?_
  rw [mem_bh, ← h.set hs]
  constructor
  · intro m
    exact ⟨h.po.rg x (List.mem_of_mem_drop m), (dis x m).2, (dis x m).1⟩
  · rintro ⟨hr, hn, hx⟩
    rcases (split x).mp (ho.mem hr.1 hr.2) with m | m | m
    · exact absurd m hx
    · exact absurd m hn
    · exact m
section
open PySem PySem.Spec PyProof.Rows L2
def Eas (c c' : Co) : Prop := ∀ (i : Nat) (e : List Int × Int), c[i]? = some e → ∃ k, c'[i]? = some (e.1, k) ∧ (k = e.2 ∨ (0 ≤ k ∧ k ≤ e.2))
theorem Eas.refl (c : Co) : Eas c c := fun i e h => ⟨e.2, h, .inl rfl⟩
theorem Eas.step {c0 c : Co} (h : Eas c0 c) {s : Nat} {e : List Int × Int} (he : c[s]? = some e) (hs : (s : Int) ∉ gr c) : Eas c0 (c.set s (e.1, cnt c (gr c) s)) := fun i e0 h0 => by
  obtain ⟨k, h1, h2⟩ := h i e0 h0
  have hl := (List.getElem?_eq_some_iff.mp he).1
  by_cases q : s = i
  · subst q
    rw [he] at h1
    cases h1
    refine ⟨cnt c (gr c) s, List.getElem?_set_self hl, .inr ⟨by unfold cnt; omega, ?_⟩⟩
    have hn : comes c (gr c) s ≠ true := fun z => hs (cl_shut c [] [] s (by omega) (by omega) (by simp) ⟨gr c, fun _ h => h, z⟩)
    unfold comes at hn
    have hd : nd c (s : Int) = k := by
      unfold nd
      rw [Int.toNat_natCast, List.getD_eq_getElem?_getD, he]
      rfl
    rw [hd] at hn
    have hn' : ¬ k ≤ cnt c (gr c) (s : Int) := fun z => hn (decide_eq_true z)
    rcases h2 with h2 | h2 <;> omega
  · exact ⟨k, by rw [List.getElem?_set_ne q]; exact h1, h2⟩
abbrev T_of : TrD := fun xs μ R => ∃ (b : Addr) (bs ds : List PyData) (m : Nat), xs = [.a b, .d (.list ds)] ∧ μ = ([(b, bs)] : Cells) ∧ BoxOk m bs ∧ ds ≠ [] ∧ ds.length ≤ 1000000 ∧ m ≤ 1000000000000 ∧ ∀ d ∈ ds, ∀ bs', BoxOk (m + 1) bs' → R (.d d) [(b, bs')]
end
end Ec
set_option Elab.async false
set_option linter.all false
set_option maxRecDepth 100000
set_option maxHeartbeats 4000000
namespace Ec
theorem mem_mb {c : Co} {p o : Int} : (p, o) ∈ mb c ↔ (0 ≤ p ∧ p < c.length) ∧ o ∈ bh c p := by
  unfold mb
  simp only [List.mem_flatMap, List.mem_map, Prod.mk.injEq]
  constructor
  · rintro ⟨x, hx, y, hy, rfl, rfl⟩
    exact ⟨mem_rng.mp hx, hy⟩
  · rintro ⟨h, ho⟩
    exact ⟨p, mem_rng.mpr h, o, ho, rfl, rfl⟩
theorem mem_prs {n : Nat} {a b : Int} : (a, b) ∈ prs n ↔ 0 ≤ a ∧ a < b ∧ b < n := by
  unfold prs
  simp only [List.mem_flatMap, List.mem_map, List.mem_filter, Prod.mk.injEq]
  constructor
  · rintro ⟨x, hx, y, ⟨hy, hl⟩, rfl, rfl⟩
    have := mem_rng.mp hx
    have := mem_rng.mp hy
    have := of_decide_eq_true hl
    omega
  · rintro ⟨h1, h2, h3⟩
    exact ⟨a, mem_rng.mpr ⟨h1, by omega⟩, b, ⟨mem_rng.mpr ⟨by omega, h3⟩, decide_eq_true h2⟩, rfl, rfl⟩
theorem map_nodup {α β : Type} {f : α → β} (hf : ∀ x y, f x = f y → x = y) {l : List α} (h : l.Nodup) : (l.map f).Nodup := by
  rw [List.nodup_iff_pairwise_ne, List.pairwise_map]
  exact (List.nodup_iff_pairwise_ne.mp h).imp fun hn e => hn (hf _ _ e)
section
open PySem PySem.Spec PyProof.Rows L2
end
end Ec
set_option Elab.async false
set_option linter.all false
namespace Ec
open PySem PySem.Spec PyProof.Rows L2
theorem mem_fp {c : Co} {a b : Int} : (a, b) ∈ fp c ↔ 0 ≤ a ∧ a < b ∧ b < c.length ∧ (a, b) ∉ mb c ∧ (b, a) ∉ mb c := by
  unfold fp
  rw [List.mem_filter, mem_prs]
  simp [and_assoc]
mutual
theorem fits_up : ∀ (n : Nat) (d : PyData), fits n d = true → fits (n + 1) d = true
  | _, .none, _ => by unfold fits; rfl
  | _, .bool _, _ => by unfold fits; rfl
  | _, .int _, _ => by unfold fits; rfl
  | _, .str x, h => by
    unfold fits at h ⊢
    exact h
  | 0, .list _, h => by unfold fits at h; cases h
  | 0, .tuple _, h => by unfold fits at h; cases h
  | n + 1, .list ds, h => by
    unfold fits at h ⊢
    rw [Bool.and_eq_true_iff] at h ⊢
    exact ⟨h.1, fits_ups n ds h.2⟩
  | n + 1, .tuple ds, h => by
    unfold fits at h ⊢
    rw [Bool.and_eq_true_iff] at h ⊢
    exact ⟨h.1, fits_ups n ds h.2⟩
  | n, .dict _, h => by cases n <;> (unfold fits at h; cases h)
theorem fits_ups : ∀ (n : Nat) (ds : List PyData), ds.all (fits n) = true → ds.all (fits (n + 1)) = true
  | _, [], _ => rfl
  | n, d :: ds, h => by
    rw [List.all_cons, Bool.and_eq_true_iff] at h ⊢
    exact ⟨fits_up n d h.1, fits_ups n ds h.2⟩
end
theorem fits_mono {n m : Nat} {d : PyData} (h : fits n d = true) (l : n ≤ m := by decide) : fits m d = true := by
  induction l with
  | refl => exact h
  | step _ ih => exact fits_up _ _ ih
end Ec
set_option Elab.async false
set_option linter.all false
set_option maxRecDepth 100000
set_option maxHeartbeats 4000000
namespace Ec
open PySem PySem.Spec PyProof.Rows L2
section
variable {X : Cx} {δ : Dl} {μ : Cells} {e a b tg : Expr} {pos p : Pos} {Q : Vd → Cells → Prop} {D : Dn} {QI : List PyData → Cells → Prop} {mg : Str → Option Value}
theorem wi_rng (hg : Gl X "range") (hm : X.mg "range" = none) (h : WE X a δ μ fun x μ1 => ∃ n : Nat, x = .d (.int (n : Int)) ∧ n ≤ 100000 ∧ QI (intsD (rng n)) μ1) (hs : starEach [a] X.env = [(false, eval a X.env)] := by rfl) :
    WI X tg (.Call (.Name "range" p) [a] [] pos) δ μ QI :=
  wi_range1 hg hm (wa_one (h.mono fun x μ1 q => by
    obtain ⟨n, rfl, hn, q⟩ := q
    refine ⟨_, rfl, by omega, by omega, ?_⟩
    rw [Int.toNat_natCast, rangeD_eq]
    exact q) (by rw [hs]; rfl)) hs
theorem eqv_dint (i j : Int) : PyData.eqv (.int i) (.int j) = decide (i = j) := by simp only [PyData.eqv]; rfl
theorem bls_map {α : Type} (L : List α) (f : α → Bool) : (L.map fun a => PyData.bool (f a)) = blsD (L.map f) := by simp [blsD]
theorem we_anyM (B : Bl mg) (hg : Gl X "any") (hc : X.calm = true) (h : WE X e δ μ fun x μ1 => ∃ (α : Type) (L : List α) (f : α → Bool), x = .d (.list (L.map fun a => .bool (f a))) ∧ Q (.d (.bool (L.any f))) μ1) (hm : X.mg = mg := by rfl) (s1 : starEach [e] X.env = (false, eval e X.env) :: starEach [] X.env := by rfl) (s2 : (backTo pos (starEach [] X.env)).any (·.1) = false := by rfl) :
    WE X (.Call (.Name "any" p) [e] [] pos) δ μ Q := we_any B hg hc (h.mono fun x μ1 q => by
  obtain ⟨α, L, f, rfl, q⟩ := q
  refine ⟨L.map f, by rw [bls_map]; exact .l _, (fun _ z => by cases z), ?_⟩
  rw [List.any_map]
  exact q) hm s1 s2
end
end Ec
set_option Elab.async false
set_option linter.all false
set_option maxRecDepth 100000
set_option maxHeartbeats 4000000
namespace Ec
open PySem PySem.Spec PyProof.Rows L2
theorem ints_app (a b : List Int) : intsD (a ++ b) = intsD a ++ intsD b := List.map_append
def swp (r : List Int) (i : Nat) : List Int := r.take i ++ [r.getD (i + 1) 0, r.getD i 0] ++ r.drop (i + 2)
theorem swp_perm {r : List Int} {i : Nat} (h : i + 1 < r.length) : (swp r i).Perm r := by
  have e1 : r.drop i = r.getD i 0 :: r.drop (i + 1) := by
    rw [List.drop_eq_getElem_cons (by omega), List.getD_eq_getElem?_getD, List.getElem?_eq_getElem (by omega)]
    rfl
  have e2 : r.drop (i + 1) = r.getD (i + 1) 0 :: r.drop (i + 2) := by
    rw [List.drop_eq_getElem_cons h, List.getD_eq_getElem?_getD, List.getElem?_eq_getElem h]
    rfl
  have e3 : r.take i ++ (r.getD i 0 :: r.getD (i + 1) 0 :: r.drop (i + 2)) = r := by
    rw [← e2, ← e1, List.take_append_drop]
  refine List.Perm.trans ?_ (List.Perm.of_eq e3)
  unfold swp
  rw [List.append_assoc]
  exact List.Perm.append_left _ (List.Perm.swap _ _ _)
theorem swp_len {r : List Int} {i : Nat} (h : i + 1 < r.length) : (swp r i).length = r.length := (swp_perm h).length_eq
abbrev natsD (l : List Nat) : List PyData := l.map fun i : Nat => .int (i : Int)
def frp (c : Co) (r : List Int) : List Nat := (List.range (r.length - 1)).filter fun i => (misL c (swp r i)).isEmpty
theorem IsOrd.lens {c : Co} {r : List Int} (h : IsOrd c r) : r.length = c.length := by
  have := h.perm.length_eq
  rw [rng_len] at this
  exact this
section
variable {X : Cx} {δ : Dl} {μ : Cells} {a b c tg : Expr} {pos p : Pos} {QI : List PyData → Cells → Prop}
end
theorem rng_item {n i : Nat} {d : PyData} (h : (intsD (rng n))[i]? = some d) : i < n ∧ d = .int (i : Int) := by
  have hl := (List.getElem?_eq_some_iff.mp h).1
  rw [List.length_map, rng_len] at hl
  unfold intsD rng at h
  rw [List.getElem?_map, List.getElem?_map, List.getElem?_range hl] at h
  cases h
  exact ⟨hl, rfl⟩
theorem map_item {α : Type} {f : α → PyData} {l : List α} {i : Nat} {d : PyData} (h : (l.map f)[i]? = some d) : ∃ x, l[i]? = some x ∧ d = f x := by
  rw [List.getElem?_map] at h
  cases q : l[i]? with
  | none =>
    rw [q] at h
    cases h
  | some x =>
    rw [q] at h
    cases h
    exact ⟨x, rfl, rfl⟩
theorem rng_items (n : Nat) : (intsD (rng n)).length = n := by rw [List.length_map, rng_len]
theorem eqv_dbool (i j : Bool) : PyData.eqv (.bool i) (.bool j) = decide (i = j) := by cases i <;> cases j <;> simp [PyData.eqv]
end Ec
set_option Elab.async false
set_option linter.all false
namespace Ec
open PySem PySem.Spec PyProof.Rows L2
theorem posn_eq {v : Int} {r : List Int} {k : Nat} (h : r.Nodup) (e : r[k]? = some v) : posn v r = k := by
  have hm : v ∈ r := List.mem_of_getElem? e
  have h1 := (posn_at hm).1
  exact (List.getElem?_inj (posn_lt hm) h).mp (h1.trans e.symm)
structure Row (n : Nat) (r : List Int) : Prop where
  nd : r.Nodup
  rg : ∀ x, x ∈ r ↔ 0 ≤ x ∧ x < n
theorem IsOrd.row {c : Co} {r : List Int} (h : IsOrd c r) : Row c.length r := ⟨h.po.nd, fun x => ⟨h.po.rg x, fun g => h.mem g.1 g.2⟩⟩
theorem Row.len {n : Nat} {r : List Int} (h : Row n r) : r.length = n := by
  have := (perm_of_mem h.nd (rng_nodup n) fun x => (h.rg x).trans mem_rng.symm).length_eq
  rw [rng_len] at this
  exact this
theorem Row.swp {n : Nat} {r : List Int} (h : Row n r) {i : Nat} (hi : i + 1 < r.length) : Row n (swp r i) :=
  ⟨(swp_perm hi).nodup_iff.mpr h.nd, fun x => (swp_perm hi).mem_iff.trans (h.rg x)⟩
theorem Row.at {n : Nat} {r : List Int} (h : Row n r) {i : Nat} (hi : i < r.length) : r[i]? = some (r.getD i 0) := by
  rw [List.getD_eq_getElem?_getD, List.getElem?_eq_getElem hi]
  rfl
theorem Row.posn {n : Nat} {r : List Int} (h : Row n r) {i : Nat} (hi : i < r.length) : posn (r.getD i 0) r = i := posn_eq h.nd (h.at hi)
theorem Row.ne {n : Nat} {r : List Int} (h : Row n r) {i j : Nat} (hi : i < r.length) (hj : j < r.length) (hn : i ≠ j) : r.getD i 0 ≠ r.getD j 0 := fun e => hn (by rw [← h.posn hi, ← h.posn hj, e])
def xd (r s : List Int) (x : Int × Int) : Bool := !decide (decide (((posn x.1 r : Nat) : Int) < ((posn x.2 r : Nat) : Int)) = decide (((posn x.1 s : Nat) : Int) < ((posn x.2 s : Nat) : Int)))
theorem frp_ok {c : Co} {r : List Int} (h : IsOrd c r) {i : Nat} : i ∈ frp c r ↔ i + 1 < r.length ∧ IsOrd c (swp r i) := by
  unfold frp
  rw [List.mem_filter, List.mem_range]
  constructor
  · rintro ⟨h1, h2⟩
    have hi : i + 1 < r.length := by omega
    refine ⟨hi, ⟨(h.row.swp hi).nd, fun x hx => ((h.row.swp hi).rg x).mp hx, fun j x hj => ?_⟩, by rw [swp_len hi]; exact h.lens⟩
    have e : misL c (swp r i) = [] := List.isEmpty_iff.mp h2
    unfold misL at e
    have hl := (List.getElem?_eq_some_iff.mp hj).1
    have := List.filter_eq_nil_iff.mp e j (List.mem_range.mpr hl)
    rw [List.getD_eq_getElem?_getD, hj] at this
    simpa using this
  · rintro ⟨h1, h2⟩
    exact ⟨by omega, by rw [misL_nil h2.po]; rfl⟩
inductive Pth (c : Co) : List Int → List Nat → List Int → Prop
  | nil (r : List Int) : Pth c r [] r
  | snoc {r s : List Int} {ps : List Nat} {i : Nat} (h : Pth c r ps s) (hi : i ∈ frp c s) : Pth c r (ps ++ [i]) (swp s i)
theorem Pth.ord {c : Co} {r s : List Int} {ps : List Nat} (h : Pth c r ps s) (ho : IsOrd c r) : IsOrd c s := by
  induction h with
  | nil => exact ho
  | snoc _ hi ih => exact ((frp_ok ih).mp hi).2
theorem natsD_ints (l : List Nat) : natsD l = intsD (l.map fun i : Nat => (i : Int)) := by simp [natsD, intsD]
end Ec
set_option Elab.async false
set_option linter.all false
set_option maxRecDepth 100000
set_option maxHeartbeats 4000000
namespace Ec
open PySem PySem.Spec PyProof.Rows L2
section
variable {K : PySem.W.Frag} {μ : Cells} {Q : Vd → Cells → Prop}
end
section
variable {prog : Program} {w : World} {A : Around} {E : Value → Shared → Prop} {s : Shared}
end
section
variable {X : Cx} {δ : Dl} {μ : Cells} {e a b c : Expr} {pos p : Pos} {Q : Vd → Cells → Prop} {mg : Str → Option Value}
end
section
variable {X : Cx} {δ : Dl} {μ : Cells} {a b c : Expr} {pos : Pos} {D : Dn}
theorem ws_par3 (i j l : Nat) {x y z : Str} {px py pz pt : Pos} {kt k2 : Nat} {pt2 : Pos} (hc : X.calm = true) (hN : X.N.Nodup) (hi : X.N[i]? = some x) (hj : X.N[j]? = some y) (hl : X.N[l]? = some z) (hij : i ≠ j) (hil : i ≠ l) (hjl : j ≠ l)
    (hx : X.env.scope.names.lookup x = some .local) (hy : X.env.scope.names.lookup y = some .local) (hz : X.env.scope.names.lookup z = some .local)
    (h : WA X [a, b, c] δ μ fun xs μ1 => ∃ u v w, xs = [u, v, w] ∧ D.nx (((δ.set i (some u)).set j (some v)).set l (some w)) μ1)
    (hw : swappedStores [.Tuple [.Name x px, .Name y py, .Name z pz] kt pt] (.Tuple [a, b, c] k2 pt2) X.env = pure (some [x, y, z]))
    (hs : swapsWithSole [.Tuple [.Name x px, .Name y py, .Name z pz] kt pt] (.Tuple [a, b, c] k2 pt2) pos.line X.env = pure false := by rfl) :
    WS X (.Assign [.Tuple [.Name x px, .Name y py, .Name z pz] kt pt] (.Tuple [a, b, c] k2 pt2) pos) δ μ D := fun F H σ R De bb =>
  toS (ps_par3 hc hN hi hj hl hij hil hjl hx hy hz (pcA X [a, b, c]) hw hs) (h F H σ R _ fun vs xs F1 H1 μ1 w1 R1 o1 q => by
    obtain ⟨u, v, w, rfl, q⟩ := q
    cases o1 with
    | cons o1 o2 =>
      cases o2 with
      | cons o2 o3 =>
        cases o3 with
        | cons o3 o4 =>
          cases o4
          exact ⟨_, _, _, rfl, bb.nx F1 H1 _ _ μ1 w1 (((R1.put i o1).put j o2).put l o3) q⟩)
end
end Ec
set_option Elab.async false
set_option linter.all false
namespace Ec
open PySem PySem.Spec PyProof.Rows L2
theorem rng_ltp (n : Nat) : (rng n).Pairwise (· < ·) := by
  unfold rng
  rw [List.pairwise_map]
  exact List.pairwise_lt_range.imp fun h => by omega
theorem nexts_up (c : Co) (t : List Int) : (nexts c t).Pairwise (· < ·) := ((rng_ltp _).filter _).filter _
end Ec
set_option Elab.async false
set_option linter.all false
namespace Ec
open PySem PySem.Spec PyProof.Rows L2
end Ec
set_option Elab.async false
set_option linter.all false
namespace Ec
open PySem PySem.Spec PyProof.Rows L2
def sh (n : Nat) (l : List Int) : List Int := l.map fun x => x + (n : Int)
theorem mem_sh {n : Nat} {l : List Int} {x : Int} : x ∈ sh n l ↔ x - n ∈ l := by
  unfold sh
  rw [List.mem_map]
  exact ⟨fun ⟨y, h, e⟩ => by rw [show x - n = y by omega]; exact h, fun h => ⟨x - n, h, by omega⟩⟩
structure Mix (c d : Co) (t t1 t2 : List Int) : Prop where
  l : ∀ x : Int, 0 ≤ x → x < c.length → (x ∈ t ↔ x ∈ t1)
  r : ∀ x : Int, 0 ≤ x → x < d.length → (x + (c.length : Int) ∈ t ↔ x ∈ t2)
theorem Mix.nil (c d : Co) : Mix c d [] [] [] := ⟨fun x _ _ => by simp, fun x _ _ => by simp⟩
theorem Mix.more {c d : Co} {t t1 t2 u1 u2 : List Int} (m : Mix c d t t1 t2) (h1 : ∀ x ∈ u1, 0 ≤ x ∧ x < c.length) (h2 : ∀ x ∈ u2, 0 ≤ x ∧ x < d.length) : Mix c d (t ++ (u1 ++ sh c.length u2)) (t1 ++ u1) (t2 ++ u2) where
  l := fun x g0 g1 => by
    rw [List.mem_append, List.mem_append, List.mem_append, m.l x g0 g1, mem_sh]
    refine ⟨fun h => ?_, fun h => ?_⟩
    · rcases h with h | h | h
      · exact .inl h
      · exact .inr h
      · have := h2 _ h
        omega
    · rcases h with h | h
      · exact .inl h
      · exact .inr (.inl h)
  r := fun x g0 g1 => by
    rw [List.mem_append, List.mem_append, List.mem_append, m.r x g0 g1, mem_sh, Int.add_sub_cancel]
    refine ⟨fun h => ?_, fun h => ?_⟩
    · rcases h with h | h | h
      · exact .inl h
      · have := h1 _ h
        omega
      · exact .inr h
    · rcases h with h | h
      · exact .inl h
      · exact .inr (.inr h)
theorem stp_nil (c : Co) (t : List Int) : stp c t [] = nexts c t := by
  unfold stp
  exact List.filter_eq_self.mpr fun x _ => by simp
end Ec
set_option Elab.async false
set_option linter.all false
namespace Ec
open PySem PySem.Spec PyProof.Rows L2
theorem misL_iff {c : Co} {r : List Int} : misL c r = [] ↔ ∀ pre x post, r = pre ++ x :: post → comes c pre x = true := by
  unfold misL
  rw [List.filter_eq_nil_iff]
  constructor
  · intro h pre x post e
    have := h pre.length (List.mem_range.mpr (by rw [e]; simp))
    rw [e] at this
    simpa using this
  · intro h i hi
    have hl := List.mem_range.mp hi
    have e : r = r.take i ++ r.getD i 0 :: r.drop (i + 1) := by
      have : r.drop i = r.getD i 0 :: r.drop (i + 1) := by
        rw [List.drop_eq_getElem_cons hl, List.getD_eq_getElem?_getD, List.getElem?_eq_getElem hl]
        rfl
      rw [← this, List.take_append_drop]
    have := h _ _ _ e
    simpa [List.getD_eq_getElem?_getD] using this
structure Il (n : Nat) (q a b : List Int) : Prop where
  l : q.filter (fun x => decide (x < (n : Int))) = a
  r : q.filter (fun x => !decide (x < (n : Int))) = sh n b
def un (n : Nat) (l : List Int) : List Int := l.map fun x => x - (n : Int)
theorem mem_un {n : Nat} {l : List Int} {x : Int} : x ∈ un n l ↔ x + n ∈ l := by
  unfold un
  rw [List.mem_map]
  exact ⟨fun ⟨y, h, e⟩ => by rw [show x + (n : Int) = y by omega]; exact h, fun h => ⟨_, h, by omega⟩⟩
theorem Mix.of (c d : Co) (u : List Int) : Mix c d u (u.filter fun x => decide (x < (c.length : Int))) (un c.length (u.filter fun x => !decide (x < (c.length : Int)))) where
  l := fun x g0 g1 => by
    rw [List.mem_filter]
    simp [g1]
  r := fun x g0 g1 => by
    rw [mem_un, List.mem_filter]
    have : ¬ x + (c.length : Int) < c.length := by omega
    simp [this]
theorem Row.srt {n : Nat} {r : List Int} (h : Row n r) : srt r = rng n :=
  srt_one ((srt_perm r).trans (perm_of_mem h.nd (rng_nodup n) fun x => (h.rg x).trans mem_rng.symm)) (srt_up r) (rng_up n)
theorem Row.il {n m : Nat} {q a b : List Int} (h : Il n q a b) (ha : Row n a) (hb : Row m b) : Row (n + m) q := by
  have hp : q.Perm (a ++ sh n b) := by
    rw [← h.l, ← h.r]
    exact (List.filter_append_perm _ q).symm
  refine ⟨hp.nodup_iff.mpr (List.nodup_append.mpr ⟨ha.nd, map_nodup (fun x y e => by omega) hb.nd, fun x hx y hy e => ?_⟩), fun x => ?_⟩
  · subst e
    have := ((ha.rg x).mp hx).2
    have := ((hb.rg _).mp (mem_sh.mp hy)).1
    omega
  · rw [hp.mem_iff, List.mem_append, mem_sh, ha.rg, hb.rg]
    omega
end Ec
set_option Elab.async false
set_option linter.all false
set_option maxRecDepth 100000
set_option maxHeartbeats 4000000
namespace Ec
open PySem PySem.Spec PyProof.Rows L2
abbrev T_plain : TrD := fun xs μ R => ∃ (dc : PyData) (c : Co), xs = [.d dc] ∧ CoD dc c ∧ R (.d (coD c)) μ
inductive Mx : List Int → List Int → List Int → Prop
  | nil : Mx [] [] []
  | l {q a b : List Int} (x : Int) (h : Mx q a b) : Mx (x :: q) (x :: a) b
  | r {q a b : List Int} (x : Int) (h : Mx q a b) : Mx (x :: q) a (x :: b)
theorem Mx.len {q a b : List Int} (h : Mx q a b) : q.length = a.length + b.length := by
  induction h with
  | nil => rfl
  | l x _ ih => simp only [List.length_cons, ih]; omega
  | r x _ ih => simp only [List.length_cons, ih]; omega
theorem Mx.il {n : Nat} {q a b : List Int} (h : Mx q a b) (ha : ∀ x ∈ a, x < (n : Int)) (hb : ∀ x ∈ b, (n : Int) ≤ x) : q.filter (fun x => decide (x < (n : Int))) = a ∧ q.filter (fun x => !decide (x < (n : Int))) = b := by
  induction h with
  | nil => exact ⟨rfl, rfl⟩
  | @l q a b x h ih =>
    obtain ⟨h1, h2⟩ := ih (fun y hy => ha y (List.mem_cons_of_mem _ hy)) hb
    have := ha x List.mem_cons_self
    rw [List.filter_cons, List.filter_cons, if_pos (decide_eq_true this), h1, if_neg (by simp [this]), h2]
    exact ⟨rfl, rfl⟩
  | @r q a b x h ih =>
    obtain ⟨h1, h2⟩ := ih ha (fun y hy => hb y (List.mem_cons_of_mem _ hy))
    have : ¬ x < (n : Int) := by have := hb x List.mem_cons_self; omega
    rw [List.filter_cons, List.filter_cons, if_neg (by simp [this]), h1, if_pos (by simp [this]), h2]
    exact ⟨rfl, rfl⟩
def inn (n : Nat) (i : Int) : List (Int × Int) := ((rng n).filter fun h => decide (i < h)).map fun h => (i, h)
end Ec
set_option Elab.async false
set_option linter.all false
namespace Ec
open PySem PySem.Spec PyProof.Rows L2
theorem cr_max2 {X : Cx} (hc : X.calm = true) : CallR X (.builtin "max") (fun xs H Q => ∃ i j, xs = [.int i, .int j] ∧ Q (.int (if i < j then j else i)) H) := by
  intro pins s σ H xs us Q I r h
  obtain ⟨i, j, rfl, q⟩ := h
  obtain ⟨u, w', rfl, ⟨t, rfl⟩, ⟨t', rfl⟩⟩ := vals2 r
  refine max_two_ints (I.ok.hd hc) fun h' tk k => ⟨_, H, I.kept k, ?_, q⟩
  by_cases hj : i < j
  · rw [if_pos hj, if_pos hj]; exact ⟨_, rfl⟩
  · rw [if_neg hj, if_neg hj]; exact ⟨_, rfl⟩
theorem we_max2 {X : Cx} {δ : Dl} {μ : Cells} {Q : Vd → Cells → Prop} {mg : Str → Option Value} {a b : Expr} {p pos : Pos} (B : Bl mg) (hg : Gl X "max") (hc : X.calm = true) (h : WE X a δ μ fun x μ1 => WE X b δ μ1 fun y μ2 => ∃ i j : Int, x = .d (.int i) ∧ y = .d (.int j) ∧ Q (.d (.int (if i < j then j else i))) μ2) (hm : X.mg = mg := by rfl)
    (s1 : starEach [a, b] X.env = (false, eval a X.env) :: starEach [b] X.env := by rfl) (s2 : starEach [b] X.env = (false, eval b X.env) :: starEach [] X.env := by rfl) (s3 : (backTo pos (starEach [b] X.env)).any (·.1) = false := by rfl) :
    WE X (.Call (.Name "max" p) [a, b] [] pos) δ μ Q :=
  we_cb (cr_max2 hc) hg (hm ▸ B.max) PyProof.Rows.boot_max (wa_two (h.mono fun x μ1 q => q.mono fun y μ2 q => fun F H vs m o QV c => by
    obtain ⟨i, j, rfl, rfl, q⟩ := q
    cases o with
    | cons o1 o2 =>
      cases o2 with
      | cons o2 o3 =>
        cases o3
        exact ⟨i, j, by rw [dp_int o1, dp_int o2], c (.d (.int _)) _ F H μ2 Fw.refl m (.int _) q⟩) s1 s2) (he := s1) (hpl := s3)
theorem tups_shaped (rs : List (List Int)) : SeqAt.shaped (.list (tups rs)) = true := by
  have h : ∀ d ∈ tups rs, d.canLay0 = true ∧ d.depth ≤ 1 := fun d hd => by
    obtain ⟨r, _, rfl⟩ := List.mem_map.mp hd
    refine ⟨canLays_ints r, ?_⟩
    simp only [PyData.depth, depth_ints]
    decide
  unfold SeqAt.shaped
  rw [Bool.and_eq_true_iff]
  refine ⟨canLays_all fun d m => (h d m).1, decide_eq_true ?_⟩
  simp only [PyData.depth]
  exact Nat.le_trans (Nat.succ_le_succ (depths_le fun d m => (h d m).2)) (by decide)
theorem misL_ord {c : Co} {r : List Int} (h : Row c.length r) (hm : misL c r = []) : IsOrd c r where
  po := ⟨h.nd, fun x m => (h.rg x).mp m, fun i x hi => by
    have hl := (List.getElem?_eq_some_iff.mp hi).1
    have e := (List.getElem?_eq_some_iff.mp hi).2
    have : r = r.take i ++ x :: r.drop (i + 1) := by
      rw [← e, ← List.drop_eq_getElem_cons hl, List.take_append_drop]
    exact misL_iff.mp hm _ _ _ this⟩
  len := h.len
theorem atI_map {α : Type} {f : α → PyData} {l : List α} {i : Nat} (z : α) (h : i < l.length) : atI (l.map f) (i : Int) = some (f (l.getD i z)) := by
  refine atI_nat ?_
  rw [List.getElem?_map, List.getD_eq_getElem?_getD, List.getElem?_eq_getElem h]
  rfl
end Ec
set_option Elab.async false
set_option linter.all false
set_option maxRecDepth 100000
set_option maxHeartbeats 4000000
namespace Ec
open PySem PySem.Spec PyProof.Rows L2
end Ec
set_option Elab.async false
set_option linter.all false
namespace Ec
open PySem PySem.Spec PyProof.Rows L2
def ren (nw : List Int) (x : Int) : Int := nw.getD x.toNat 0
abbrev Rn (n : Nat) (nw : List Int) : Prop := nw.Perm (rng n)
abbrev Rg (n : Nat) (t : List Int) : Prop := ∀ x ∈ t, 0 ≤ x ∧ x < n
theorem Rn.len {n : Nat} {nw : List Int} (h : Rn n nw) : nw.length = n := by rw [List.Perm.length_eq h, rng_len]
theorem ren_at {n : Nat} {nw : List Int} (h : Rn n nw) {x : Int} (h0 : 0 ≤ x) (h1 : x < n) : nw[x.toNat]? = some (ren nw x) := by
  have hl : x.toNat < nw.length := by rw [h.len]; omega
  unfold ren
  rw [List.getD_eq_getElem?_getD, List.getElem?_eq_getElem hl]
  rfl
theorem ren_inj {n : Nat} {nw : List Int} (h : Rn n nw) {x y : Int} (hx : 0 ≤ x ∧ x < n) (hy : 0 ≤ y ∧ y < n) (e : ren nw x = ren nw y) : x = y := by
  have nd : nw.Nodup := h.nodup_iff.mpr (rng_nodup n)
  have h1 := ren_at h hx.1 hx.2
  have h2 := ren_at h hy.1 hy.2
  have l1 := (List.getElem?_eq_some_iff.mp h1).1
  rw [e, ← h2] at h1
  have := (List.getElem?_inj l1 nd).mp h1
  omega
theorem mem_ren {n : Nat} {nw t : List Int} (h : Rn n nw) (ht : Rg n t) {x : Int} (h0 : 0 ≤ x) (h1 : x < n) : ren nw x ∈ t.map (ren nw) ↔ x ∈ t := by
  rw [List.mem_map]
  constructor
  · rintro ⟨y, hy, e⟩
    have := ren_inj h (ht y hy) ⟨h0, h1⟩ e
    subst this
    exact hy
  · exact fun m => ⟨x, m, rfl⟩
abbrev Mp (n : Nat) (nw t t' : List Int) : Prop := ∀ x : Int, 0 ≤ x → x < n → (ren nw x ∈ t' ↔ x ∈ t)
theorem Mp.nil (n : Nat) (nw : List Int) : Mp n nw [] [] := fun x _ _ => by simp
theorem Mp.map {n : Nat} {nw t : List Int} (h : Rn n nw) (ht : Rg n t) : Mp n nw t (t.map (ren nw)) := fun x h0 h1 => mem_ren h ht h0 h1
end Ec
set_option Elab.async false
set_option linter.all false
namespace Ec
open PySem PySem.Spec PyProof.Rows L2
theorem rng_lt (n : Nat) : (rng n).Pairwise (· < ·) := by
  unfold rng
  rw [List.pairwise_map]
  exact List.pairwise_lt_range.imp fun h => by omega
end Ec
set_option Elab.async false
set_option linter.all false
namespace Ec
open PySem PySem.Spec PyProof.Rows L2
end Ec
set_option Elab.async false
set_option linter.all false
namespace Ec
open PySem PySem.Spec PyProof.Rows L2
theorem natsD_shaped (l : List Nat) : SeqAt.shaped (.list (natsD l)) = true := by
  rw [natsD_ints]
  exact shaped_lst _
theorem nexts_le9 (c : Co) (t : List Int) : (nexts c t).length ≤ c.length := by
  unfold nexts
  refine Nat.le_trans (List.length_filter_le _ _) (Nat.le_trans (List.length_filter_le _ _) ?_)
  rw [rng_len]
  exact Nat.le_refl _
end Ec
set_option Elab.async false
set_option linter.all false
set_option maxRecDepth 100000
set_option maxHeartbeats 4000000
namespace Ec
open PySem PySem.Spec PyProof.Rows L2
def getI : List (Int × PyData) → Int → Option PyData
  | [], _ => none
  | p :: r, k => if p.1 = k then some p.2 else getI r k
section
variable {X : Cx} {δ : Dl} {μ : Cells} {Q : Vd → Cells → Prop} {a b o i : Expr} {pos : Pos}
end
def NF (u : HO) : Prop := (∀ xs, u ≠ .tup xs) ∧ ∀ o v, u ≠ .frz o v
section
variable {K : PySem.W.Frag} {F H : Hp} {p : Addr} {od : Obj} {u : HO}
theorem CelOk.dict {c : Cont} (h : CelOk K F H p c) (nl : ∀ ds, c ≠ .l ds) : ∃ u, H p = some u ∧ Mut (some u) ∧ NF u ∧ (∀ F' od, Same F F' → F' p = some (.frz od u) → LkOk K F' p c) ∧ ∀ F' H', Same F F' → H' p = some u → CelOk K F' H' p c := by
  cases c with
  | l ds => exact absurd rfl (nl ds)
  | i kvs =>
    obtain ⟨ws, h1, h2⟩ := h
    exact ⟨_, h2, trivial, ⟨(fun xs z => by cases z), fun o v z => by cases z⟩, fun F' od e g => ⟨od, ws, dps_up e _ _ h1, g⟩, fun F' H' e g => ⟨ws, dps_up e _ _ h1, g⟩⟩
  | t kvs =>
    obtain ⟨xs, h1, h2⟩ := h
    have up : ∀ F', Same F F' → Paired (DtE K F') xs kvs := fun F' e => Paired.mapP h2 fun x p ⟨e1, ⟨o, e2, e3⟩, w, e4, e5⟩ => ⟨e1, ⟨o, e _ _ e2, e3⟩, w, e4, dp_up e _ _ e5⟩
    exact ⟨_, h1, trivial, ⟨(fun xs z => by cases z), fun o v z => by cases z⟩, fun F' od e g => ⟨od, xs, g, up F' e⟩, fun F' H' e g => ⟨xs, g, up F' e⟩⟩
  | o C fs =>
    obtain ⟨dx, vs, h1, h2⟩ := h
    exact ⟨_, h1, trivial, ⟨(fun xs z => by cases z), fun o v z => by cases z⟩, fun F' od e g => ⟨od, dx, vs, g, FlE.up e h2⟩, fun F' H' e g => ⟨dx, vs, g, FlE.up e h2⟩⟩
end
section
variable {X : Cx} {δ : Dl} {μ : Cells} {Q : Vd → Cells → Prop} {e : Expr} {D : Dn} {st : Stmt}
end
section
variable {X : Cx} {δ : Dl} {μ : Cells} {e tg : Expr} {QI : List PyData → Cells → Prop}
end
def putI : List (Int × PyData) → Int → PyData → List (Int × PyData)
  | [], k, d => [(k, d)]
  | p :: r, k, d => if p.1 = k then (k, d) :: r else p :: putI r k d
def mergeI (kvs more : List (Int × PyData)) : List (Int × PyData) := more.foldl (fun acc q => putI acc q.1 q.2) kvs
def ndI (kvs : List (Int × PyData)) : Prop := (kvs.map Prod.fst).Nodup
theorem getI_none {k : Int} : ∀ {kvs : List (Int × PyData)}, getI kvs k = none ↔ k ∉ kvs.map Prod.fst
  | [] => by simp [getI]
  | p :: r => by
    unfold getI
    rw [List.map_cons, List.mem_cons]
    by_cases e : p.1 = k
    · rw [if_pos e]
      exact ⟨(fun z => by cases z), fun z => absurd (Or.inl e.symm) z⟩
    · rw [if_neg e, getI_none]
      exact ⟨fun h z => z.elim (fun y => e y.symm) h, fun h z => h (.inr z)⟩
theorem putI_nd {k : Int} {d : PyData} : ∀ {kvs : List (Int × PyData)}, ndI kvs → ndI (putI kvs k d) ∧ ∀ x, x ∈ (putI kvs k d).map Prod.fst ↔ x = k ∨ x ∈ kvs.map Prod.fst
  | [], _ => ⟨by simp [ndI, putI], fun x => by simp [putI]⟩
  | p :: r, h => by
    obtain ⟨n1, n2⟩ := List.nodup_cons.mp h
    obtain ⟨g1, g2⟩ := putI_nd (k := k) (d := d) n2
    unfold putI
    by_cases e : p.1 = k
    · rw [if_pos e]
      refine ⟨List.nodup_cons.mpr ⟨by rw [← e]; exact n1, n2⟩, fun x => ?_⟩
      rw [List.map_cons, List.map_cons, List.mem_cons, List.mem_cons, e]
      exact ⟨fun z => .inr z, fun z => z.elim .inl id⟩
    · rw [if_neg e]
      refine ⟨List.nodup_cons.mpr ⟨fun z => ((g2 p.1).mp z).elim e n1, g1⟩, fun x => ?_⟩
      rw [List.map_cons, List.map_cons, List.mem_cons, List.mem_cons, g2]
      exact ⟨fun z => z.elim (fun y => .inr (.inl y)) fun y => y.elim .inl fun y => .inr (.inr y), fun z => z.elim (fun y => .inr (.inl y)) fun y => y.elim .inl fun y => .inr (.inr y)⟩
theorem mergeI_nd : ∀ {more kvs : List (Int × PyData)}, ndI kvs → ndI (mergeI kvs more)
  | [], _, h => h
  | q :: more, kvs, h => mergeI_nd (more := more) (putI_nd (k := q.1) (d := q.2) h).1
section
variable {X : Cx} {δ : Dl} {μ : Cells} {Q : Vd → Cells → Prop} {o e : Expr} {apos cpos : Pos}
end
end Ec
set_option Elab.async false
set_option linter.all false
namespace Ec
open PySem PySem.Spec PyProof.Rows L2
structure Wid (c c' : Co) : Prop where
  len : c'.length = c.length
  fr : ∀ p : Int, 0 ≤ p → p < c.length → ∀ x ∈ fr c p, x ∈ Ec.fr c' p
  nd : ∀ p : Int, 0 ≤ p → p < c.length → Ec.nd c' p ≤ Ec.nd c p
theorem fr_nodup {c : Co} (w : CoW c) {p : Int} (h0 : 0 ≤ p) (h1 : p < c.length) : (fr c p).Nodup := by
  have hl : p.toNat < c.length := by omega
  have e : c.getD p.toNat ([], 0) = c[p.toNat] := by rw [List.getD_eq_getElem?_getD, List.getElem?_eq_getElem hl]; rfl
  unfold fr
  rw [e]
  exact (w.up _ (List.getElem_mem hl)).imp fun h => by omega
theorem Wid.comes {c c' : Co} (h : Wid c c') (w : CoW c) (w' : CoW c') {t t' : List Int} (ht : ∀ x ∈ t, x ∈ t') {p : Int} (h0 : 0 ≤ p) (h1 : p < c.length) (hc : comes c t p = true) : comes c' t' p = true := by
  have hn := h.nd p h0 h1
  have hl : cnt c t p ≤ cnt c' t' p := by
    unfold cnt
    refine Int.ofNat_le.mpr (nodup_le ((fr_nodup w h0 h1).filter _) ((fr_nodup w' h0 (by rw [h.len]; exact h1)).filter _) fun x hx => ?_)
    rw [List.mem_filter] at hx ⊢
    exact ⟨h.fr p h0 h1 x hx.1, decide_eq_true (ht x (of_decide_eq_true hx.2))⟩
  unfold Ec.comes at *
  rw [decide_eq_true_eq] at *
  omega
theorem Wid.cl {c c' : Co} (h : Wid c c') (w : CoW c) (w' : CoW c') (b : List Int) : ∀ x ∈ cl c [] b, x ∈ Ec.cl c' [] b :=
  cl_in (S := fun x => x ∈ Ec.cl c' [] b) (fun p h0 h1 hb ⟨t, ht, hc⟩ => cl_shut c' [] b p h0 (by rw [h.len]; exact h1) hb ⟨t, ht, h.comes w w' (fun _ m => m) h0 h1 hc⟩) fun x m => by cases m
theorem Wid.nexts {c c' : Co} (h : Wid c c') (w : CoW c) (w' : CoW c') {t : List Int} : ∀ x ∈ nexts c t, x ∈ Ec.nexts c' t := fun x hx => by
  obtain ⟨⟨h0, h1⟩, h2, h3⟩ := mem_nexts.mp hx
  exact mem_nexts.mpr ⟨⟨h0, by rw [h.len]; exact h1⟩, h2, h.comes w w' (fun _ m => m) h0 h1 h3⟩
theorem cl_lt {c : Co} (b : List Int) : (cl c [] b).Pairwise (· < ·) := by
  have nd : (cl c [] b).Nodup := cl_nodup List.nodup_nil
  exact ((srt_up _ : (cl c [] b).Pairwise (· ≤ ·)).and nd).imp fun ⟨h1, h2⟩ => by omega
theorem Wid.misL {c c' : Co} (h : Wid c c') (w : CoW c) (w' : CoW c') {r : List Int} (hr : Rg c.length r) (hm : misL c r = []) : Ec.misL c' r = [] := by
  rw [misL_iff] at *
  intro pre x post e
  have hx := hr x (by rw [e]; simp)
  exact h.comes w w' (fun _ m => m) hx.1 hx.2 (hm pre x post e)
theorem Wid.ord {c c' : Co} (h : Wid c c') (w : CoW c) (w' : CoW c') {r : List Int} (hr : IsOrd c r) : IsOrd c' r := by
  refine misL_ord (by rw [h.len]; exact hr.row) (h.misL w w' hr.po.rg (misL_nil hr.po))
theorem Wid.nev {c c' : Co} (h : Wid c c') (w : CoW c) (w' : CoW c') (hn : nev c = []) : Ec.nev c' = [] := by
  unfold Ec.nev at *
  rw [List.filter_eq_nil_iff] at *
  rw [h.len]
  intro x hx z
  have := hn x hx
  simp at this z
  exact z (h.cl w w' [] x this)
end Ec
set_option Elab.async false
set_option linter.all false
namespace Ec
open PySem PySem.Spec PyProof.Rows L2
def cmp (c : Co) (t : List Int) : List Int := (rng c.length).filter fun p => !decide (p ∈ t)
theorem mem_cmp {c : Co} {t : List Int} {x : Int} : x ∈ cmp c t ↔ (0 ≤ x ∧ x < c.length) ∧ x ∉ t := by
  unfold cmp
  rw [List.mem_filter, mem_rng]
  simp
theorem nexts_congr {c : Co} {s t : List Int} (h : ∀ x, x ∈ s ↔ x ∈ t) : nexts c s = nexts c t := by
  unfold nexts
  have e : ((rng c.length).filter fun p => !decide (p ∈ s)) = (rng c.length).filter fun p => !decide (p ∈ t) := List.filter_congr fun x _ => by rw [show decide (x ∈ s) = decide (x ∈ t) from decide_eq_decide.mpr (h x)]
  rw [e]
  exact List.filter_congr fun x _ => comes_same h x
theorem cl_anti {c : Co} {a b : List Int} (h : ∀ x : Int, 0 ≤ x → x < c.length → x ∈ b → x ∈ a) : ∀ x ∈ cl c [] a, x ∈ cl c [] b :=
  cl_in (S := fun x => x ∈ cl c [] b) (fun p h0 h1 hb ht => cl_shut c [] b p h0 h1 (fun z => hb (h p h0 h1 z)) ht) fun x m => by cases m
structure Ps (c : Co) (t : List Int) : Prop where
  up : t.Pairwise (· < ·)
  rg : Rg c.length t
  inn : ∀ x ∈ t, x ∈ cl c [] (cmp c t)
theorem Ps.gr {c : Co} {t : List Int} (h : Ps c t) : ∀ x ∈ t, x ∈ Ec.gr c := fun x m => cl_anti (fun x _ _ z => by cases z) x (h.inn x m)
theorem Ps.nil (c : Co) : Ps c [] := ⟨.nil, fun x m => (by cases m), fun x m => by cases m⟩
theorem srt_lt {l : List Int} (h : l.Nodup) : (srt l).Pairwise (· < ·) :=
  ((srt_up l).and ((srt_perm l).nodup_iff.mpr h)).imp fun ⟨h1, h2⟩ => by omega
theorem Ps.more {c : Co} {t s : List Int} (h : Ps c t) (hs : ∀ x ∈ s, x ∈ nexts c t) (hn : s.Nodup) : Ps c (srt (t ++ s)) := by
  have hm : ∀ x, x ∈ srt (t ++ s) ↔ x ∈ t ∨ x ∈ s := fun x => by rw [mem_srt, List.mem_append]
  have htc : ∀ x ∈ t, x ∈ cl c [] (cmp c (srt (t ++ s))) := fun x m => cl_anti (fun y h0 h1 z => mem_cmp.mpr ⟨⟨h0, h1⟩, fun w => (mem_cmp.mp z).2 ((hm y).mpr (.inl w))⟩) x (h.inn x m)
  have hd : (t ++ s).Nodup := List.nodup_append.mpr ⟨h.up.imp fun z => by omega, hn, fun x mx y my e => by
    subst e
    exact (mem_nexts.mp (hs x my)).2.1 mx⟩
  refine ⟨srt_lt hd, fun x m => ?_, fun x m => ?_⟩
  · rcases (hm x).mp m with m | m
    · exact h.rg x m
    · exact (mem_nexts.mp (hs x m)).1
  · rcases (hm x).mp m with m2 | m2
    · exact htc x m2
    · obtain ⟨⟨h0, h1⟩, _, h3⟩ := mem_nexts.mp (hs x m2)
      exact cl_shut c [] _ x h0 h1 (fun z => (mem_cmp.mp z).2 m) ⟨t, htc, h3⟩
theorem gr_shut {c : Co} {p : Int} (h0 : 0 ≤ p) (h1 : p < c.length) {t : List Int} (ht : ∀ x ∈ t, x ∈ gr c) (hc : comes c t p = true) : p ∈ gr c := cl_shut c [] [] p h0 h1 (fun z => by cases z) ⟨t, ht, hc⟩
theorem gr_lt (c : Co) : (gr c).Pairwise (· < ·) := cl_lt _
theorem Ps.all (c : Co) : Ps c (Ec.gr c) := by
  refine ⟨gr_lt c, gr_rng c, ?_⟩
  refine cl_in (S := fun x => x ∈ cl c [] (cmp c (Ec.gr c))) (fun p h0 h1 _ ⟨t, ht, hc⟩ => ?_) fun x m => by cases m
  refine cl_shut c [] _ p h0 h1 (fun z => (mem_cmp.mp z).2 (gr_shut h0 h1 (fun x m => ?_) hc)) ⟨t, ht, hc⟩
  exact cl_anti (fun y _ _ w => by cases w) x (ht x m)
theorem nexts_gr (c : Co) : nexts c (gr c) = [] := by
  rw [List.eq_nil_iff_forall_not_mem]
  intro x m
  obtain ⟨⟨h0, h1⟩, h2, h3⟩ := mem_nexts.mp m
  exact h2 (gr_shut h0 h1 (fun _ z => z) h3)
theorem rnds_at {c : Co} : ∀ (n : Nat) (t : List Int) (i : Nat) (s : List Int), (rnds n c t [])[i]? = some s → s = nexts c (t ++ ((rnds n c t []).take i).flatten) ∧ s ≠ []
  | 0, _, _, _, h => by cases h
  | n + 1, t, i, s, h => by
    unfold rnds at h ⊢
    rw [stp_nil] at h ⊢
    split at h
    · cases h
    · rename_i hne
      rw [if_neg hne]
      cases i with
      | zero =>
        cases h
        exact ⟨by simp, hne⟩
      | succ i =>
        rw [List.getElem?_cons_succ] at h
        obtain ⟨h1, h2⟩ := rnds_at n _ i s h
        refine ⟨?_, h2⟩
        rw [List.take_succ_cons, List.flatten_cons, ← List.append_assoc]
        exact h1
def sof (c : Co) (i : Nat) : List Int := srt ((AR c [] []).take i).flatten
theorem srt_nil : srt [] = [] := List.Perm.eq_nil (srt_perm [])
theorem sof_zero (c : Co) : sof c 0 = [] := by
  unfold sof
  rw [List.take_zero]
  exact srt_nil
theorem sof_all (c : Co) : sof c (AR c [] []).length = gr c := by
  unfold sof gr cl
  rw [List.take_length]
  rfl
theorem AR_at {c : Co} {i : Nat} {s : List Int} (h : (AR c [] [])[i]? = some s) : s = nexts c (sof c i) ∧ s ≠ [] := by
  obtain ⟨h1, h2⟩ := rnds_at _ _ i s h
  refine ⟨h1.trans (nexts_congr fun x => ?_), h2⟩
  unfold sof AR
  rw [mem_srt]
  simp
theorem sof_succ {c : Co} {i : Nat} {s : List Int} (h : (AR c [] [])[i]? = some s) : srt (sof c i ++ s) = sof c (i + 1) := by
  unfold sof
  refine srt_one ((srt_perm _).trans (((srt_perm _).append_right _).trans ?_)) (srt_up _) (srt_up _)
  refine List.Perm.trans ?_ (srt_perm _).symm
  have e : (AR c [] []).take (i + 1) = (AR c [] []).take i ++ [s] := by
    rw [List.take_add_one, h]
    rfl
  rw [e, List.flatten_append]
  simp
theorem Ps.sof (c : Co) : ∀ i, i ≤ (AR c [] []).length → Ps c (Ec.sof c i)
  | 0, _ => by
    rw [sof_zero]
    exact Ps.nil c
  | i + 1, h => by
    have hi : i < (AR c [] []).length := h
    have e := List.getElem?_eq_getElem hi
    obtain ⟨h1, _⟩ := AR_at e
    rw [← sof_succ e]
    refine (Ps.sof c i (Nat.le_of_lt hi)).more (fun x m => by rw [h1] at m; exact m) ?_
    rw [h1]
    exact (nexts_up c _).imp fun z => by omega
end Ec
set_option Elab.async false
set_option linter.all false
set_option maxRecDepth 100000
set_option maxHeartbeats 4000000
namespace Ec
open PySem PySem.Spec PyProof.Rows L2
section
variable {X : Cx} {δ : Dl} {μ : Cells} {Q : Vd → Cells → Prop}
end
end Ec
set_option Elab.async false
set_option linter.all false
set_option maxRecDepth 100000
set_option maxHeartbeats 4000000
namespace Ec
open PySem PySem.Spec PyProof.Rows L2
structure Bas (B newId initId : String) (bmB : List Value) : Prop where
  F : ExcBaseFacts B newId initId bmB
  S : StoreFacts B bmB "object.__setattr__" "object"
  tl : PySem.W.excTail bmB bmB = true
  ty : typeOf (.type B) = pure (.type "type")
  bt : ∃ x : Str, bootBuiltins x = some (.type B)
theorem bas_LE : Bas "LookupError" "LookupError.__new__" "LookupError.__init__" [.type "LookupError", .type "Exception", .type "BaseException", .type "object"] :=
  ⟨F.excBase_LookupError, F.store_LookupError, by decide +kernel, by kernel_rfl, "LookupError", by kernel_rfl⟩
theorem bas_RE : Bas "RuntimeError" "RuntimeError.__new__" "RuntimeError.__init__" [.type "RuntimeError", .type "Exception", .type "BaseException", .type "object"] :=
  ⟨F.excBase_RuntimeError, F.store_RuntimeError, by decide +kernel, by kernel_rfl, "RuntimeError", by kernel_rfl⟩
theorem bas_OE : Bas "OverflowError" "OverflowError.__new__" "OverflowError.__init__" [.type "OverflowError", .type "ArithmeticError", .type "Exception", .type "BaseException", .type "object"] :=
  ⟨F.excBase_OverflowError, F.store_OverflowError, by decide +kernel, by kernel_rfl, "OverflowError", by kernel_rfl⟩
structure Oxg (K : PySem.W.Frag) (C : Addr) (newId : String) (bmB : List Value) : Prop where
  cl : ∃ nm q N bs sn sub ab col dd k0 k1 k2 k3 k5, K.lookup C = some (excClassObj nm q C N bs bmB true sn sub ab col dd k0 k1 k2 k3 k5 newId)
  sa : PySem.W.findIn K (.ref C) "__setattr__" = some (some (.builtin "object.__setattr__"))
  exC : PySem.W.subIn K (.ref C) (.type "BaseException") = some true
  tyC : PySem.W.typeIn K (.ref C) = some (.type "type")
  kC : PySem.W.keepIn K (.ref C) = true
section
variable {X : Cx} {pins : List (Addr × Obj)} {σ : L2.St} {H : Hp} {s : Shared} {a C dx : Addr} {f : Str} {y : V} {u : Value} {E : Value → Shared → Prop} {A : Around} {B newId initId : String} {bmB : List Value}
theorem Oxg.obj (T : Oxg X.K C newId bmB) (I : Inv X pins σ H s) : ∃ nm q N bs sn sub ab col dd k0 k1 k2 k3 k5, s.heap.get? C = some (excClassObj nm q C N bs bmB true sn sub ab col dd k0 k1 k2 k3 k5 newId) := by
  obtain ⟨nm, q, N, bs, sn, sub, ab, col, dd, k0, k1, k2, k3, k5, h⟩ := T.cl
  exact ⟨nm, q, N, bs, sn, sub, ab, col, dd, k0, k1, k2, k3, k5, I.kIn _ _ h⟩
theorem ini_base {us : List Value} {Q : Value → Shared → Prop} (Z : Bas B newId initId bmB) (T : Oxg X.K C newId bmB) (I : Inv X pins σ H s) (e : H a = some (exo a C none)) (hl : us.length ≤ sizeLine) (h : ∀ s', Inv X pins σ H s' → Q .none s') :
    wpAny (model X.prog X.w) A (call (.builtin initId) (.ref a :: us)) Q E s := by
  obtain ⟨nm, q, N, bs, sn, sub, ab, col, dd, k0, k1, k2, k3, k5, hC⟩ := T.obj I
  obtain ⟨t1, ho⟩ := exo_at I.hok e
  obtain ⟨hp, g, d, t, os⟩ := s
  refine wpAny_call (PySem.HandSPX.init_base Z.F (fun _ => rfl) hC ho hl fun h' t2 k hx => ?_)
  have same : upd H a (exo a C none) = H := by
    funext b
    by_cases hb : b = a
    · rw [hb, upd_same, e]
    · rw [upd_ne hb]
  have J := I.write (t' := t) (x := a) (e := a) (o := exo a C none) (by rw [e]; trivial) (.inl rfl) k ⟨_, hx⟩ (exo_ok hx)
  rw [same] at J
  exact h _ J
theorem sto_base {Q : Unit → Shared → Prop} (Z : Bas B newId initId bmB) (T : Oxg X.K C newId bmB) (I : Inv X pins σ H s) (e : H a = some (exo a C none)) (hno : PySem.W.findIn X.K (.ref C) f = some none) (ry : RelV y u)
    (h : ∀ dx s', H dx = none → dx ≠ a → Inv X pins σ (upd (upd H dx (exd dx [(f, y)])) a (exo a C (some dx))) s' → Q () s') : wpAny (model X.prog X.w) A (setAttr (.ref a) f u) Q E s := by
  obtain ⟨nm, q, N, bs, sn, sub, ab, col, dd, k0, k1, k2, k3, k5, hC⟩ := T.cl
  have hcl : PySem.W.clsIn X.K C = some { name := nm, bases := bs, mro := .ref C :: bmB, ns := N, qualname := q, hasDict := true, slotNames := sn, subclasses := sub, abstract := ab, collection := col, hasDel := false } := by
    unfold PySem.W.clsIn
    rw [hC]
  have hov : PySem.W.excOver X.K C bmB = true := by
    unfold PySem.W.excOver
    rw [hcl]
    show (C == C && PySem.W.excTail bmB bmB) = true
    rw [Z.tl, beq_self_eq_true]
    rfl
  have htk : PySem.W.takerIn X.K C f = some none := by
    unfold PySem.W.takerIn
    rw [hno]
    rfl
  obtain ⟨t1, ho⟩ := exo_at I.hok e
  obtain ⟨hp, g, d, t, os⟩ := s
  have hcls : PySem.W.Looks (model X.prog X.w) hp (classData C) _ := PySem.W.looks_clsIn I.kIn hcl
  have hxs : a ≠ hp.objs.size := Nat.ne_of_lt (Heap.lt_size ho)
  refine PySem.W.set_plain I.kIn (ox := { cls := .ref C, dict := none, data := .fields #[.ref t1, .none, .none, .none, .bool false, .none] }) (od := none) ⟨ho, rfl, rfl, trivial⟩ T.sa ?_
  refine PySem.W.osa_openX (od := none) Z.S I.kIn ⟨ho, rfl, rfl, trivial⟩ hov htk fun b => ?_
  show wpAny _ _ (Builtin.ObjectAttr.storeInOwnDict (.ref a) (.ref C) (.str f t) f u b) _ _ _
  unfold Builtin.ObjectAttr.storeInOwnDict Builtin.ObjectAttr.ownDictForStores
  repeat (first | with_reducible refine PySem.HandSPX.store_in_new ?_ ?_ | with_reducible refine wpAny_loadPart_at ho ?_ | with_reducible refine hcls.at ?_ | wp_step)
  · exact ⟨_, #[], _, (Heap.get?_update_ne _ _ _ _ hxs.symm).trans (Heap.get?_push_at rfl rfl), rfl, fun e he => absurd he (by simp), fun _ => rfl⟩
  · intro h' tk' hn hs
    have h1 : (hp.push { cls := .type "dict", data := .dict #[] }).get? a = some { cls := .ref C, dict := none, data := .fields #[.ref t1, .none, .none, .none, .bool false, .none] } := Heap.get?_push_of_some _ ho
    have k : ∀ b o, b ≠ a → hp.get? b = some o → h'.get? b = some o := fun b o hb q => (hs.2 b (Nat.ne_of_lt (Heap.lt_size q))).trans ((Heap.get?_update_ne _ _ _ _ hb).trans (Heap.get?_push_of_some _ q))
    have hx : h'.get? a = some { cls := .ref C, dict := some hp.objs.size, data := .fields #[.ref t1, .none, .none, .none, .bool false, .none] } := (hs.2 a hxs).trans (Heap.get?_update_self _ h1 rfl)
    have hnd : H hp.objs.size = none := I.hok.fresh (Nat.le_refl _)
    have nd : ∀ {b : Addr} {o : Obj}, hp.get? b = some o → b ≠ hp.objs.size := fun q => Nat.ne_of_lt (Heap.lt_size q)
    have na : ∀ {b : Addr}, H b = none → b ≠ a := fun n z => by
      rw [z, e] at n
      cases n
    have U : Un X.fs [] H (upd (upd H hp.objs.size (exd hp.objs.size [(f, y)])) a (exo a C (some hp.objs.size))) hp h' := {
      keep := fun b o q n _ _ => k b o (na n) q
      slot := fun b o q n _ _ => ⟨o.slots, k b o (na n) q⟩
      free := fun b o q n _ => by
        rw [upd_ne (na n), upd_ne (nd q)]
        exact n
      there := fun b o q _ => by
        by_cases hb : b = a
        · exact ⟨_, by rw [hb]; exact hx⟩
        · exact ⟨o, k b o hb q⟩
      tups := fun b xs q => by
        rw [upd_ne (at_ne e q exo_tup), upd_ne (ne_of_none q hnd)]
        exact q
      frzs := fun b o v q => by
        rw [upd_ne (at_ne e q exo_frz), upd_ne (ne_of_none q hnd)]
        exact q
      tbls := fun b ps q => ⟨#[], by
        rw [upd_ne (at_ne e q exo_tbl), upd_ne (ne_of_none q hnd), q]
        simp⟩ }
    refine h hp.objs.size _ hnd hxs.symm (I.un (t' := tk') U fun b o q => ?_)
    by_cases hb : b = a
    · subst hb
      rw [upd_same] at q
      cases q
      exact exo_ok hx
    · rw [upd_ne hb] at q
      by_cases hd : b = hp.objs.size
      · subst hd
        rw [upd_same] at q
        cases q
        exact exd_ok hn (relO_put (fs := []) ry fun g => trivial)
      · rw [upd_ne hd] at q
        refine (I.hok b o q).stay (fun c v hc z => k c v ?_ z) (fun c hc => ?_) fun c xs hc => ?_
        · rcases hc with hc | hc
          · rw [hc]
            exact hb
          · exact at_ne e hc exo_own
        · rw [upd_ne (at_ne e hc exo_own), upd_ne (ne_of_none hc hnd)]
          exact hc
        · rw [upd_ne (at_ne e hc exo_tup), upd_ne (ne_of_none hc hnd)]
          exact hc
end
def tIni (K : PySem.W.Frag) (newId : String) (bmB : List Value) (ta : TA) : TE := fun σ H Q => ta σ H fun vs H1 => ∃ (a C : Addr) (ws : List V), vs = .ref a :: ws ∧ ws.length ≤ 1000 ∧ Oxg K C newId bmB ∧ H1 a = some (exo a C none) ∧ Q .non H1
def tSto (K : PySem.W.Frag) (newId : String) (bmB : List Value) (f : Str) (to te : TE) : TS := fun D σ H => te σ H fun y H1 => to σ H1 fun x H2 => ∃ a C : Addr, x = .ref a ∧ Oxg K C newId bmB ∧ PySem.W.findIn K (.ref C) f = some none ∧ H2 a = some (exo a C none) ∧
  ∀ dx, H2 dx = none → dx ≠ a → D.nx σ (upd (upd H2 dx (exd dx [(f, y)])) a (exo a C (some dx)))
section
variable {X : Cx} {B newId initId : String} {bmB : List Value} {x f : Str} {o e : Expr} {es : List Expr} {to te : TE} {ta : TA} {p p' p1 p2 pos : Pos}
theorem pe_ini {pl : Sem Bool} (Z : Bas B newId initId bmB) (hg : Gl X x) (hm : X.mg x = none) (hv : bootBuiltins x = some (.type B)) (vV : PySem.W.findCls X.K (.type B) (.type "type") "__init__" = some (.val (.builtin initId)))
    (hst : Manifest.isStub B = false) (hh : PySem.W.handedIn (.builtin initId) = true) (hn : x ≠ "__name__") (hdb : (x == ("__debug__" : Str)) = false) (ha : PA X (e :: es) ta)
    (hc : eval (.Call (.Attribute (.Name x p1) "__init__" p2) (e :: es) [] pos) X.env = (do
      let ov ← eval (.Name x p1) X.env
      standAt p2.atName
      let (g, first) ← holding [ov] (getMethod ov "__init__" pl)
      callWith pos g first (backTo pos (starEach (e :: es) X.env)) (backToKw pos (keywordEach [] X.env))) := by rfl)
    (he : starEach (e :: es) X.env = (false, eval e X.env) :: starEach es X.env := by rfl) (hpl : (backTo pos (starEach es X.env)).any (·.1) = false := by rfl) :
    PE X (.Call (.Attribute (.Name x p1) "__init__" p2) (e :: es) [] pos) (tIni X.K newId bmB ta) := ⟨fun pins s σ H Q I h => by
  refine PySem.W.methodCall_KW (ld_blt I hg hm hv ?_ hn hdb) hc
  obtain ⟨m, fr⟩ := I.fr
  refine PySem.W.method_type fr I.ok.mod.kin Z.ty hst vV hh ?_
  show wpAny _ _ (callWith pos (Value.builtin initId) [] _ []) _ _ _
  refine PyProof.Rows.callWith_method1 (thn (ha.run pos pins _ σ H _ (I.tok _) h) fun us s1 hq => ?_) he hpl
  obtain ⟨vs, H1, I1, r1, a, C, ws, rfl, hl, T, ea, q⟩ := hq
  cases r1 with
  | cons ra rs =>
    cases ra
    refine ini_base Z T I1 ea ?_ fun s' J => ⟨.non, H1, J, rfl, q⟩
    rw [← Paired.length rs, sizeLine_eq]
    omega⟩
theorem ps_sto (Z : Bas B newId initId bmB) (ho : PE X o to) (he : PE X e te) (hs : swapsWith e (some (.Attribute o f p')) pos.line X.env = pure false := by rfl) : PS X (.Assign [.Attribute o f p'] e pos) (tSto X.K newId bmB f to te) := ⟨fun pins s σ H D I h => by
  refine plainObj_wpAny_Assign_Attribute (thn (he.run pins s σ H _ I h) fun v s1 h1 => ?_) hs
  obtain ⟨y, H1, I1, r1, q1⟩ := h1
  refine thn (ho.run pins s1 σ H1 _ I1 q1) fun u s2 h2 => ?_
  obtain ⟨z, H2, I2, r2, a, C, rfl, T, hno, ea, q⟩ := h2
  cases r2
  exact sto_base Z T I2 ea hno r1 fun dx s' n ne J => ⟨σ, _, J, q dx n ne⟩⟩
end
inductive Fm (K : PySem.W.Frag) (H : Hp) : V → Prop
  | int (i : Int) (h : i.natAbs.log2 < 1920) : Fm K H (.int i)
  | tup {a : Addr} {ns : List Int} (h : SqT K H a (ns.map V.int)) (l : ns.length ≤ 1000) (b : ∀ i ∈ ns, i.natAbs.log2 < 1920) : Fm K H (.ref a)
theorem int_txt {i : Int} (h : i.natAbs.log2 < 1920) : ((PySem.Str.ofString (toString i)) : Str).length ≤ 1921 := int_text_len_1921 h
theorem repr_ints {prog : Program} {w : World} : ∀ {l : List Int} {its : List Value}, Vals (l.map V.int) its → (∀ i ∈ l, i.natAbs.log2 < 1920) → ReprAll prog w its (l.map fun i => PySem.Str.ofString (toString i))
  | [], _, r, _ => by
    cases r
    exact .nil
  | i :: l, _, r, h => by
    cases r with
    | cons r1 r2 =>
      obtain ⟨t, rfl⟩ := r1
      exact .cons (ReprIs.int t (h i List.mem_cons_self)) (repr_ints r2 fun z hz => h z (List.mem_cons_of_mem _ hz))
theorem ints_piled : ∀ l : List Int, (∀ i ∈ l, i.natAbs.log2 < 1920) → piled (l.map fun i => PySem.Str.ofString (toString i)) ≤ 1930 * l.length
  | [], _ => Nat.zero_le _
  | i :: l, h => by
    have h1 := int_txt (h i List.mem_cons_self)
    have h2 := ints_piled l fun z hz => h z (List.mem_cons_of_mem _ hz)
    rw [List.map_cons, piled_cons, List.length_cons]
    omega
def tFmD (K : PySem.W.Frag) (te : TE) : TE := fun σ H Q => te σ H fun x H1 => Fm K H1 x ∧ ∀ m : Str, m.length ≤ 2000000 → Q (.str m) H1
theorem pe_fmD {X : Cx} {e : Expr} {te : TE} {pos : Pos} {k : Nat} (hr : Room k X.A) (he : PE X e te) : PE X (.FormattedValue e (-1) none pos) (tFmD X.K te) := ⟨fun pins s σ H Q I h => by
  refine wpAny_FormattedValue_plain (thn (he.run pins s σ H _ I h) fun v s1 hv => ?_)
  obtain ⟨x, H1, I1, r1, hf, q⟩ := hv
  cases hf with
  | int i hz =>
    obtain ⟨t, rfl⟩ := r1
    exact wpAny_formatField_int hz ⟨.str (toString i), H1, I1.tok _, ⟨_, rfl⟩, q _ (Nat.le_trans (int_txt hz) (by decide))⟩
  | tup ht hl hb =>
    rename_i a ns
    cases r1
    obtain ⟨its, rv, ⟨o, ho, hcl, n, hd⟩, _⟩ := I1.tuple ht
    have hu := hr.units
    have hp := ints_piled ns hb
    have htx := fmt_text (ns.map fun i => PySem.Str.ofString (toString i))
    refine fmt_tuple (by omega) ho hcl hd (repr_ints rv hb) (by rw [sizeLine_eq]; omega) fun m u tk hm => ⟨.str m, H1, I1.tok _, ⟨u, rfl⟩, q m (by omega)⟩⟩
def spIni (C : Addr) (f : Str) (Fx : Hp → V → Prop) : Sp := fun vs H Q _ => ∃ (a : Addr) (y : V), vs = [.ref a, y] ∧ H a = some (exo a C none) ∧ Fx H y ∧ ∀ dx, H dx = none → dx ≠ a → Q .non (upd (upd H dx (exd dx [(f, y)])) a (exo a C (some dx)))
def tMk (C : Addr) (f : Str) (Fx : Hp → V → Prop) (ta : TA) : L2.St → Hp → XK → Prop := fun σ H Q => ta σ H fun vs H1 => ∃ y, vs = [y] ∧ (∀ (a : Addr), H1 a = none → Fx (upd H1 a (exo a C none)) y) ∧ ∀ d, H1 d = none → Q (.ref C) (some d) (upd H1 d (.xd [(f, y)]))
theorem pmk_own {X : Cx} {B newId initId : String} {bmB : List Value} {x f : Str} {e : Expr} {ta : TA} {C fI : Addr} {k : Nat} {fd : FuncData} {ps : List Str} {Fx : Hp → V → Prop} {p pos : Pos} (Z : Bas B newId initId bmB) (T : Oxg X.K C newId bmB) (iC : PySem.W.findIn X.K (.ref C) "__init__" = some (some (.ref fI)))
    (tI : PySem.W.typeIn X.K (.ref fI) = some (.type "function")) (F1 : FnOk X.prog X.w X.K X.mg X.base CX0 k fI fd ps (spIni C f Fx)) (hr : Room (k + 1) X.A) (hb : Binds X.K fd ps []) (hg : Gl X x) (hm : X.mg x = some (.ref C)) (hA : PA X [e] ta)
    (hdb : (x == ("__debug__" : Str)) = false := by decide) (he : starEach (e :: []) X.env = (false, eval e X.env) :: starEach [] X.env := by rfl) (hpl : (backTo pos (starEach [] X.env)).any (·.1) = false := by rfl) :
    PMk X (.Call (.Name x p) [e] [] pos) (tMk C f Fx ta) := fun pins s σ H Q I h => by
  refine wpAny_Call_Name_kw (ld_glob I hg hm ?_ hdb)
  refine PySem.W.callWith_K (h₀ := X.base) I.ok.mod.kin T.kC (thn (hA.run pos pins s σ H _ I h) fun us s1 hq => ?_) he hpl
  obtain ⟨vs, H1, I1, r1, y, rfl, q1, q2⟩ := hq
  refine ⟨I1.kIn, ?_⟩
  show wpAny _ _ (call (.ref C) us) _ _ _
  obtain ⟨nm, q, N, bs, sn, sub, ab, col, dd, k0, k1, k2, k3, k5, hC⟩ := T.obj I1
  obtain ⟨h0, g0, d0, t0, o0⟩ := s1
  have hn : H1 (h0.objs.size + 1) = none := I1.hok.fresh (Nat.le_succ _)
  have old : ∀ b o, h0.get? b = some o → ((h0.push (PySem.W.kdv_tup us)).push (PySem.HandSPX.excO C h0.objs.size)).get? b = some o := fun b o z => Heap.get?_push_of_some _ (Heap.get?_push_of_some _ z)
  have made : ((h0.push (PySem.W.kdv_tup us)).push (PySem.HandSPX.excO C h0.objs.size)).get? (h0.objs.size + 1) = some (PySem.HandSPX.excO C h0.objs.size) := by heap_get
  have I2 : Inv X pins σ (upd H1 (h0.objs.size + 1) (exo (h0.objs.size + 1) C none)) ⟨(h0.push (PySem.W.kdv_tup us)).push (PySem.HandSPX.excO C h0.objs.size), g0, d0, t0, o0⟩ :=
    I1.laid (t' := t0) (a := h0.objs.size + 1) (o := exo (h0.objs.size + 1) C none) old (Nat.le_succ _) (exo_ok made)
  have rel : Vals [V.ref (h0.objs.size + 1), y] (Value.ref (h0.objs.size + 1) :: us) := .cons rfl r1
  have hus : us.length ≤ sizeLine := by
    rw [← Paired.length r1, sizeLine_eq]
    exact (by decide : 1 ≤ 16777216)
  have sp : spIni C f Fx [V.ref (h0.objs.size + 1), y] (upd H1 (h0.objs.size + 1) (exo (h0.objs.size + 1) C none)) (fun v H2 => v = .non ∧ ∃ (d : Addr), H2 (h0.objs.size + 1) = some (exo (h0.objs.size + 1) C (some d)) ∧ H2 d = some (exd d [(f, y)]) ∧ H1 d = none ∧ Q (.ref C) (some d) (upd (del H2 (h0.objs.size + 1)) d (.xd [(f, y)]))) (fun _ _ _ => False) := by
    refine ⟨_, y, rfl, upd_same, q1 _ hn, fun dx hdx ne => ?_⟩
    have hd1 : H1 dx = none := by
      rw [upd_ne ne] at hdx
      exact hdx
    refine ⟨rfl, dx, upd_same, ?_, hd1, ?_⟩
    · rw [upd_ne ne, upd_same]
    · have eq : upd (del (upd (upd (upd H1 (h0.objs.size + 1) (exo (h0.objs.size + 1) C none)) dx (exd dx [(f, y)])) (h0.objs.size + 1) (exo (h0.objs.size + 1) C (some dx))) (h0.objs.size + 1)) dx (.xd [(f, y)]) = upd H1 dx (.xd [(f, y)]) := by
        funext b
        by_cases h1 : b = dx
        · rw [h1, upd_same, upd_same]
        · rw [upd_ne h1, upd_ne h1]
          by_cases h2 : b = h0.objs.size + 1
          · rw [h2, del_same, hn]
          · rw [del_ne h2, upd_ne h2, upd_ne h1, upd_ne h2]
      rw [eq]
      exact q2 dx hd1
  have hl : (Value.ref (h0.objs.size + 1) :: us ++ []).length = ps.length := by
    have z := rel.length
    rw [F1.len _ _ _ _ sp] at z
    rw [List.append_nil]
    exact z.symm
  have hbb := hb _ (Value.ref (h0.objs.size + 1) :: us) I2.kIn hl
  rw [List.append_nil] at hbb
  refine wpAny_call (PySem.HandSPX.call_own Z.F (fun _ => rfl) hC (PySem.W.looks_findIn I1.kIn iC) (fun self => PySem.W.bind_fn I1.kIn self tI) hus
    (codeAny_mono (F1.run _ X.stack _ _ ⟨Value.ref (h0.objs.size + 1) :: us, []⟩ _ _ _ (fun _ _ _ => False) (hr.make C us []) (I2.env0.make C us []) hbb rel sp) fun r s' hq' => ?_))
  cases r with
  | error er => exact hq'.elim
  | ok fl =>
    cases fl with
    | ret u =>
      obtain ⟨v, H2, os2, bare2, un2, hok2, rv, rfl, d, ea, ed, hd1, q3⟩ := hq'
      obtain ⟨h2, g2, d2, t2, o2⟩ := s'
      exact ⟨rv, mk_end (raises_own T.exC T.tyC) I1 (Nat.le_succ _) old un2 hok2 os2 bare2 ea ed hd1 q3⟩
    | next => exact hq'.elim
    | brk => exact hq'.elim
    | cont => exact hq'.elim
end Ec
set_option Elab.async false
set_option linter.all false
set_option maxRecDepth 100000
set_option maxHeartbeats 4000000
namespace Ec
open PySem PySem.Spec PyProof.Rows L2
section
variable {M : Model} {A : Around} {E : Value → Shared → Prop} {s : Shared}
end
section
variable {X : Cx} {a : Addr} {pn : List (Addr × Obj)} {σ : L2.St} {H : Hp} {s : Shared}
end
end Ec
set_option Elab.async false
set_option linter.all false
set_option maxRecDepth 100000
set_option maxHeartbeats 4000000
namespace Ec
open PySem PySem.Spec PyProof.Rows L2
structure Exn where
  C : Addr
  f : Str
  x : PyData
def ExOk (K : PySem.W.Frag) (F : Hp) (ex : Exn) (cls : Value) (d : Option Addr) : Prop := cls = .ref ex.C ∧ ∃ dd w, d = some dd ∧ F dd = some (.xd [(ex.f, w)]) ∧ De K F w ex.x
abbrev ErP := Exn → Dl → Cells → Prop
def ErB (K : PySem.W.Frag) (W : WX) (F H : Hp) (μ : Cells) (er : ErP) : Prop := ∀ ex cls d F' H' σ' δ' μ', Fw (ks μ) (ks μ') F H F' H' → Rp K F' H' σ' δ' μ' → ExOk K F' ex cls d → er ex δ' μ' → W cls d σ' H'
theorem ErB.next {K : PySem.W.Frag} {W : WX} {F H F' H' : Hp} {μ μ' : Cells} {er : ErP} (b : ErB K W F H μ er) (w : Fw (ks μ) (ks μ') F H F' H') : ErB K W F' H' μ' er := fun ex cls d F2 H2 σ2 δ2 μ2 w2 => b ex cls d F2 H2 σ2 δ2 μ2 (w.trans w2)
def WEx (X : Cx) (W : WX) (er : ErP) (e : Expr) (δ : Dl) (μ : Cells) (Q : Vd → Cells → Prop) : Prop := ∀ F H σ, Rp X.K F H σ δ μ → ErB X.K W F H μ er → ∀ QV : VK,
  (∀ v x F' H' μ', Fw (ks μ) (ks μ') F H F' H' → Rp X.K F' H' σ δ μ' → VOk X.K F' x v → Q x μ' → QV v H') → cE X e σ H QV
def WSx (X : Cx) (W : WX) (er : ErP) (st : Stmt) (δ : Dl) (μ : Cells) (D : Dn) : Prop := ∀ F H σ, Rp X.K F H σ δ μ → ErB X.K W F H μ er → ∀ De, Bears X.K F H μ D De → cS X st De σ H
def WBx (X : Cx) (W : WX) (er : ErP) (st : List Stmt) (δ : Dl) (μ : Cells) (D : Dn) : Prop := ∀ F H σ, Rp X.K F H σ δ μ → ErB X.K W F H μ er → ∀ De, Bears X.K F H μ D De → cB X st De σ H
section
variable {X : Cx} {W : WX} {er : ErP} {δ : Dl} {μ : Cells} {e a b : Expr} {es : List Expr} {pos p : Pos} {Q : Vd → Cells → Prop} {D : Dn} {st : Stmt} {rest : List Stmt}
theorem wex_of (h : WE X e δ μ Q) : WEx X W er e δ μ Q := fun F H σ R _ => h F H σ R
theorem wbx_nil (h : D.nx δ μ) : WBx X W er [] δ μ D := fun F H σ R _ De b => toB pss_nil (b.nx F H σ δ μ Fw.refl R h)
theorem wbx_cons (h : WSx X W er st δ μ { D with nx := fun δ' μ' => WBx X W er rest δ' μ' D }) : WBx X W er (st :: rest) δ μ D := fun F H σ R eb De b =>
  toB (pss_cons (pcS X st) (pcB X rest)) (show cS X st { De with nx := cB X rest De } σ H from
    h F H σ R eb _ (b.seq fun F' H' σ' δ' μ' w R' q => q F' H' σ' R' (eb.next w) De (b.next w)))
theorem wbx_ws (h : WS X st δ μ { D with nx := fun δ' μ' => WBx X W er rest δ' μ' D }) : WBx X W er (st :: rest) δ μ D := fun F H σ R eb De b =>
  toB (pss_cons (pcS X st) (pcB X rest)) (show cS X st { De with nx := cB X rest De } σ H from
    h F H σ R _ (b.seq fun F' H' σ' δ' μ' w R' q => q F' H' σ' R' (eb.next w) De (b.next w)))
theorem wbx_one (h : WSx X W er st δ μ D) : WBx X W er [st] δ μ D := fun F H σ R eb De b => toB (pss_one (pcS X st)) (h F H σ R eb De b)
theorem wsx_if {c : Expr} {s1 s2 : List Stmt} (h : WT X c δ μ fun k μ1 => if k = true then WBx X W er s1 δ μ1 D else WBx X W er s2 δ μ1 D) : WSx X W er (.If c s1 s2 pos) δ μ D := fun F H σ R eb De b =>
  toS (ps_if (pcT X c) (pcB X s1) (pcB X s2)) (h F H σ R _ fun k F1 H1 μ1 w1 R1 q => by
    cases k with
    | true => exact (show WBx X W er s1 δ μ1 D from q) F1 H1 σ R1 (eb.next w1) De (b.next w1)
    | false => exact (show WBx X W er s2 δ μ1 D from q) F1 H1 σ R1 (eb.next w1) De (b.next w1))
theorem wsx_expr (h : WEx X W er e δ μ fun _ μ1 => D.nx δ μ1) (hs : swapsWith e none pos.line X.env = pure false := by rfl) : WSx X W er (.Expr e pos) δ μ D := fun F H σ R eb De b =>
  toS (ps_expr (pcE X e) hs) (h F H σ R eb _ fun v x F1 H1 μ1 w1 R1 o1 q => b.nx F1 H1 σ δ μ1 w1 R1 q)
theorem wsx_ret (h : WEx X W er e δ μ D.rt) : WSx X W er (.Return (some e) pos) δ μ D := fun F H σ R eb De b =>
  toS (ps_ret (pcE X e)) (h F H σ R eb _ fun v x F1 H1 μ1 w1 R1 o1 q => b.rt v x F1 H1 μ1 w1 R1.m o1 q)
theorem wsx_set (i : Nat) {x : Str} {pos' : Pos} (hN : X.N.Nodup) (hi : X.N[i]? = some x) (hx : Loc X.env.scope x) (hf : X.fn x = true ∨ X.env.scope.names.lookup x = some .local) (h : WEx X W er e δ μ fun y μ1 => D.nx (δ.set i (some y)) μ1)
    (hs : swapsWith e (some (.Name x pos')) pos.line X.env = pure false := by rfl) : WSx X W er (.Assign [.Name x pos'] e pos) δ μ D := fun F H σ R eb De b =>
  toS (ps_set hN hi hx (pcE X e) hs hf) (h F H σ R eb _ fun v y F1 H1 μ1 w1 R1 o1 q => b.nx F1 H1 _ _ μ1 w1 (R1.put i o1) q)
theorem wsx_forG {iv : PyData → Vd} {tg iter : Expr} {body : List Stmt} (is : List Nat) (hp : PassesOwn (model X.prog X.w) X.A X.env X.xe) (hc : X.calm = true)
    (h : WI X tg iter δ μ fun ds μ1 => ∃ I : Nat → Dl → Cells → Prop, I 0 δ μ1 ∧ (∀ i d δ' μ', ds[i]? = some d → I i δ' μ' → WGo X is tg (iv d) δ' μ' fun δ2 μ2 => WBx X W er body δ2 μ2 { nx := I (i + 1), rt := D.rt, bk := D.nx, ct := I (i + 1) }) ∧ ∀ δ' μ', I ds.length δ' μ' → D.nx δ' μ')
    (hw : itV iter = iv)
    (hs : ∀ x, foldedSetIterable iter X.env x = pure x := by intro _; rfl) : WSx X W er (.For tg iter body [] pos) δ μ D := fun F H σ R eb De b =>
  toS (ps_for hp hc (pcI X tg iter) (pcG X tg) (pcB X body) hs) (h F H σ R _ fun J ds F1 H1 μ1 w1 R1 wk q => by
    subst hw
    obtain ⟨I, h0, hturn, hend⟩ := q
    refine ⟨fun i m σ' H' => m = ds.length - i ∧ i ≤ ds.length ∧ ∃ F' δ' μ', Fw (ks μ1) (ks μ') F1 H1 F' H' ∧ Rp X.K F' H' σ' δ' μ' ∧ I i δ' μ', ⟨_, rfl, Nat.zero_le _, F1, δ, μ1, Fw.refl, R1, h0⟩, ?_⟩
    rintro i m σ' H' ⟨rfl, hi, F', δ', μ', w', R', hI⟩
    by_cases hlt : i < ds.length
    · refine .inr ⟨wk.go i F' H' hlt w'.f R'.m.ex, _, fun _ _ z => z, fun x H2 y => ?_⟩
      obtain ⟨F2, f1, f2, f3, f4, f5⟩ := wk.yld i F' H' x H2 _ (List.getElem?_eq_getElem hlt) w'.f R'.m.ex y
      obtain ⟨m2, w2⟩ := R'.m.nil_up f1 f2 f3 f4
      refine hturn i _ δ' μ' (List.getElem?_eq_getElem hlt) hI F2 H2 σ' (R'.to f1 m2) x f5 _ fun F3 H3 σ3 δ3 μ3 w3 R3 _ q3 => ?_
      have wa := (w'.trans w2).trans w3
      have back : ∀ F4 H4 σ4 δ4 μ4, Fw (ks μ3) (ks μ4) F3 H3 F4 H4 → Rp X.K F4 H4 σ4 δ4 μ4 → I (i + 1) δ4 μ4 → ∃ m', m' < ds.length - i ∧ (m' = ds.length - (i + 1) ∧ i + 1 ≤ ds.length ∧ ∃ F' δ' μ', Fw (ks μ1) (ks μ') F1 H1 F' H4 ∧ Rp X.K F' H4 σ4 δ' μ' ∧ I (i + 1) δ' μ') :=
        fun F4 H4 σ4 δ4 μ4 w4 R4 q4 => ⟨_, by omega, rfl, hlt, F4, δ4, μ4, wa.trans w4, R4, q4⟩
      have bb := (b.next w1).next wa
      exact q3 F3 H3 σ3 R3 ((eb.next w1).next wa) _ ⟨back, bb.rt, bb.nx, back⟩
    · have e : i = ds.length := by omega
      subst e
      exact .inl ⟨wk.stop F' H' w'.f R'.m.ex, b.nx F' H' σ' δ' μ' (w1.trans w') R' (hend δ' μ' hI)⟩)
theorem wsx_for {tg iter : Expr} {body : List Stmt} (is : List Nat) (hp : PassesOwn (model X.prog X.w) X.A X.env X.xe) (hc : X.calm = true)
    (h : WI X tg iter δ μ fun ds μ1 => ∃ I : Nat → Dl → Cells → Prop, I 0 δ μ1 ∧ (∀ i d δ' μ', ds[i]? = some d → I i δ' μ' → WGo X is tg (.d d) δ' μ' fun δ2 μ2 => WBx X W er body δ2 μ2 { nx := I (i + 1), rt := D.rt, bk := D.nx, ct := I (i + 1) }) ∧ ∀ δ' μ', I ds.length δ' μ' → D.nx δ' μ')
    (hs : ∀ x, foldedSetIterable iter X.env x = pure x := by intro _; rfl) (hw : itV iter = Vd.d := by rfl) : WSx X W er (.For tg iter body [] pos) δ μ D := wsx_forG is hp hc h hw hs
theorem wbx_names {N : List Str} {sts : List Stmt} (hN : X.N = N) (k : (∀ (i : Nat) x, N[i]? = some x → X.N[i]? = some x) → WBx X W er sts δ μ D) : WBx X W er sts δ μ D := k (by rw [hN]; exact fun _ _ h => h)
theorem wbx_drop {y : Addr × Cont} {sts : List Stmt} (h : WBx X W er sts δ μ D) : WBx X W er sts δ (y :: μ) D := fun F H σ R eb De b => by
  have R' : Rp X.K F H σ δ μ := ⟨⟨R.m.ex, (List.nodup_cons.mp R.m.nd).2, fun b ds m => R.m.cel b ds (List.mem_cons_of_mem _ m)⟩, R.len, R.env⟩
  have w : Fw (ks (y :: μ)) (ks μ) F H F H := Fw.refl.sub (fun _ h => h) fun x m => .inl (List.mem_cons_of_mem _ m)
  exact h F H σ R' (eb.next w) De (b.next w)
end
def ExcM (P : Program) (w : World) (K : PySem.W.Frag) (mg : Str → Option Value) (base : Heap) (k : Nat) (x f : Str) (C : Addr) : Prop :=
  ∃ (B newId initId : String) (bmB : List Value) (fI : Addr) (fd : FuncData) (ps : List Str), Bas B newId initId bmB ∧ Oxg K C newId bmB ∧ PySem.W.findIn K (.ref C) "__init__" = some (some (.ref fI)) ∧ PySem.W.typeIn K (.ref fI) = some (.type "function") ∧
    FnOk P w K mg base CX0 k fI fd ps (spIni C f (Fm K)) ∧ Binds K fd ps [] ∧ mg x = some (.ref C)
def FmD : PyData → Prop
  | .int i => i.natAbs.log2 < 1920
  | .tuple ds => ∃ ns : List Int, ds = intsD ns ∧ ns.length ≤ 1000 ∧ ∀ i ∈ ns, i.natAbs.log2 < 1920
  | _ => False
theorem fm_of {K : PySem.W.Frag} {F H : Hp} {d : PyData} {v : V} (e : Same F H) (h : De K F v d) (f : FmD d) : Fm K H v := by
  cases h with
  | int i => exact .int i f
  | tup h1 h2 h3 =>
    obtain ⟨ns, rfl, hl, hb⟩ := f
    have hv := dps_ints h3
    subst hv
    exact .tup (.inl (.inr ⟨_, e _ _ h1⟩)) hl hb
  | non => exact f.elim
  | bl b => exact f.elim
  | str x => exact f.elim
  | lst h1 h2 => exact f.elim
section
variable {X : Cx} {W : WX} {er : ErP} {δ : Dl} {μ : Cells} {e : Expr} {pos p pos' : Pos} {D : Dn}
theorem wsx_raise {P : Program} {w : World} {K : PySem.W.Frag} {mg : Str → Option Value} {base : Heap} {k : Nat} {x f : Str} {C : Addr} (m : ExcM P w K mg base k x f C) (tk : Takes X W) (hc : X.calm = true) (hr : Room (k + 1) X.A) (hg : Gl X x)
    (h : WE X e δ μ fun z μ1 => ∃ d, z = .d d ∧ FmD d ∧ er ⟨C, f, d⟩ δ μ1) (hX : (X.prog, X.w, X.K, X.mg, X.base) = (P, w, K, mg, base) := by rfl)
    (hdb : (x == ("__debug__" : Str)) = false := by decide) (he : starEach (e :: []) X.env = (false, eval e X.env) :: starEach [] X.env := by rfl) (hpl : (backTo pos (starEach [] X.env)).any (·.1) = false := by rfl) :
    WSx X W er (.Raise (some (.Call (.Name x p) [e] [] pos)) none pos') δ μ D := fun F H σ R eb De b => by
  obtain ⟨B, newId, initId, bmB, fI, fd, ps, Z, T, iC, tI, F1, hb, hm⟩ := m
  cases hX
  refine toS (ps_raise hc tk (pmk_own Z T iC tI F1 hr hb hg hm (pa_cons (pcE X e) pa_nil he) hdb he hpl)) ?_
  refine h F H σ R _ fun v z F1 H1 μ1 w1 R1 o1 q => ?_
  obtain ⟨d, rfl, hf, q⟩ := q
  refine ⟨v, rfl, fun a na => fm_of (Same.trans R1.m.ex (same_new na)) o1 hf, fun dd nd => ?_⟩
  obtain ⟨m2, w2⟩ := R1.m.new (o := .xd [(f, v)]) nd
  exact eb ⟨C, f, d⟩ _ _ _ _ σ δ μ1 (w1.trans w2) (R1.to w2.f m2) ⟨rfl, dd, v, rfl, upd_same, dp_up w2.f _ _ o1⟩ q
end
abbrev TrX := List Vd → Cells → (Vd → Cells → Prop) → (Exn → Cells → Prop) → Prop
def spX (K : PySem.W.Frag) (T : TrX) : Sp := fun vs H Q E => ∃ F xs μ R RE, RpM K F H μ ∧ VAll K F xs vs ∧ T xs μ R RE ∧ (∀ v x F' H' μ', Fw (ks μ) (ks μ') F H F' H' → RpM K F' H' μ' → VOk K F' x v → R x μ' → Q v H') ∧
  ∀ ex cls d F' H' μ', Fw (ks μ) (ks μ') F H F' H' → RpM K F' H' μ' → ExOk K F' ex cls d → RE ex μ' → E cls d H'
def CalX (P : Program) (w : World) (K : PySem.W.Frag) (mg : Str → Option Value) (base : Heap) (k : Nat) (x : Str) (T : TrX) : Prop :=
  ∃ f fd ps, FnG P w K mg base (L2.CX P w) k f fd ps (spX K T) ∧ mg x = some (.ref f) ∧ PySem.W.keepIn K (.ref f) = true ∧ Binds K fd ps []
def WCx (X : Cx) (W : WX) (E : Expr) (T : TrX) (δ : Dl) (μ : Cells) (QA : List Vd → Cells → Prop) : Prop := ∀ F H σ, Rp X.K F H σ δ μ → ∀ QV : VK,
  (∀ vs xs F' H' μ', Fw (ks μ) (ks μ') F H F' H' → Rp X.K F' H' σ δ μ' → VAll X.K F' xs vs → QA xs μ' → spX X.K T vs H' QV (fun cls d H2 => W cls d σ H2)) → cE X E σ H QV
section
variable {X : Cx} {W : WX} {er : ErP} {δ : Dl} {μ : Cells} {e E : Expr} {es : List Expr} {kws : List Keyword} {pos p : Pos} {Q : Vd → Cells → Prop}
theorem wcx_pos {P : Program} {w : World} {K : PySem.W.Frag} {mg : Str → Option Value} {base : Heap} {T : TrX} {k : Nat} {x : Str} {QA : List Vd → Cells → Prop} (c : CalX P w K mg base k x T) (tk : Takes X W) (hr : Room k X.A) (hg : Gl X x) (h : WA X (e :: es) δ μ QA)
    (hgd : X.A.guards = some [] := by assumption) (hX : (X.prog, X.w, X.K, X.mg, X.base) = (P, w, K, mg, base) := by rfl)
    (hdb : (x == ("__debug__" : Str)) = false := by decide) (he : starEach (e :: es) X.env = (false, eval e X.env) :: starEach es X.env := by rfl) (hpl : (backTo pos (starEach es X.env)).any (·.1) = false := by rfl) :
    WCx X W (.Call (.Name x p) (e :: es) [] pos) T δ μ QA := fun F H σ R QV kk => by
  obtain ⟨f, fd, ps, ok, hm, hk, hb⟩ := c
  cases hX
  exact toE (pe_callSg (E := L2.WE W) ok hr hgd hg hm hk hb (passAt tk) (pcA X (e :: es)) hdb he hpl) (h F H σ R _ fun vs xs F1 H1 μ1 w1 R1 o1 q => kk vs xs F1 H1 μ1 w1 R1 o1 q)
theorem wex_clP {T : TrX} (h : WCx X W E T δ μ fun xs μ1 => T xs [] (fun z μ' => Q z (μ' ++ μ1)) fun ex μ' => er ex δ (μ' ++ μ1)) : WEx X W er E δ μ Q := fun F H σ R eb QV kk =>
  h F H σ R QV fun vs xs F1 H1 μ1 w1 R1 o1 q => by
    have m0 : RpM X.K F1 H1 [] := ⟨R1.m.ex, List.nodup_nil, fun _ _ z => by cases z⟩
    refine ⟨F1, xs, [], _, _, m0, o1, q, fun v z F2 H2 μ2 w2 m2 o2 q2 => ?_, fun ex cls d F2 H2 μ2 w2 m2 o2 q2 => ?_⟩
    · obtain ⟨m3, w3⟩ := (R1.m : RpM X.K F1 H1 ([] ++ μ1)).frame w2 m2
      exact kk v z F2 H2 _ (w1.trans w3) (R1.to w2.f m3) o2 q2
    · obtain ⟨m3, w3⟩ := (R1.m : RpM X.K F1 H1 ([] ++ μ1)).frame w2 m2
      exact eb ex cls d F2 H2 σ δ _ (w1.trans w3) (R1.to w2.f m3) o2 q2
end
def bXx (P : Program) (w : World) (K : PySem.W.Frag) (mg : Str → Option Value) (base : Heap) (N : List Str) (qual : Str) (sc : Scope) (f : Addr) (cdv : Value) (A : Around) (outer : List Env) (s : Shared) (H : Hp) (E : XK) : Cx := cxOf (L2.CX P w) P w K mg base N qual sc f cdv A outer s H E
theorem bXx_takes {P : Program} {w : World} {K : PySem.W.Frag} {mg : Str → Option Value} {base : Heap} {N : List Str} {qual : Str} {sc : Scope} {f : Addr} {cdv : Value} {A : Around} {outer : List Env} {s : Shared} {H : Hp} {E : XK} : Takes (bXx P w K mg base N qual sc f cdv A outer s H E) (fun cls d _ H => E cls d H) := takes_of rfl rfl rfl rfl
theorem start_get {K : PySem.W.Frag} {G : Hp} {N : List Str} {xs : List Vd} {vs : List V} (ha : VAll K G xs vs) (el : xs.length = vs.length) {i : Nat} {y : Vd} (hy : (startD N xs)[i]? = some (some y)) : ∃ v, (L2.start N vs)[i]? = some (some v) ∧ VOk K G y v := by
  unfold startD at hy
  unfold L2.start
  by_cases hi : i < xs.length
  · rw [List.getElem?_append_left (by simpa using hi), List.getElem?_map] at hy
    rcases paired_get i ha with ⟨z, _⟩ | ⟨x, v, e1, e2, e3⟩
    · rw [z] at hy
      cases hy
    · rw [e1] at hy
      cases hy
      exact ⟨v, by rw [List.getElem?_append_left (by simp; omega), List.getElem?_map, e2]; rfl, e3⟩
  · rw [List.getElem?_append_right (by simp; omega)] at hy
    have := List.mem_of_getElem? hy
    rw [List.mem_replicate] at this
    cases this.2
theorem fn_wx {P : Program} {w : World} {K : PySem.W.Frag} {mg : Str → Option Value} {base : Heap} {x qual : Str} {st : Stmt} {f : Addr} {fd : FuncData} {N ps : List Str} {k : Nat} {T : TrX} (F : Fun K x qual st f fd) (S : FnScope N ps (defScope st))
    (hN : ps.length ≤ N.length) (len : ∀ xs μ R RE, T xs μ R RE → xs.length = ps.length)
    (body : ∀ (cdv : Value) (A : Around) (outer : List Env) (s : Shared) (H : Hp) (E : XK), Room k (bXx P w K mg base N qual (defScope st) f cdv A outer s H E).A → (bXx P w K mg base N qual (defScope st) f cdv A outer s H E).A.guards = some [] → ∀ xs μ R RE, T xs μ R RE →
      WBx (bXx P w K mg base N qual (defScope st) f cdv A outer s H E) (fun cls d _ H => E cls d H) (fun ex _ μ' => Keep μ' (RE ex)) (defBody st) (startD N xs) μ { nx := fun _ μ' => Keep μ' (R (.d .none)), rt := fun z μ' => Keep μ' (R z) }) : FnG P w K mg base (L2.CX P w) (k + 1) f fd ps (spX K T) := by
  refine FnG.body F S (fun vs H Q E h => ?_) (fun cdv A outer s H vs Q E hr hgd h => ?_)
  · obtain ⟨G, xs, μ, R, RE, _, ha, hT, _⟩ := h
    rw [← Paired.length ha]
    exact len _ _ _ _ hT
  · obtain ⟨G, xs, μ, R, RE, m, ha, hT, c, cx⟩ := h
    have el : xs.length = vs.length := Paired.length ha
    refine ⟨_, pcB (bXx P w K mg base N qual (defScope st) f cdv A outer s H E) _, body cdv A outer s H E hr hgd xs μ R RE hT G H (start N vs) ⟨m, ?_, fun i y hy => ?_⟩ (fun ex cls d F' H' σ' δ' μ' w' R' o' q => by
      obtain ⟨k', w2, m2, q⟩ := RpM.kept w' R'.m q
      exact cx ex cls d F' H' k' w2 m2 o' q) _ ⟨fun F' H' σ' δ' μ' w' R' q => by
      obtain ⟨k', w2, m2, q⟩ := RpM.kept w' R'.m q
      exact c _ (.d .none) F' H' k' w2 m2 .non q, fun v z F' H' μ' w' m' o' q => by
      obtain ⟨k', w2, m2, q⟩ := RpM.kept w' m' q
      exact c v z F' H' k' w2 m2 o' q, fun _ _ _ _ _ _ _ q => q.elim, fun _ _ _ _ _ _ _ q => q.elim⟩⟩
    · show (L2.start N vs).length = (startD N xs).length
      simp [L2.start, startD, el]
    · exact start_get ha el hy
theorem calx_of {P : Program} {w : World} {K : PySem.W.Frag} {mg : Str → Option Value} {base : Heap} {x : Str} {f : Addr} {fd : FuncData} {ps : List Str} {k : Nat} {T : TrX} (ok : FnG P w K mg base (L2.CX P w) k f fd ps (spX K T)) (g : mg x = some (.ref f)) (kp : PySem.W.keepIn K (.ref f) = true) (b : Binds K fd ps []) :
    CalX P w K mg base k x T := ⟨f, fd, ps, ok, g, kp, b⟩
section
variable {X : Cx} {W : WX} {er : ErP} {δ : Dl} {μ : Cells} {D : Dn} {n y : Str} {i j : Nat} {body : List Stmt} {t : Expr} {cs : List Value} {p1 p2 p3 hpos pos : Pos}
end
inductive ClsN (X : Cx) : Expr → V → Value → Prop
  | own {x : Str} {p : Pos} {C : Addr} (hg : Gl X x) (hm : X.mg x = some (.ref C)) (hd : (x == ("__debug__" : Str)) = false) : ClsN X (.Name x p) (.ref C) (.ref C)
  | blt {x : Str} {p : Pos} {T : String} (hg : Gl X x) (hm : X.mg x = none) (hv : bootBuiltins x = some (.type T)) (hn : x ≠ "__name__") (hd : (x == ("__debug__" : Str)) = false) : ClsN X (.Name x p) (.ty T) (.type T)
theorem ClsN.pe {X : Cx} {e : Expr} {c : V} {cv : Value} (h : ClsN X e c cv) : PE X e (tC c) := by
  cases h with
  | own hg hm hd => exact ⟨fun pins s σ H Q I q => ld_glob I hg hm ⟨.ref _, H, I, (rfl : _ = _), q⟩ hd⟩
  | blt hg hm hv hn hd => exact pe_bltn (v := .ty _) hg hm hv rfl hn hd
theorem ClsN.rel {X : Cx} {e : Expr} {c : V} {cv : Value} (h : ClsN X e c cv) {u : Value} (r : RelV c u) : u = cv := by
  cases h with
  | own hg hm hd => exact r
  | blt hg hm hv hn hd => exact r
inductive ClsA (X : Cx) : List Expr → List V → List Value → Prop
  | nil : ClsA X [] [] []
  | cons {e : Expr} {es : List Expr} {c : V} {cs : List V} {v : Value} {vs : List Value} (h : ClsN X e c v) (hs : starEach (e :: es) X.env = (false, eval e X.env) :: starEach es X.env) (r : ClsA X es cs vs) : ClsA X (e :: es) (c :: cs) (v :: vs)
def tCs : List V → TA
  | [] => tNil
  | c :: cs => tCons (tC c) (tCs cs)
theorem ClsA.pa {X : Cx} {es : List Expr} {cs : List V} {vs : List Value} (h : ClsA X es cs vs) : PA X es (tCs cs) := by
  induction h with
  | nil => exact pa_nil
  | cons h hs r ih => exact pa_cons h.pe ih hs
theorem ClsA.rel {X : Cx} {es : List Expr} {cs : List V} {vs : List Value} (h : ClsA X es cs vs) : ∀ us, Vals cs us → us = vs := by
  induction h with
  | nil =>
    intro us r
    cases r
    rfl
  | cons h hs r ih =>
    intro us q
    cases q with
    | cons q1 q2 => rw [h.rel q1, ih _ q2]
section
variable {X : Cx} {δ : Dl} {μ : Cells} {e : Expr} {pos p : Pos} {Q : Vd → Cells → Prop} {mg : Str → Option Value}
end
def clsS (st : Stmt) (j : Nat) : Stmt := match st with
  | .ClassDef _ _ _ body _ _ _ _ _ _ _ => body.getD j (.Pass ⟨0, 0, 0, 0⟩)
  | _ => .Pass ⟨0, 0, 0, 0⟩
def Txt (X : Cx) (e : Expr) (n : Nat) : Prop := ∃ t, PE X e t ∧ ∀ σ H Q v, σ[1]? = some (some v) → Fm X.K H v → (∀ m : Str, m.length ≤ n → Q (.str m) H) → t σ H Q
theorem txt_c {X : Cx} {x : Str} {j : Nat} {pos : Pos} (n : Nat) (h : x.length ≤ n) : Txt X (.Constant (.str x) j pos) n := ⟨_, pe_str, fun _ _ _ _ _ _ q => q x h⟩
theorem txt_v {X : Cx} {x : Str} {k : Nat} {pos p : Pos} (hr : Room k X.A) (hN : X.N[1]? = some x) (hv : Vis X.env.scope x) (hd : (x == ("__debug__" : Str)) = false) (hcd : (x == ("__classdict__" : Str)) = false) : Txt X (.FormattedValue (.Name x p) (-1) none pos) 2000000 :=
  ⟨_, pe_fmD hr (pe_var hN hv hd hcd), fun σ H Q v e f q => ⟨v, e, f, q⟩⟩
inductive Parts (X : Cx) : List Expr → Nat → Prop
  | nil : Parts X [] 0
  | cons {e : Expr} {es : List Expr} {n m : Nat} (h : Txt X e n) (r : Parts X es m) : Parts X (e :: es) (n + m)
theorem Parts.run {X : Cx} {es : List Expr} {n : Nat} (h : Parts X es n) : ∃ ts, PJ X es ts ∧ ∀ (acc : Str) σ H (Q : Str → Hp → Prop) v, σ[1]? = some (some v) → Fm X.K H v → acc.length + n ≤ sizeLine → (∀ out, Q out H) → tJs ts acc σ H Q := by
  induction h with
  | nil => exact ⟨[], .nil, fun acc σ H Q v _ _ _ q => q acc⟩
  | @cons e es n m h r ih =>
    obtain ⟨ts, h1, h2⟩ := ih
    obtain ⟨t, g1, g2⟩ := h
    refine ⟨t :: ts, .cons g1 h1, fun acc σ H Q v e1 e2 hz q => g2 σ H _ v e1 e2 fun y hy => ⟨y, rfl, ?_, h2 _ σ H Q v e1 e2 ?_ q⟩⟩
    · rw [strLen_append]
      omega
    · rw [strLen_append]
      omega
theorem ini_fn {P : Program} {w : World} {K : PySem.W.Frag} {mg : Str → Option Value} {base : Heap} {qual : Str} {st : Stmt} {f : Addr} {fd : FuncData} {k : Nat} {B newId initId : String} {bmB : List Value} {bx arg fld : Str} {C : Addr} {v1 v2 : Expr} {vs : List Expr} {p1 p2 p3 p4 p5 p6 p7 p8 p9 pj : Pos}
    (F : Fun K "__init__" qual st f fd) (S : FnScope ["self", arg] ["self", arg] (defScope st)) (Z : Bas B newId initId bmB) (T : Oxg K C newId bmB) (hno : PySem.W.findIn K (.ref C) fld = some none) (hm : mg bx = none) (hv : bootBuiltins bx = some (.type B))
    (vV : PySem.W.findCls K (.type B) (.type "type") "__init__" = some (.val (.builtin initId))) (hst : Manifest.isStub B = false) (hh : PySem.W.handedIn (.builtin initId) = true) (hn : bx ≠ "__name__") (hdb : (bx == ("__debug__" : Str)) = false)
    (hb : defBody st = [.Expr (.Call (.Attribute (.Name bx p1) "__init__" p2) [.Name "self" p3, .JoinedStr (v1 :: v2 :: vs) pj] [] p4) p5, .Assign [.Attribute (.Name "self" p6) fld p7] (.Name arg p8) p9])
    (h0 : (defScope st).names.lookup ("self" : Str) = some .local) (h1 : (defScope st).names.lookup arg = some .local) (ha1 : (arg == ("__debug__" : Str)) = false) (ha2 : (arg == ("__classdict__" : Str)) = false)
    (hg : ∀ X : Cx, X.env.scope = defScope st → Gl X bx) (pl : Cx → Sem Bool)
    (hc : ∀ X : Cx, X.env.scope = defScope st → eval (.Call (.Attribute (.Name bx p1) "__init__" p2) [.Name "self" p3, .JoinedStr (v1 :: v2 :: vs) pj] [] p4) X.env = (do
      let ov ← eval (.Name bx p1) X.env
      standAt p2.atName
      let (g, first) ← holding [ov] (getMethod ov "__init__" (pl X))
      callWith p4 g first (backTo p4 (starEach [.Name "self" p3, .JoinedStr (v1 :: v2 :: vs) pj] X.env)) (backToKw p4 (keywordEach [] X.env))))
    (hp : ∀ X : Cx, Room k X.A → X.N[1]? = some arg → X.env.scope = defScope st → ∃ n, Parts X (v1 :: v2 :: vs) n ∧ n ≤ 16000000)
    (q1 : ∀ X : Cx, X.env.scope = defScope st → swapsWith (.Call (.Attribute (.Name bx p1) "__init__" p2) [.Name "self" p3, .JoinedStr (v1 :: v2 :: vs) pj] [] p4) none p5.line X.env = pure false)
    (q2 : ∀ X : Cx, X.env.scope = defScope st → swapsWith (.Name arg p8) (some (.Attribute (.Name "self" p6) fld p7)) p9.line X.env = pure false) : FnOk P w K mg base CX0 (k + 1) f fd ["self", arg] (spIni C fld (Fm K)) := by
  refine F.ok S (fun vs H Q E h => ?_) fun cdv A outer s H vs' Q E hr h => ?_
  · obtain ⟨a, y, rfl, _⟩ := h
    rfl
  · obtain ⟨a, y, rfl, ea, hf, hq⟩ := h
    rw [hb]
    obtain ⟨n, hpn, hle⟩ := hp (cxOf CX0 P w K mg base ["self", arg] qual (defScope st) f cdv A outer s H E).nox hr rfl rfl
    obtain ⟨ts, hj, hrun⟩ := hpn.run
    refine ⟨_, pss_cons (ps_expr (pe_ini Z (hg _ rfl) hm hv vV hst hh hn hdb (pa_cons (pe_var (i := 0) rfl (.inl h0)) (pa_cons (pe_joined hj) pa_nil)) (hc _ rfl)) (q1 _ rfl)) (pss_one (ps_sto Z (pe_var (i := 0) rfl (.inl h0)) (pe_var (i := 1) rfl (.inl h1) ha1 ha2) (q2 _ rfl))), ?_⟩
    refine ⟨.ref a, rfl, hrun Str.empty _ H _ y rfl hf (by rw [sizeLine_eq]; exact Nat.le_trans (Nat.add_le_add_left hle _) (by decide)) fun out => ?_⟩
    refine ⟨a, C, [.str out], rfl, (by decide : 1 ≤ 1000), T, ea, ?_⟩
    exact ⟨y, rfl, .ref a, rfl, a, C, rfl, T, hno, ea, fun dx hdx ne => hq dx hdx ne⟩
end Ec
set_option Elab.async false
set_option linter.all false
set_option maxRecDepth 100000
set_option maxHeartbeats 4000000
namespace Ec
open PySem PySem.Spec PyProof.Rows L2
def orX (T0 : TrD) (T1 : TrX) : TrX := fun xs μ R RE => T0 xs μ R ∨ T1 xs μ R RE
theorem fn_or {P : Program} {w : World} {K : PySem.W.Frag} {mg : Str → Option Value} {base : Heap} {k : Nat} {f : Addr} {fd : FuncData} {ps : List Str} {T0 : TrD} {T1 : TrX} (F0 : FnG P w K mg base CX0 k f fd ps (spW K T0)) (F1 : FnG P w K mg base (L2.CX P w) k f fd ps (spX K T1)) :
    FnG P w K mg base (L2.CX P w) k f fd ps (spX K (orX T0 T1)) := by
  refine ⟨fun vs H Q E h => ?_, fun A outer s H args us vs Q E hr hgd he hb hv h => ?_⟩
  · obtain ⟨F, xs, μ, R, RE, m, o, t, c, cx⟩ := h
    rcases t with t | t
    · exact F0.len vs H Q E ⟨F, xs, μ, R, m, o, t, c⟩
    · exact F1.len vs H Q E ⟨F, xs, μ, R, RE, m, o, t, c, cx⟩
  · obtain ⟨F, xs, μ, R, RE, m, o, t, c, cx⟩ := h
    rcases t with t | t
    · refine codeAny_mono (F0.run A outer s H args us vs Q E hr hgd he hb hv ⟨F, xs, μ, R, m, o, t, c⟩) fun r s' hq => ?_
      match r, hq with
      | .error e, hq => exact hq.elim
      | .ok (.ret u), hq => exact hq
      | .ok .next, hq => exact hq.elim
      | .ok .brk, hq => exact hq.elim
      | .ok .cont, hq => exact hq.elim
    · exact F1.run A outer s H args us vs Q E hr hgd he hb hv ⟨F, xs, μ, R, RE, m, o, t, c, cx⟩
theorem Ps.len {c : Co} {t : List Int} (h : Ps c t) : t.length ≤ c.length := by
  have := nodup_le (h.up.imp fun z => by omega) (rng_nodup c.length) fun x m => mem_rng.mpr (h.rg x m)
  rwa [rng_len] at this
end Ec
set_option Elab.async false
set_option linter.all false
namespace Ec
open PySem PySem.Spec PyProof.Rows L2
def wn (c : Co) (p v : Int) : Co := c.set p.toNat ((c.getD p.toNat ([], 0)).1, v)
theorem wn_len (c : Co) (p v : Int) : (wn c p v).length = c.length := List.length_set
theorem wn_at {c : Co} {p : Int} (h0 : 0 ≤ p) (h1 : p < c.length) : c[p.toNat]? = some (c.getD p.toNat ([], 0)) := by
  have hl : p.toNat < c.length := by omega
  rw [List.getD_eq_getElem?_getD, List.getElem?_eq_getElem hl]
  rfl
theorem wn_mem {c : Co} {p : Int} (h0 : 0 ≤ p) (h1 : p < c.length) : c.getD p.toNat ([], 0) ∈ c := List.mem_of_getElem? (wn_at h0 h1)
theorem wn_nd {c : Co} {p v : Int} (h0 : 0 ≤ p) (h1 : p < c.length) (q : Int) : nd (wn c p v) q = if p.toNat = q.toNat then v else nd c q := nd_set (wn_at h0 h1) q
theorem wn_cnt {c : Co} {p v : Int} (h0 : 0 ≤ p) (h1 : p < c.length) (t : List Int) (q : Int) : cnt (wn c p v) t q = cnt c t q := cnt_set (wn_at h0 h1) t q
theorem wn_cow {c : Co} {p v : Int} (h0 : 0 ≤ p) (h1 : p < c.length) (hv : 0 ≤ v) (hv2 : v ≤ 1000) (w : CoW c) : CoW (wn c p v) where
  up := fun e he => by
    rcases List.mem_or_eq_of_mem_set he with m | rfl
    · exact w.up e m
    · exact w.up (c.getD p.toNat ([], 0)) (wn_mem h0 h1)
  nn := fun e he => by
    rcases List.mem_or_eq_of_mem_set he with m | rfl
    · exact w.nn e m
    · exact hv
  nb := fun e he => by
    rcases List.mem_or_eq_of_mem_set he with m | rfl
    · exact w.nb e m
    · exact hv2
  lt := fun e he => by
    rw [wn_len]
    rcases List.mem_or_eq_of_mem_set he with m | rfl
    · exact w.lt e m
    · exact w.lt (c.getD p.toNat ([], 0)) (wn_mem h0 h1)
  no := fun i e he => by
    unfold wn at he
    by_cases hi : p.toNat = i
    · subst hi
      rw [List.getElem?_set_self (by omega)] at he
      cases he
      exact w.no p.toNat (c.getD p.toNat ([], 0)) (wn_at h0 h1)
    · rw [List.getElem?_set_ne hi] at he
      exact w.no i e he
theorem Wid.refl (c : Co) : Wid c c := ⟨rfl, fun _ _ _ _ h => h, fun _ _ _ => Int.le_refl _⟩
theorem Wid.trans {a b c : Co} (h : Wid a b) (g : Wid b c) : Wid a c := ⟨g.len.trans h.len, fun p h0 h1 x m => g.fr p h0 (by rw [h.len]; exact h1) x (h.fr p h0 h1 x m), fun p h0 h1 => Int.le_trans (g.nd p h0 (by rw [h.len]; exact h1)) (h.nd p h0 h1)⟩
abbrev T_withn : TrD := fun xs μ R => ∃ (dc : PyData) (c : Co) (p v : Int), xs = [.d dc, .d (.int p), .d (.int v)] ∧ CoD dc c ∧ 0 ≤ p ∧ p < c.length ∧ R (.d (coD (wn c p v))) μ
theorem coD_wn {c : Co} {k : Nat} {v : Int} (h : k < c.length) : (c.map enD).set k (.tuple [.tuple (intsD (c.getD k ([], 0)).1), .int v]) = (wn c (k : Int) v).map enD := by
  unfold wn
  rw [List.map_set]
  rfl
theorem atI_enD {c : Co} {k : Nat} (h : k < c.length) : atI (c.map enD) (k : Int) = some (enD (c.getD k ([], 0))) := atI_map _ h
def Esr (c c2 : Co) : Prop := ∀ (j : Nat) (e : List Int × Int), c2[j]? = some e → e.1.Sublist (rng c.length) ∧ (j : Int) ∉ e.1 ∧ (∀ x ∈ fr c (j : Int), x ∈ e.1) ∧ 0 ≤ e.2 ∧ e.2 ≤ nd c (j : Int)
theorem Esr.nil (c : Co) : Esr c [] := fun j e h => by simp at h
theorem Esr.add {c c2 : Co} {e : List Int × Int} (h : Esr c c2) (h1 : e.1.Sublist (rng c.length)) (h2 : (c2.length : Int) ∉ e.1) (h3 : ∀ x ∈ fr c (c2.length : Int), x ∈ e.1) (h4 : 0 ≤ e.2) (h5 : e.2 ≤ nd c (c2.length : Int)) : Esr c (c2 ++ [e]) := fun j x hj => by
  by_cases hl : j < c2.length
  · rw [List.getElem?_append_left hl] at hj
    exact h j x hj
  · rw [List.getElem?_append_right (by omega)] at hj
    have e0 : j - c2.length = 0 := by
      have := (List.getElem?_eq_some_iff.mp hj).1
      simp at this
      omega
    rw [e0] at hj
    cases hj
    have ej : j = c2.length := by omega
    subst ej
    exact ⟨h1, h2, h3, h4, h5⟩
theorem Esr.all {c c2 : Co} (w : CoW c) (h : Esr c c2) (hl : c2.length = c.length) : Wid c c2 ∧ CoW c2 := by
  have at_ : ∀ p : Int, 0 ≤ p → p < c.length → ∃ e, c2[p.toNat]? = some e ∧ fr c2 p = e.1 ∧ nd c2 p = e.2 ∧ ((p.toNat : Nat) : Int) = p := fun p h0 h1 => by
    have hi : p.toNat < c2.length := by omega
    refine ⟨c2[p.toNat], List.getElem?_eq_getElem hi, ?_, ?_, by omega⟩
    · unfold fr
      rw [List.getD_eq_getElem?_getD, List.getElem?_eq_getElem hi]
      rfl
    · unfold nd
      rw [List.getD_eq_getElem?_getD, List.getElem?_eq_getElem hi]
      rfl
  refine ⟨⟨hl, fun p h0 h1 x m => ?_, fun p h0 h1 => ?_⟩, CoP.whole fun j e hj => ?_⟩
  · obtain ⟨e, e1, e2, e3, e4⟩ := at_ p h0 h1
    rw [e2]
    exact (h _ e e1).2.2.1 x (by rw [e4]; exact m)
  · obtain ⟨e, e1, e2, e3, e4⟩ := at_ p h0 h1
    rw [e3]
    have := (h _ e e1).2.2.2.2
    rwa [e4] at this
  · obtain ⟨g1, g2, _, g4, g5⟩ := h j e hj
    have hj2 := (List.getElem?_eq_some_iff.mp hj).1
    have hnb := w.nb _ (wn_mem (c := c) (p := (j : Int)) (by omega) (by omega))
    rw [hl]
    exact ⟨g1, g2, g4, Int.le_trans g5 hnb⟩
theorem getI_put {k : Int} {d : PyData} {k' : Int} : ∀ {kvs : List (Int × PyData)}, getI (putI kvs k d) k' = if k' = k then some d else getI kvs k'
  | [] => by
    unfold putI getI
    by_cases e : k = k'
    · rw [if_pos e, if_pos e.symm]
    · rw [if_neg e, if_neg fun z => e z.symm]
      rfl
  | p :: r => by
    unfold putI
    by_cases e : p.1 = k
    · rw [if_pos e]
      unfold getI
      by_cases e2 : k = k'
      · rw [if_pos e2, if_pos e2.symm]
      · rw [if_neg e2, if_neg (fun z => e2 z.symm), if_neg (by rw [e]; exact e2)]
    · rw [if_neg e]
      unfold getI
      by_cases e2 : p.1 = k'
      · rw [if_pos e2, if_pos e2, if_neg (by rw [← e2]; exact e)]
      · rw [if_neg e2, if_neg e2, getI_put]
theorem getI_merge {v : PyData} {k' : Int} : ∀ (s : List Int) {kvs : List (Int × PyData)}, getI (mergeI kvs (s.map fun y => (y, v))) k' = if k' ∈ s then some v else getI kvs k'
  | [], _ => by simp [mergeI]
  | y :: s, kvs => by
    refine (show getI (mergeI kvs ((y :: s).map fun y => (y, v))) k' = getI (mergeI (putI kvs y v) (s.map fun y => (y, v))) k' from rfl).trans ?_
    rw [getI_merge s, getI_put]
    by_cases h1 : k' ∈ s
    · rw [if_pos h1, if_pos (List.mem_cons_of_mem _ h1)]
    · rw [if_neg h1]
      by_cases h2 : k' = y
      · rw [if_pos h2, if_pos (by rw [h2]; exact List.mem_cons_self)]
      · rw [if_neg h2, if_neg (by
          intro z
          rcases List.mem_cons.mp z with z | z
          · exact h2 z
          · exact h1 z)]
structure Rd (c : Co) (i : Nat) (kvs : List (Int × PyData)) : Prop where
  nd : ndI kvs
  key : ∀ x, x ∈ kvs.map Prod.fst ↔ x ∈ sof c i
  val : ∀ x d, getI kvs x = some d → ∃ (j : Nat) (s : List Int), j < i ∧ d = .int (j : Int) ∧ (AR c [] [])[j]? = some s ∧ x ∈ s
theorem Rd.zero (c : Co) : Rd c 0 [] := ⟨List.nodup_nil, fun x => by rw [sof_zero]; simp, fun x d h => by cases h⟩
theorem Rd.step {c : Co} {i : Nat} {kvs : List (Int × PyData)} {s : List Int} (h : Rd c i kvs) (hs : (AR c [] [])[i]? = some s) : Rd c (i + 1) (mergeI kvs (s.map fun y => (y, .int (i : Int)))) := by
  have hn := mergeI_nd (more := s.map fun y => (y, PyData.int (i : Int))) h.nd
  refine ⟨hn, fun x => ?_, fun x d hd => ?_⟩
  · rw [← sof_succ hs, mem_srt, List.mem_append]
    have k : x ∈ (mergeI kvs (s.map fun y => (y, PyData.int (i : Int)))).map Prod.fst ↔ getI (mergeI kvs (s.map fun y => (y, PyData.int (i : Int)))) x ≠ none :=
      ⟨fun m z => getI_none.mp z m, fun z => by
        by_cases e : x ∈ (mergeI kvs (s.map fun y => (y, PyData.int (i : Int)))).map Prod.fst
        · exact e
        · exact absurd (getI_none.mpr e) z⟩
    rw [k, getI_merge]
    by_cases e : x ∈ s
    · rw [if_pos e]
      simp [e]
    · rw [if_neg e]
      constructor
      · intro z
        refine .inl ((h.key x).mp ?_)
        by_cases e2 : x ∈ kvs.map Prod.fst
        · exact e2
        · exact absurd (getI_none.mpr e2) z
      · rintro (z | z)
        · intro q
          exact getI_none.mp q ((h.key x).mpr z)
        · exact absurd z e
  · rw [getI_merge] at hd
    by_cases e : x ∈ s
    · rw [if_pos e] at hd
      cases hd
      exact ⟨i, s, by omega, rfl, hs, e⟩
    · rw [if_neg e] at hd
      obtain ⟨j, t, h1, h2, h3, h4⟩ := h.val x d hd
      exact ⟨j, t, by omega, h2, h3, h4⟩
theorem sof_mono {c : Co} {x : Int} : ∀ {i j : Nat}, i ≤ j → x ∈ sof c i → x ∈ sof c j := fun {i j} h m => by
  unfold sof at *
  rw [mem_srt] at *
  have e : (AR c [] []).take j = (AR c [] []).take i ++ ((AR c [] []).take j).drop i := by
    have z := List.take_append_drop i ((AR c [] []).take j)
    rw [List.take_take, Nat.min_eq_left h] at z
    exact z.symm
  rw [e, List.flatten_append]
  exact List.mem_append_left _ m
theorem sof_big {c : Co} {i : Nat} (h : (AR c [] []).length ≤ i) : sof c i = gr c := by
  rw [← sof_all]
  unfold sof
  rw [List.take_of_length_le h, List.take_length]
theorem Wid.sof {c c' : Co} (h : Wid c c') (w : CoW c) (w' : CoW c') {x : Int} : ∀ i, x ∈ sof c i → x ∈ Ec.sof c' i
  | 0, m => by
    rw [sof_zero] at m
    cases m
  | i + 1, m => by
    have up : x ∈ Ec.sof c i → x ∈ Ec.sof c' (i + 1) := fun z => sof_mono (Nat.le_succ i) (Wid.sof h w w' i z)
    by_cases hi : i < (AR c [] []).length
    · have e := List.getElem?_eq_getElem hi
      rw [← sof_succ e, mem_srt, List.mem_append] at m
      rcases m with m | m
      · exact up m
      · rw [(AR_at e).1] at m
        obtain ⟨⟨h0, h1⟩, h2, h3⟩ := mem_nexts.mp m
        have hc := h.comes w w' (t := Ec.sof c i) (t' := Ec.sof c' i) (fun y my => Wid.sof h w w' i (x := y) my) h0 h1 h3
        by_cases hx : x ∈ Ec.sof c' i
        · exact sof_mono (Nat.le_succ i) hx
        · have hn : x ∈ Ec.nexts c' (Ec.sof c' i) := mem_nexts.mpr ⟨⟨h0, by rw [h.len]; exact h1⟩, hx, hc⟩
          by_cases hi' : i < (AR c' [] []).length
          · have e' := List.getElem?_eq_getElem hi'
            rw [← sof_succ e', mem_srt, List.mem_append]
            refine .inr ?_
            rw [(AR_at e').1]
            exact hn
          · rw [sof_big (by omega), nexts_gr] at hn
            cases hn
    · have e : Ec.sof c (i + 1) = Ec.sof c i := by rw [sof_big (by omega), sof_big (by omega)]
      rw [e] at m
      exact up m
end Ec
set_option Elab.async false
set_option linter.all false
set_option maxRecDepth 100000
set_option maxHeartbeats 4000000
namespace Ec
open PySem PySem.Spec PyProof.Rows L2
inductive RefA (X : Cx) : List Expr → List Addr → Prop
  | nil : RefA X [] []
  | cons {x : Str} {p : Pos} {a : Addr} {es : List Expr} {as : List Addr} (hg : Gl X x) (hm : X.mg x = some (.ref a)) (hd : (x == ("__debug__" : Str)) = false) (hs : starEach (.Name x p :: es) X.env = (false, eval (.Name x p) X.env) :: starEach es X.env) (r : RefA X es as) : RefA X (.Name x p :: es) (a :: as)
theorem pe_ref {X : Cx} {x : Str} {p : Pos} {a : Addr} (hg : Gl X x) (hm : X.mg x = some (.ref a)) (hd : (x == ("__debug__" : Str)) = false) : PE X (.Name x p) (tC (.ref a)) :=
  ⟨fun pins s σ H Q I q => ld_glob I hg hm ⟨.ref _, H, I, (rfl : _ = _), q⟩ hd⟩
theorem RefA.pa {X : Cx} {es : List Expr} {as : List Addr} (h : RefA X es as) : PA X es (tCs (as.map V.ref)) := by
  induction h with
  | nil => exact pa_nil
  | cons hg hm hd hs r ih => exact pa_cons (pe_ref hg hm hd) ih hs
section
variable {X : Cx} {W : WX} {er : ErP} {δ : Dl} {μ : Cells} {e ix : Expr} {es fs : List Expr} {pos p1 p2 : Pos}
end
end Ec
set_option Elab.async false
set_option linter.all false
set_option maxRecDepth 100000
set_option maxHeartbeats 4000000
namespace Ec
open PySem PySem.Spec PyProof.Rows L2
abbrev T_lookpX (C : Addr) : TrX := fun xs μ _ RE => ∃ dc c p, xs = [.d dc, .d (.int p)] ∧ CoD dc c ∧ c.length < 64 ∧ ¬ (0 ≤ p ∧ p < c.length) ∧ p.natAbs.log2 < 1920 ∧ RE ⟨C, "person", .int p⟩ μ
abbrev T_lookpE (C : Addr) : TrX := orX T_lookp (T_lookpX C)
def told (c : Co) (k : Int) (p : Int) : PyData :=
  if nev c = [] then (if 0 ≤ p ∧ p < c.length then (if k = 2 then .tuple (intsD (er c p)) else if k = 3 then .tuple (intsD (bh c p)) else .int ((cl c [] [p]).length : Nat)) else .tuple [.str "no person", .int p])
  else .tuple [.str "stuck", .tuple (intsD (nev c))]
theorem coi_at {c : Co} {s : Nat} (h : s < c.length) : atI (c.map enD) (s : Int) = some (.tuple [.tuple (intsD (fr c (s : Int))), .int (nd c (s : Int))]) := by
  refine (atI_map ([], 0) h).trans ?_
  rfl
end Ec
set_option Elab.async false
set_option linter.all false
set_option maxRecDepth 100000
set_option maxHeartbeats 4000000
namespace Ec
open PySem PySem.Spec PyProof.Rows L2
def Mate (c c2 : Co) : Prop := ∀ (j : Nat) (e : List Int × Int), c2[j]? = some e → ∃ e', c[j]? = some e' ∧ e.1 = e'.1 ∧ 0 ≤ e.2 ∧ e.2 ≤ 1000
theorem Mate.nil (c : Co) : Mate c [] := fun j e h => by simp at h
theorem Mate.add {c c2 : Co} {x : List Int × Int} {v : Int} (h : Mate c c2) (hx : c[c2.length]? = some x) (hv : 0 ≤ v) (hv2 : v ≤ 1000) : Mate c (c2 ++ [(x.1, v)]) := fun j e hj => by
  by_cases hl : j < c2.length
  · rw [List.getElem?_append_left hl] at hj
    exact h j e hj
  · rw [List.getElem?_append_right (by omega)] at hj
    have hz : j - c2.length = 0 := by
      have := (List.getElem?_eq_some_iff.mp hj).1
      simp at this
      omega
    have hj2 : j = c2.length := by omega
    rw [hz] at hj
    cases hj
    subst hj2
    exact ⟨x, hx, rfl, hv, hv2⟩
end Ec
set_option Elab.async false
set_option linter.all false
set_option maxRecDepth 100000
set_option maxHeartbeats 4000000
namespace Ec
open PySem PySem.Spec PyProof.Rows L2
theorem shownAll_map : ∀ ds : List PyData, PyData.shownAll ds = ds.map PyData.shown
  | [] => by simp only [PyData.shownAll, List.map_nil]
  | d :: ds => by simp only [PyData.shownAll, List.map_cons, shownAll_map ds]
theorem showableAll_of : ∀ {ds : List PyData}, (∀ d ∈ ds, d.showable = true) → PyData.showableAll ds = true
  | [], _ => by simp only [PyData.showableAll]
  | d :: ds, h => by
    simp only [PyData.showableAll, Bool.and_eq_true]
    exact ⟨h d List.mem_cons_self, showableAll_of fun x m => h x (List.mem_cons_of_mem _ m)⟩
theorem hasDictAll_of : ∀ {ds : List PyData}, (∀ d ∈ ds, d.hasDict = false) → PyData.hasDictAll ds = false
  | [], _ => by simp only [PyData.hasDictAll]
  | d :: ds, h => by
    simp only [PyData.hasDictAll, Bool.or_eq_false_iff]
    exact ⟨h d List.mem_cons_self, hasDictAll_of fun x m => h x (List.mem_cons_of_mem _ m)⟩
theorem depthAll_of {n : Nat} : ∀ {ds : List PyData}, (∀ d ∈ ds, d.depth ≤ n) → PyData.depthAll ds ≤ n
  | [], _ => by simp only [PyData.depthAll]; exact Nat.zero_le _
  | d :: ds, h => by
    simp only [PyData.depthAll]
    exact Nat.max_le.mpr ⟨h d List.mem_cons_self, depthAll_of fun x m => h x (List.mem_cons_of_mem _ m)⟩
structure Shw (n k : Nat) (d : PyData) : Prop where
  sh : d.showable = true
  nd : d.hasDict = false
  dp : d.depth ≤ k
  ln : d.shown.length ≤ n
theorem Shw.mono {n m k : Nat} {d : PyData} (h : Shw n k d) (l : n ≤ m) : Shw m k d := ⟨h.sh, h.nd, h.dp, Nat.le_trans h.ln l⟩
theorem Shw.int {i : Int} (h : i.natAbs < 10 ^ 9) : Shw 10 0 (.int i) := by
  refine ⟨?_, by simp only [PyData.hasDict], by simp only [PyData.depth]; exact Nat.le_refl _, ?_⟩
  · simp only [PyData.showable]
    refine decide_eq_true ?_
    by_cases h0 : i.natAbs = 0
    · rw [h0]
      decide
    · exact (Nat.log2_lt h0).mpr (Nat.lt_of_lt_of_le h (Nat.le_trans (by decide : 10 ^ 9 ≤ 2 ^ 100) (Nat.pow_le_pow_right (by decide) (by decide))))
  · simp only [PyData.shown]
    have e := int_text_length_le10 (k := 9) (by decide) h
    refine Nat.le_trans ?_ e
    show (Str.ofString (toString i)).length ≤ _
    rw [PySem.ofString_length]
    exact Nat.le_refl _
theorem sum_le {n : Nat} : ∀ {l : List Nat}, (∀ x ∈ l, x ≤ n) → l.sum ≤ l.length * n
  | [], _ => by simp
  | x :: l, h => by
    have h1 := h x List.mem_cons_self
    have h2 := sum_le (n := n) (l := l) fun y m => h y (List.mem_cons_of_mem _ m)
    rw [List.sum_cons, List.length_cons, Nat.succ_mul]
    omega
theorem shown_sum {n k : Nat} {ds : List PyData} (h : ∀ d ∈ ds, Shw n k d) : ((PyData.shownAll ds).map (·.length)).sum + 2 * (PyData.shownAll ds).length + 3 ≤ ds.length * (n + 2) + 3 := by
  rw [shownAll_map, List.map_map]
  have := sum_le (n := n) (l := ds.map ((fun t : Str => t.length) ∘ PyData.shown)) fun x m => by
    obtain ⟨d, hd, rfl⟩ := List.mem_map.mp m
    exact (h d hd).ln
  rw [List.length_map] at this ⊢
  rw [Nat.mul_add]
  omega
theorem Shw.tup {n k : Nat} {ds : List PyData} (h : ∀ d ∈ ds, Shw n k d) : Shw (ds.length * (n + 2) + 3) (k + 1) (.tuple ds) := by
  refine ⟨?_, ?_, ?_, ?_⟩
  · simp only [PyData.showable]
    exact showableAll_of fun d m => (h d m).sh
  · simp only [PyData.hasDict]
    exact hasDictAll_of fun d m => (h d m).nd
  · have := depthAll_of fun d m => (h d m).dp
    simp only [PyData.depth]
    omega
  · simp only [PyData.shown]
    exact Nat.le_trans (tupleText_len_le _) (shown_sum h)
theorem Shw.lst {n k : Nat} {ds : List PyData} (h : ∀ d ∈ ds, Shw n k d) : Shw (ds.length * (n + 2) + 3) (k + 1) (.list ds) := by
  refine ⟨?_, ?_, ?_, ?_⟩
  · simp only [PyData.showable]
    exact showableAll_of fun d m => (h d m).sh
  · simp only [PyData.hasDict]
    exact hasDictAll_of fun d m => (h d m).nd
  · have := depthAll_of fun d m => (h d m).dp
    simp only [PyData.depth]
    omega
  · simp only [PyData.shown]
    exact Nat.le_trans (listText_len_le _) (shown_sum h)
theorem Shw.up {n k j : Nat} {d : PyData} (h : Shw n k d) (l : k ≤ j) : Shw n j d := ⟨h.sh, h.nd, Nat.le_trans h.dp l, h.ln⟩
section
variable {K : PySem.W.Frag} {μ : Cells} {Q : Vd → Cells → Prop} {a b : Str}
end
end Ec
set_option Elab.async false
set_option linter.all false
set_option maxRecDepth 100000
set_option maxHeartbeats 4000000
namespace Ec
open PySem PySem.Spec PyProof.Rows L2
end Ec
set_option Elab.async false
set_option linter.all false
set_option maxRecDepth 100000
set_option maxHeartbeats 4000000
namespace Ec
open PySem PySem.Spec PyProof.Rows L2
def stepP (c : Co) (s : List Int) : List (List Int) := (((rng c.length).filter fun p => !decide (p ∈ s)).filter fun p => comes c s p).map fun p => s ++ [p]
def allP (c : Co) : Nat → List (List Int)
  | 0 => [[]]
  | k + 1 => (allP c k).flatMap (stepP c)
theorem POrd.init {c : Co} {r : List Int} {x : Int} (h : POrd c (r ++ [x])) : POrd c r ∧ 0 ≤ x ∧ x < c.length ∧ x ∉ r ∧ comes c r x = true := by
  have h1 := h.take r.length
  rw [List.take_left] at h1
  have hx := h.rg x (by simp)
  have hn := (List.nodup_append.mp h.nd).2.2
  refine ⟨h1, hx.1, hx.2, fun m => hn x m x (by simp) rfl, ?_⟩
  have := h.ok r.length x (by simp)
  rwa [List.take_left] at this
theorem mem_allP {c : Co} : ∀ {k : Nat} {r : List Int}, r ∈ allP c k ↔ POrd c r ∧ r.length = k
  | 0, r => by
    unfold allP
    constructor
    · intro h
      cases List.mem_singleton.mp h
      exact ⟨POrd.nil c, rfl⟩
    · rintro ⟨_, h⟩
      rw [List.length_eq_zero_iff.mp h]
      exact List.mem_singleton_self _
  | k + 1, r => by
    unfold allP
    rw [List.mem_flatMap]
    constructor
    · rintro ⟨s, hs, hr⟩
      obtain ⟨h1, h2⟩ := mem_allP.mp hs
      unfold stepP at hr
      obtain ⟨p, hp, rfl⟩ := List.mem_map.mp hr
      obtain ⟨hp1, hp2⟩ := List.mem_filter.mp hp
      obtain ⟨hp3, hp4⟩ := List.mem_filter.mp hp1
      obtain ⟨g0, g1⟩ := mem_rng.mp hp3
      exact ⟨h1.add g0 g1 (by simpa using hp4) hp2, by rw [List.length_append, h2]; rfl⟩
    · rintro ⟨h, hl⟩
      rcases List.eq_nil_or_concat r with rfl | ⟨s, x, rfl⟩
      · simp at hl
      · rw [List.concat_eq_append] at h hl ⊢
        obtain ⟨h1, h2, h3, h4, h5⟩ := h.init
        rw [List.length_append, List.length_singleton] at hl
        refine ⟨s, mem_allP.mpr ⟨h1, by omega⟩, ?_⟩
        unfold stepP
        exact List.mem_map.mpr ⟨x, List.mem_filter.mpr ⟨List.mem_filter.mpr ⟨mem_rng.mpr ⟨h2, h3⟩, by simpa using h4⟩, h5⟩, rfl⟩
theorem mem_all {c : Co} {r : List Int} : r ∈ allP c c.length ↔ IsOrd c r := by
  rw [mem_allP]
  exact ⟨fun h => ⟨h.1, h.2⟩, fun h => ⟨h.po, h.len⟩⟩
end Ec
set_option Elab.async false
set_option linter.all false
set_option maxRecDepth 100000
set_option maxHeartbeats 4000000
namespace Ec
open PySem PySem.Spec PyProof.Rows L2
end Ec
set_option Elab.async false
set_option linter.all false
set_option maxRecDepth 100000
set_option maxHeartbeats 4000000
namespace Ec
open PySem PySem.Spec PyProof.Rows L2
section
variable {X : Cx} {δ : Dl} {μ : Cells} {e a b : Expr} {pos p : Pos} {Q : Vd → Cells → Prop} {mg : Str → Option Value}
end
theorem Pth.lt {c : Co} {r s : List Int} {ps : List Nat} (h : Pth c r ps s) (ho : IsOrd c r) : ∀ i ∈ ps, i < c.length := by
  induction h with
  | nil => intro i m; cases m
  | snoc g hi ih =>
    intro i m
    rcases List.mem_append.mp m with m | m
    · exact ih i m
    · cases List.mem_singleton.mp m
      have h1 := ((frp_ok (g.ord ho)).mp hi).1
      have h2 := (g.ord ho).lens
      omega
end Ec
set_option Elab.async false
set_option linter.all false
set_option maxRecDepth 100000
set_option maxHeartbeats 4000000
namespace Ec
open PySem PySem.Spec PyProof.Rows L2
abbrev TX := List (List Int × Addr × Value)
def TK (H : Hp) (b : Addr) (k : List Int) : Prop := ∃ o, H b = some (.frz o (.tup (k.map V.int)))
theorem itemsI_are {P : Program} {w : World} : ∀ {ks : List Int} {us : List Value}, Vals (ks.map V.int) us → ItemsAre (intKind P w) ks us
  | [], _, r => by rw [List.map_nil] at r; cases r; exact .nil
  | k :: ks, _, r => by
    rw [List.map_cons] at r
    cases r with
    | cons h t =>
      refine .cons ?_ (itemsI_are t)
      obtain ⟨t, rfl⟩ := (show ∃ t, _ = Value.int k t from h)
      show Value.isInt k (.int k t) = true
      simp [Value.isInt]
theorem TK.key {P : Program} {w : World} {H : Hp} {h : Heap} {b : Addr} {k : List Int} (x : TK H b k) (ok : HOk P w H h) : (tupleKind (intKind P w)).is h k b := by
  obtain ⟨o, e⟩ := x
  obtain ⟨_, _, its, r, ob, h1, h2, n, h3⟩ := (show ObjOk P w H h b (.frz o (.tup (k.map V.int))) from ok b _ e)
  exact ⟨ob, its.toArray, n, h1, h2, h3, by simpa using itemsI_are r⟩
def Rz (H : Hp) (a : Addr) (u : HO) : Prop := L2.Rd H a u ∨ ∃ o o', H a = some (.frz o (.frz o' u))
theorem Rz.of {H : Hp} {a : Addr} {u : HO} (h : H a = some u) : Rz H a u := .inl (.inl h)
theorem Rz.ok {P : Program} {w : World} {H : Hp} {h : Heap} {a : Addr} {u : HO} (r : Rz H a u) (x : HOk P w H h) : ObjOk P w H h a u := by
  rcases r with r | ⟨o, o', r⟩
  · exact r.ok x
  · exact (show ObjOk P w H h a (.frz o (.frz o' u)) from x a _ r).2.2
def Fz (H : Hp) (a : Addr) (o : Obj) (u : HO) : Prop := H a = some (.frz o u) ∨ H a = some (.frz o (.frz o u))
theorem Fz.up {H H' : Hp} {a : Addr} {o : Obj} {u : HO} (h : Fz H a o u) (e : Same H H') : Fz H' a o u := h.elim (fun h => .inl (e _ _ h)) fun h => .inr (e _ _ h)
def KX (H : Hp) (xs : TX) : Prop := ∀ x ∈ xs, TK H x.2.1 x.1
section
variable {X : Cx} {pins : List (Addr × Obj)} {σ : L2.St} {H : Hp} {s : Shared} {a b : Addr} {xs : TX} {k : List Int}
end
section
variable {X : Cx} {pins : List (Addr × Obj)} {σ : L2.St} {H : Hp} {s : Shared} {d : Addr} {o : Obj} {xs : TX}
end
section
variable {P : Program} {w : World} {K : PySem.W.Frag} {tg : Expr} {d : Addr} {o : Obj} {es : Array DictEntry} {ep : Nat}
end
section
variable {X : Cx} {tg e : Expr} {td : TE} {apos cpos : Pos}
end
section
variable {K : PySem.W.Frag} {F H : Hp} {μ : Cells}
end
section
variable {X : Cx} {δ : Dl} {μ : Cells} {Q : Vd → Cells → Prop} {a b o i value : Expr} {pos pos' : Pos} {D : Dn}
end
section
variable {X : Cx} {δ : Dl} {μ : Cells} {Q : Vd → Cells → Prop} {a b o e f tg : Expr} {pos apos cpos tpos : Pos} {D : Dn} {QI : List PyData → Cells → Prop}
end
section
variable {X : Cx} {δ : Dl} {μ : Cells} {Q : Vd → Cells → Prop} {D : Dn} {rest : List Stmt}
end
end Ec
set_option Elab.async false
set_option linter.all false
set_option maxRecDepth 100000
set_option maxHeartbeats 4000000
namespace Ec
open PySem PySem.Spec PyProof.Rows L2
section
variable {X : Cx} {δ : Dl} {μ : Cells} {Q : Vd → Cells → Prop} {e a b o : Expr} {pos p p2 p3 p1 apos cpos : Pos} {mg : Str → Option Value}
theorem dqs_take {K : PySem.W.Frag} {F : Hp} (n : Nat) : ∀ {vs : List V} {ds : List PyData}, DqAll K F vs ds → DqAll K F (vs.take n) (ds.take n) := by
  induction n with
  | zero => intros; exact .nil
  | succ n ih =>
    intro vs ds h
    cases h with
    | nil => exact .nil
    | cons h t => exact .cons h (ih t)
theorem dqs_drop {K : PySem.W.Frag} {F : Hp} (n : Nat) : ∀ {vs : List V} {ds : List PyData}, DqAll K F vs ds → DqAll K F (vs.drop n) (ds.drop n) := by
  induction n with
  | zero => intro _ _ h; exact h
  | succ n ih =>
    intro vs ds h
    cases h with
    | nil => exact .nil
    | cons h t => exact ih t
theorem dqs_rev {K : PySem.W.Frag} {F : Hp} : ∀ {vs : List V} {ds : List PyData}, DqAll K F vs ds → DqAll K F vs.reverse ds.reverse
  | _, _, .nil => .nil
  | _, _, .cons h t => by
    rw [List.reverse_cons, List.reverse_cons]
    exact dqs_app (dqs_rev t) (.cons h .nil)
theorem dqs_cutZ {K : PySem.W.Frag} {F : Hp} {ds : List PyData} {vs : List V} (h : DqAll K F vs ds) (lo hi : Option Int) : DqAll K F (cutV vs lo hi) (cutZ ds lo hi) := by
  unfold cutV cutZ
  rw [dqs_len h]
  exact dqs_take _ (dqs_drop _ h)
theorem we_slC {lo hi : Option Expr} (h : WE X e δ μ fun x μ1 => WO X lo δ μ1 fun l μ2 => WO X hi δ μ2 fun u μ3 => ∃ (q : Addr) (ds : List PyData) (j : Nat), x = .a q ∧ μ3[j]? = some (q, (ds : Cont)) ∧ ∀ p, Q (.a p) ((p, Cont.l (cutZ ds l u)) :: μ3)) : WE X (.Subscript e (.Slice lo hi none p2) pos) δ μ Q := fun F H σ R QV c =>
  toE (pe_slice sl_list (pcE X e) (pcO lo) (pcO hi)) (h F H σ R _ fun v x F1 H1 μ1 w1 R1 o1 q => wo_run q R1 fun l F2 H2 μ2 w2 R2 q2 => wo_run q2 R2 fun u F3 H3 μ3 w3 R3 q3 => by
    obtain ⟨qa, ds, j, rfl, hj, q3⟩ := q3
    obtain ⟨_, vs, hs, hd⟩ := R3.m.cel _ _ (List.mem_of_getElem? hj)
    have ev : v = .ref qa := o1
    subst ev
    refine ⟨qa, vs, rfl, .of hs, fun l' nl => ?_⟩
    obtain ⟨m4, w4⟩ := R3.m.cellQ nl (dqs_cutZ hd l u)
    exact c _ (.a l') _ _ _ (((w1.trans w2).trans w3).trans w4) (R3.to w4.f m4) rfl (q3 l'))
end
end Ec
set_option Elab.async false
set_option linter.all false
set_option maxRecDepth 100000
set_option maxHeartbeats 4000000
namespace Ec
open PySem PySem.Spec PyProof.Rows L2
abbrev TL := List (List Int × Int)
def ivD (L : TL) : List (List Int × PyData) := L.map fun q => (q.1, .int q.2)
def getN : TL → List Int → Option Int
  | [], _ => none
  | p :: r, k => if p.1 = k then some p.2 else getN r k
def putN : TL → List Int → Int → TL
  | [], k, n => [(k, n)]
  | p :: r, k, n => if p.1 = k then (k, n) :: r else p :: putN r k n
abbrev kysN (L : TL) : List (List Int) := L.map Prod.fst
theorem kysN_cons (p : List Int × Int) (r : TL) : kysN (p :: r) = p.1 :: kysN r := rfl
theorem getN_put {k k' : List Int} {n : Int} : ∀ {L : TL}, getN (putN L k n) k' = if k' = k then some n else getN L k'
  | [] => by
    show (if k = k' then some n else none) = _
    by_cases e : k = k'
    · rw [if_pos e, if_pos e.symm]
    · rw [if_neg e, if_neg fun z => e z.symm]
      rfl
  | p :: r => by
    unfold putN
    by_cases e : p.1 = k
    · rw [if_pos e]
      show (if k = k' then some n else getN r k') = _
      by_cases e2 : k = k'
      · rw [if_pos e2, if_pos e2.symm]
      · rw [if_neg e2, if_neg fun z => e2 z.symm]
        show _ = if p.1 = k' then _ else _
        rw [if_neg fun z => e2 (e.symm.trans z)]
    · rw [if_neg e]
      show (if p.1 = k' then some p.2 else getN (putN r k n) k') = _
      rw [getN_put]
      by_cases e2 : p.1 = k'
      · rw [if_pos e2, if_neg fun z => e (e2.trans z)]
        show _ = if p.1 = k' then _ else _
        rw [if_pos e2]
      · rw [if_neg e2]
        by_cases e3 : k' = k
        · rw [if_pos e3, if_pos e3]
        · rw [if_neg e3, if_neg e3]
          show _ = if p.1 = k' then _ else _
          rw [if_neg e2]
theorem putN_keys {k : List Int} {n : Int} : ∀ {L : TL}, (kysN L).Nodup → (kysN (putN L k n)).Nodup ∧ ∀ x, x ∈ kysN (putN L k n) ↔ x = k ∨ x ∈ kysN L
  | [], _ => ⟨by simp [putN], fun x => by simp [putN]⟩
  | p :: r, h => by
    obtain ⟨n1, n2⟩ := List.nodup_cons.mp h
    obtain ⟨g1, g2⟩ := putN_keys (k := k) (n := n) n2
    unfold putN
    by_cases e : p.1 = k
    · rw [if_pos e]
      refine ⟨List.nodup_cons.mpr ⟨by rw [← e]; exact n1, n2⟩, fun x => ?_⟩
      rw [kysN_cons, kysN_cons, List.mem_cons, List.mem_cons, e]
      exact ⟨fun z => .inr z, fun z => z.elim .inl id⟩
    · rw [if_neg e]
      refine ⟨List.nodup_cons.mpr ⟨fun z => ((g2 p.1).mp z).elim e n1, g1⟩, fun x => ?_⟩
      rw [kysN_cons, kysN_cons, List.mem_cons, List.mem_cons, g2]
      exact ⟨fun z => z.elim (fun y => .inr (.inl y)) fun y => y.elim .inl fun y => .inr (.inr y), fun z => z.elim (fun y => .inr (.inl y)) fun y => y.elim .inl fun y => .inr (.inr y)⟩
theorem getN_mem {k : List Int} {n : Int} : ∀ {L : TL}, (kysN L).Nodup → ((k, n) ∈ L ↔ getN L k = some n)
  | [], _ => by simp [getN]
  | p :: r, h => by
    obtain ⟨n1, n2⟩ := List.nodup_cons.mp h
    unfold getN
    rw [List.mem_cons]
    by_cases e : p.1 = k
    · rw [if_pos e]
      constructor
      · rintro (z | z)
        · rw [← z]
        · exact absurd (List.mem_map.mpr ⟨_, z, e.symm⟩) n1
      · intro z
        left
        cases z
        rw [← e]
    · rw [if_neg e, ← getN_mem n2]
      exact ⟨fun z => z.resolve_left fun y => e (by rw [← y]), .inr⟩
def addN (L : TL) (q : List Int × Int) : TL := putN L q.1 ((getN L q.1).getD 0 + q.2)
def accN (A : TL) : TL := A.foldl addN []
def sumN (A : TL) (k : List Int) : Int := ((A.filter fun q => decide (q.1 = k)).map Prod.snd).sum
theorem accN_snoc (A : TL) (q : List Int × Int) : accN (A ++ [q]) = addN (accN A) q := by
  unfold accN
  rw [List.foldl_append]
  rfl
theorem sumN_snoc (A : TL) (q : List Int × Int) (k : List Int) : sumN (A ++ [q]) k = sumN A k + if q.1 = k then q.2 else 0 := by
  unfold sumN
  rw [List.filter_append, List.map_append, List.sum_append]
  congr 1
  by_cases e : q.1 = k
  · rw [if_pos e, List.filter_cons_of_pos (by simpa using e)]
    simp
  · rw [if_neg e, List.filter_cons_of_neg (by simpa using e)]
    simp
theorem accN_ok : ∀ (n : Nat) (A : TL), A.length = n → (kysN (accN A)).Nodup ∧ (∀ x, x ∈ kysN (accN A) ↔ x ∈ kysN A) ∧ ∀ k, getN (accN A) k = if k ∈ kysN A then some (sumN A k) else none
  | 0, A, h => by
    cases List.length_eq_zero_iff.mp h
    exact ⟨List.nodup_nil, fun x => Iff.rfl, fun k => by simp [accN, getN]⟩
  | n + 1, A, h => by
    rcases List.eq_nil_or_concat A with rfl | ⟨B, q, rfl⟩
    · cases h
    rw [List.concat_eq_append] at h ⊢
    obtain ⟨g1, g2, g3⟩ := accN_ok n B (by rw [List.length_append] at h; simpa using h)
    rw [accN_snoc]
    obtain ⟨p1, p2⟩ := putN_keys (k := q.1) (n := (getN (accN B) q.1).getD 0 + q.2) g1
    have hk : ∀ x, x ∈ kysN (B ++ [q]) ↔ x = q.1 ∨ x ∈ kysN B := fun x => by
      unfold kysN
      rw [List.map_append, List.mem_append]
      simp only [List.map_cons, List.map_nil, List.mem_singleton]
      exact ⟨fun z => z.symm, fun z => z.symm⟩
    refine ⟨p1, fun x => by rw [hk, ← g2]; exact p2 x, fun k => ?_⟩
    show getN (putN (accN B) q.1 _) k = _
    rw [getN_put, sumN_snoc]
    by_cases e : k = q.1
    · subst e
      rw [if_pos rfl, if_pos ((hk _).mpr (.inl rfl)), if_pos rfl, g3]
      by_cases e2 : q.1 ∈ kysN B
      · rw [if_pos e2]
        rfl
      · rw [if_neg e2]
        have z : sumN B q.1 = 0 := by
          unfold sumN
          have : (B.filter fun p => decide (p.1 = q.1)) = [] := by
            rw [List.filter_eq_nil_iff]
            intro p hp hh
            exact e2 (List.mem_map.mpr ⟨p, hp, by simpa using hh⟩)
          rw [this]
          rfl
        rw [z]
        rfl
    · rw [if_neg e, g3, show (if q.1 = k then q.2 else 0) = 0 from if_neg fun z => e z.symm, Int.add_zero]
      by_cases e2 : k ∈ kysN B
      · rw [if_pos e2, if_pos ((hk _).mpr (.inr e2))]
      · rw [if_neg e2, if_neg fun z => ((hk _).mp z).elim e e2]
def Sub (n : Nat) (t : List Int) : Prop := t.Pairwise (· < ·) ∧ ∀ x ∈ t, 0 ≤ x ∧ x < n
end Ec
set_option Elab.async false
set_option linter.all false
set_option maxRecDepth 100000
set_option maxHeartbeats 4000000
namespace Ec
open PySem PySem.Spec PyProof.Rows L2
def Wy (c : Co) : Nat → List Int → Nat
  | 0, _ => 1
  | k + 1, t => ((nexts c t).map fun p => Wy c k (t ++ [p])).sum
def ext (c : Co) : Nat → List Int → List (List Int)
  | 0, r => [r]
  | k + 1, r => (nexts c r).flatMap fun p => ext c k (r ++ [p])
theorem app_mem {s t : List Int} {p : Int} (h : ∀ x, x ∈ s ↔ x ∈ t) (x : Int) : x ∈ s ++ [p] ↔ x ∈ t ++ [p] := by
  rw [List.mem_append, List.mem_append, h]
theorem Wy_congr {c : Co} : ∀ (k : Nat) {s t : List Int}, (∀ x, x ∈ s ↔ x ∈ t) → Wy c k s = Wy c k t
  | 0, _, _, _ => rfl
  | k + 1, s, t, h => by
    unfold Wy
    rw [nexts_congr h]
    congr 1
    exact List.map_congr_left fun p _ => Wy_congr k (app_mem h)
theorem ext_len (c : Co) : ∀ (k : Nat) (r : List Int), (ext c k r).length = Wy c k r
  | 0, _ => rfl
  | k + 1, r => by
    unfold ext Wy
    rw [List.length_flatMap]
    congr 1
    exact List.map_congr_left fun p _ => ext_len c k _
theorem stepP_eq (c : Co) (s : List Int) : stepP c s = (nexts c s).map fun p => s ++ [p] := rfl
theorem ext_snoc (c : Co) : ∀ (k : Nat) (r : List Int), ext c (k + 1) r = (ext c k r).flatMap (stepP c)
  | 0, r => by
    show (nexts c r).flatMap (fun p => [r ++ [p]]) = [r].flatMap (stepP c)
    rw [List.flatMap_cons, List.flatMap_nil, List.append_nil, stepP_eq]
    generalize nexts c r = N
    induction N with
    | nil => rfl
    | cons p N ih => rw [List.flatMap_cons, ih]; rfl
  | k + 1, r => by
    show (nexts c r).flatMap (fun p => ext c (k + 1) (r ++ [p])) = ((nexts c r).flatMap fun p => ext c k (r ++ [p])).flatMap (stepP c)
    rw [List.flatMap_assoc]
    congr 1
    funext p
    exact ext_snoc c k _
theorem allP_ext (c : Co) : ∀ k, allP c k = ext c k []
  | 0 => rfl
  | k + 1 => by
    rw [ext_snoc, ← allP_ext c k]
    rfl
theorem srt_in (r : List Int) (x : Int) : x ∈ srt r ↔ x ∈ r := mem_srt
theorem nexts_srt (c : Co) (r : List Int) : nexts c (srt r) = nexts c r := nexts_congr (srt_in r)
theorem srt_app (r : List Int) (p : Int) : srt (srt r ++ [p]) = srt (r ++ [p]) := srt_one (((srt_perm _).trans ((srt_perm r).append_right [p])).trans (srt_perm _).symm) (srt_up _) (srt_up _)
theorem POrd.next {c : Co} {r : List Int} (h : POrd c r) {p : Int} (hp : p ∈ nexts c r) : POrd c (r ++ [p]) := by
  obtain ⟨⟨h0, h1⟩, h2, h3⟩ := mem_nexts.mp hp
  exact h.add h0 h1 h2 h3
theorem POrd.sub2 {c : Co} {r : List Int} (h : POrd c r) : Sub c.length (srt r) := ⟨srt_lt h.nd, fun x m => h.rg x (mem_srt.mp m)⟩
structure Lay (c : Co) (i : Nat) (L : TL) : Prop where
  nd : (kysN L).Nodup
  val : ∀ q ∈ L, q.2 = (((allP c i).countP fun r => decide (srt r = q.1) : Nat) : Int)
  key : ∀ t, t ∈ kysN L ↔ ∃ r ∈ allP c i, srt r = t
theorem Lay.zero (c : Co) : Lay c 0 [([], 1)] where
  nd := by simp
  val := fun q hq => by
    cases List.mem_singleton.mp hq
    show (1 : Int) = (([[]] : List (List Int)).countP _ : Nat)
    rw [List.countP_cons_of_pos (by rw [srt_nil]; rfl)]
    rfl
  key := fun t => by
    show t ∈ [[]] ↔ ∃ r ∈ [[]], srt r = t
    rw [List.mem_singleton]
    constructor
    · rintro rfl
      exact ⟨[], List.mem_singleton_self _, srt_nil⟩
    · rintro ⟨r, hr, rfl⟩
      rw [List.mem_singleton.mp hr, srt_nil]
def goN (c : Co) (q : List Int × Int) : TL := (nexts c q.1).map fun p => (srt (q.1 ++ [p]), q.2)
def stepN (c : Co) (L : TL) : TL := L.flatMap (goN c)
theorem sum_hit {α : Type} {β : Type} [DecidableEq β] (f : α → Int) (key : α → β) (b : β) : ∀ (L : List α), (L.map key).Nodup → ∀ a ∈ L, key a = b → (L.map fun x => if key x = b then f x else 0).sum = f a
  | x :: L, hn, a, ha, e => by
    obtain ⟨n1, n2⟩ := List.nodup_cons.mp hn
    rw [List.map_cons, List.sum_cons]
    rcases List.mem_cons.mp ha with rfl | ha
    · rw [if_pos e]
      have : (L.map fun x => if key x = b then f x else 0) = L.map fun _ => 0 := List.map_congr_left fun y hy => if_neg fun z => n1 (List.mem_map.mpr ⟨y, hy, z.trans e.symm⟩)
      rw [this]
      have z : (L.map fun _ => (0 : Int)).sum = 0 := by
        clear this ha n1 n2 hn e
        induction L with
        | nil => rfl
        | cons _ _ ih => rw [List.map_cons, List.sum_cons, ih]; rfl
      rw [z, Int.add_zero]
    · rw [if_neg fun z => n1 (List.mem_map.mpr ⟨a, ha, e.trans z.symm⟩), Int.zero_add]
      exact sum_hit f key b L n2 a ha e
theorem sum_add {α : Type} (f g : α → Int) : ∀ (L : List α), (L.map fun x => f x + g x).sum = (L.map f).sum + (L.map g).sum
  | [] => rfl
  | x :: L => by
    rw [List.map_cons, List.sum_cons, List.map_cons, List.sum_cons, List.map_cons, List.sum_cons, sum_add f g L]
    omega
theorem sum_rows (g : List Int → Int) {L : TL} (hn : (kysN L).Nodup) : ∀ (A : List (List Int)), (∀ r ∈ A, srt r ∈ kysN L) → (L.map fun q => ((A.countP fun r => decide (srt r = q.1) : Nat) : Int) * g q.1).sum = (A.map fun r => g (srt r)).sum
  | [], _ => by
    rw [List.map_nil]
    show (L.map fun q => (((0 : Nat) : Int)) * g q.1).sum = 0
    clear hn
    induction L with
    | nil => rfl
    | cons _ _ ih => rw [List.map_cons, List.sum_cons, ih (fun r z => by cases z), Int.natCast_zero, Int.zero_mul]; rfl
  | r :: A, h => by
    have ih := sum_rows g hn A fun r m => h r (List.mem_cons_of_mem _ m)
    rw [List.map_cons, List.sum_cons, ← ih]
    obtain ⟨q0, hq0, e0⟩ := List.mem_map.mp (h r List.mem_cons_self)
    have e1 := sum_hit (fun q : List Int × Int => g q.1) Prod.fst (srt r) L hn q0 hq0 e0
    rw [← e0, ← e1, ← sum_add]
    congr 1
    refine List.map_congr_left fun q _ => ?_
    rw [List.countP_cons]
    by_cases e : q.1 = srt r
    · rw [if_pos e, if_pos (decide_eq_true e.symm), Int.natCast_add, Int.add_mul, Int.natCast_one, Int.one_mul]
      omega
    · rw [if_neg e, if_neg (by simpa using fun z => e z.symm), Int.natCast_add, Int.natCast_zero, Int.add_zero, Int.zero_add]
theorem sumN_go (c : Co) (q : List Int × Int) (t : List Int) : sumN (goN c q) t = q.2 * (((nexts c q.1).countP fun p => decide (srt (q.1 ++ [p]) = t) : Nat) : Int) := by
  unfold sumN goN
  generalize nexts c q.1 = N
  induction N with
  | nil =>
    show (0 : Int) = q.2 * ((0 : Nat) : Int)
    rw [Int.natCast_zero, Int.mul_zero]
  | cons p N ih =>
    rw [List.map_cons, List.countP_cons]
    by_cases e : srt (q.1 ++ [p]) = t
    · rw [List.filter_cons_of_pos (by simpa using e), List.map_cons, List.sum_cons, ih, if_pos (decide_eq_true e), Int.natCast_add, Int.mul_add, Int.natCast_one, Int.mul_one]
      exact Int.add_comm _ _
    · rw [List.filter_cons_of_neg (by simpa using e), ih, if_neg (by simpa using e), Nat.add_zero]
theorem sumN_app (A B : TL) (t : List Int) : sumN (A ++ B) t = sumN A t + sumN B t := by
  unfold sumN
  rw [List.filter_append, List.map_append, List.sum_append]
theorem sumN_step (c : Co) (t : List Int) : ∀ (L : TL), sumN (stepN c L) t = (L.map fun q => q.2 * (((nexts c q.1).countP fun p => decide (srt (q.1 ++ [p]) = t) : Nat) : Int)).sum
  | [] => rfl
  | q :: L => by
    show sumN (goN c q ++ stepN c L) t = _
    rw [sumN_app, sumN_go, sumN_step c t L, List.map_cons, List.sum_cons]
theorem countP_flat {α β : Type} (p : β → Bool) (f : α → List β) : ∀ A : List α, ((A.flatMap f).countP p : Nat) = (A.map fun a => (f a).countP p).sum
  | [] => rfl
  | a :: A => by rw [List.flatMap_cons, List.countP_append, countP_flat p f A, List.map_cons, List.sum_cons]
theorem natsum_cast {α : Type} (f : α → Nat) : ∀ A : List α, (((A.map f).sum : Nat) : Int) = (A.map fun a => ((f a : Nat) : Int)).sum
  | [] => rfl
  | a :: A => by rw [List.map_cons, List.sum_cons, List.map_cons, List.sum_cons, Int.natCast_add, natsum_cast f A]
theorem Lay.step {c : Co} {i : Nat} {L : TL} (h : Lay c i L) : Lay c (i + 1) (accN (stepN c L)) := by
  obtain ⟨g1, g2, g3⟩ := accN_ok _ (stepN c L) rfl
  have hk : ∀ t, t ∈ kysN (stepN c L) ↔ ∃ r ∈ allP c (i + 1), srt r = t := fun t => by
    constructor
    · intro m
      obtain ⟨x, hx, rfl⟩ := List.mem_map.mp m
      obtain ⟨q, hq, hx⟩ := List.mem_flatMap.mp hx
      obtain ⟨p, hp, rfl⟩ := List.mem_map.mp hx
      obtain ⟨r, hr, er⟩ := (h.key q.1).mp (List.mem_map.mpr ⟨q, hq, rfl⟩)
      rw [← er, nexts_srt] at hp
      refine ⟨r ++ [p], List.mem_flatMap.mpr ⟨r, hr, List.mem_map.mpr ⟨p, hp, rfl⟩⟩, ?_⟩
      show srt (r ++ [p]) = srt (q.1 ++ [p])
      rw [← er, srt_app]
    · rintro ⟨r', hr', rfl⟩
      obtain ⟨r, hr, hx⟩ := List.mem_flatMap.mp hr'
      obtain ⟨p, hp, rfl⟩ := List.mem_map.mp hx
      obtain ⟨q, hq, eq⟩ := List.mem_map.mp ((h.key (srt r)).mpr ⟨r, hr, rfl⟩)
      refine List.mem_map.mpr ⟨(srt (q.1 ++ [p]), q.2), List.mem_flatMap.mpr ⟨q, hq, List.mem_map.mpr ⟨p, ?_, rfl⟩⟩, ?_⟩
      · show p ∈ nexts c q.1
        rw [eq, nexts_srt]
        exact hp
      · show srt (q.1 ++ [p]) = _
        rw [eq, srt_app]
  refine ⟨g1, fun q hq => ?_, fun t => by rw [g2]; exact hk t⟩
  have e := (getN_mem g1).mp (show (q.1, q.2) ∈ accN (stepN c L) from hq)
  rw [g3, if_pos ((g2 q.1).mp (List.mem_map.mpr ⟨q, hq, rfl⟩))] at e
  have e' : q.2 = sumN (stepN c L) q.1 := (Option.some.inj e).symm
  rw [e', sumN_step]
  have e1 : (L.map fun x => x.2 * (((nexts c x.1).countP fun p => decide (srt (x.1 ++ [p]) = q.1) : Nat) : Int)) = L.map fun x => (((allP c i).countP fun r => decide (srt r = x.1) : Nat) : Int) * (((nexts c x.1).countP fun p => decide (srt (x.1 ++ [p]) = q.1) : Nat) : Int) := List.map_congr_left fun x hx => by rw [h.val x hx]
  rw [e1, sum_rows (fun t => (((nexts c t).countP fun p => decide (srt (t ++ [p]) = q.1) : Nat) : Int)) h.nd (allP c i) fun r hr => (h.key _).mpr ⟨r, hr, rfl⟩]
  show _ = ((((allP c i).flatMap (stepP c)).countP _ : Nat) : Int)
  rw [countP_flat, natsum_cast]
  congr 1
  refine List.map_congr_left fun r _ => ?_
  rw [stepP_eq, List.countP_map, nexts_srt]
  congr 1
  refine List.countP_congr fun p _ => ?_
  show decide (srt (srt r ++ [p]) = q.1) = true ↔ decide (srt (r ++ [p]) = q.1) = true
  rw [srt_app]
theorem Lay.sub {c : Co} {i : Nat} {L : TL} (h : Lay c i L) : ∀ k ∈ kysN L, Sub c.length k := fun k hk => by
  obtain ⟨r, hr, rfl⟩ := (h.key k).mp hk
  exact (mem_allP.mp hr).1.sub2
end Ec
set_option Elab.async false
set_option linter.all false
set_option maxRecDepth 100000
set_option maxHeartbeats 4000000
namespace Ec
open PySem PySem.Spec PyProof.Rows L2
def Lys (c : Co) (Zs : List (Addr × List (List Int × PyData))) (n : Nat) : Prop := Zs.length = n ∧ ∀ (i : Nat) z, Zs[i]? = some z → ∃ L, z.2 = ivD L ∧ Lay c i L
theorem Lys.snoc {c : Co} {Zs : List (Addr × List (List Int × PyData))} {n : Nat} (h : Lys c Zs n) {p : Addr} {L : TL} (hl : Lay c n L) : Lys c (Zs ++ [(p, ivD L)]) (n + 1) := by
  refine ⟨by rw [List.length_append, h.1]; rfl, fun i z hz => ?_⟩
  by_cases e : i < Zs.length
  · rw [List.getElem?_append_left e] at hz
    exact h.2 i z hz
  · rw [List.getElem?_append_right (by omega)] at hz
    have e2 : i - Zs.length = 0 := by
      have := (List.getElem?_eq_some_iff.mp hz).1
      rw [List.length_singleton] at this
      omega
    rw [e2] at hz
    cases hz
    have : i = n := by rw [← h.1]; omega
    subst this
    exact ⟨L, rfl, hl⟩
structure En (c : Co) (i : Nat) (D : TL) : Prop where
  nd : (kysN D).Nodup
  sub : ∀ k ∈ kysN D, Sub c.length k
  val : ∀ r, POrd c r → i ≤ r.length → getN D (srt r) = some ((Wy c (c.length - r.length) r : Nat) : Int)
theorem rng_sub (n : Nat) : Sub n (rng n) := ⟨rng_lt n, fun x m => mem_rng.mp m⟩
theorem En.start (c : Co) : En c c.length [(rng c.length, 1)] where
  nd := by simp
  sub := fun k hk => by
    cases List.mem_singleton.mp hk
    exact rng_sub _
  val := fun r hr hl => by
    have h1 := hr.len
    have e : r.length = c.length := by omega
    rw [(IsOrd.row ⟨hr, e⟩).srt, e, Nat.sub_self]
    show (if rng c.length = rng c.length then some (1 : Int) else none) = _
    rw [if_pos rfl]
    rfl
structure EnP (c : Co) (m : Nat) (L : TL) (j : Nat) (D : TL) : Prop where
  nd : (kysN D).Nodup
  sub : ∀ k ∈ kysN D, Sub c.length k
  val : ∀ r, POrd c r → (m + 1 ≤ r.length ∨ srt r ∈ kysN (L.take j)) → getN D (srt r) = some ((Wy c (c.length - r.length) r : Nat) : Int)
theorem Lay.row {c : Co} {m j : Nat} {L : TL} (h : Lay c m L) {q : List Int × Int} (hq : L[j]? = some q) : ∃ r, POrd c r ∧ r.length = m ∧ srt r = q.1 ∧ ∀ x, x ∈ q.1 ↔ x ∈ r := by
  obtain ⟨r, hr, e⟩ := (h.key q.1).mp (List.mem_map.mpr ⟨q, List.mem_of_getElem? hq, rfl⟩)
  obtain ⟨h1, h2⟩ := mem_allP.mp hr
  exact ⟨r, h1, h2, e, fun x => by rw [← e, mem_srt]⟩
theorem EnP.at {c : Co} {m j : Nat} {L D : TL} (h : EnP c m L j D) (hL : Lay c m L) {q : List Int × Int} (hq : L[j]? = some q) {p : Int} (hp : p ∈ nexts c q.1) : getN D (srt (q.1 ++ [p])) = some ((Wy c (c.length - (m + 1)) (q.1 ++ [p]) : Nat) : Int) := by
  obtain ⟨r, h1, h2, e, hm⟩ := hL.row hq
  have hp' : p ∈ nexts c r := by rw [← nexts_congr hm]; exact hp
  have h3 := h1.next hp'
  have h4 : (r ++ [p]).length = m + 1 := by rw [List.length_append, h2]; rfl
  have v := h.val _ h3 (.inl (by omega))
  rw [h4] at v
  rw [← e, srt_app, v, Wy_congr _ (app_mem (srt_in r))]
theorem EnP.step {c : Co} {m j : Nat} {L D : TL} (h : EnP c m L j D) (hL : Lay c m L) (hm : m < c.length) {q : List Int × Int} (hq : L[j]? = some q) : EnP c m L (j + 1) (putN D q.1 ((Wy c (c.length - m) q.1 : Nat) : Int)) := by
  obtain ⟨r0, h1, h2, e, hm0⟩ := hL.row hq
  obtain ⟨g1, g2⟩ := putN_keys (k := q.1) (n := ((Wy c (c.length - m) q.1 : Nat) : Int)) h.nd
  refine ⟨g1, fun k hk => ?_, fun r hr hl => ?_⟩
  · rcases (g2 k).mp hk with rfl | hk
    · rw [← e]
      exact h1.sub2
    · exact h.sub k hk
  · rw [getN_put]
    by_cases er : srt r = q.1
    · rw [if_pos er]
      have hmr : ∀ x, x ∈ q.1 ↔ x ∈ r := fun x => by rw [← er, mem_srt]
      have el : r.length = m := by
        have p1 := (srt_perm r).length_eq
        have p2 := (srt_perm r0).length_eq
        rw [er, ← e] at p1
        omega
      rw [el, Wy_congr _ hmr]
    · rw [if_neg er]
      refine h.val r hr (hl.imp_right fun z => ?_)
      rw [List.take_add_one, hq] at z
      unfold kysN at z
      rw [List.map_append, List.mem_append] at z
      exact z.resolve_right fun y => er (by simpa using y)
end Ec
set_option Elab.async false
set_option linter.all false
set_option maxRecDepth 100000
set_option maxHeartbeats 4000000
namespace Ec
open PySem PySem.Spec PyProof.Rows L2
theorem we_gint {X : Cx} {δ : Dl} {μ : Cells} {Q : Vd → Cells → Prop} {x : Str} {n : Int} {pos : Pos} {mg : Str → Option Value} (hg : Gl X x) (hm : ∃ t, mg x = some (.int n t)) (h : Q (.d (.int n)) μ) (hX : X.mg = mg := by rfl) (hd : (x == ("__debug__" : Str)) = false := by decide) : WE X (.Name x pos) δ μ Q := fun F H σ R QV k => by
  obtain ⟨t, e⟩ := hm
  exact toE (pe_glob (v := V.int n) hg (by rw [hX]; exact e) ⟨t, rfl⟩ hd) (k _ (.d (.int n)) F H μ Fw.refl R (.int n) h)
theorem nexts_asc (c : Co) (t : List Int) : (nexts c t).Pairwise (· < ·) := ((rng_lt _).filter _).filter _
theorem mem_ext {c : Co} : ∀ (k : Nat) {r s : List Int}, POrd c r → s ∈ ext c k r → POrd c s ∧ s.length = r.length + k ∧ s.take r.length = r
  | 0, r, s, h, m => by
    cases List.mem_singleton.mp m
    exact ⟨h, rfl, List.take_length⟩
  | k + 1, r, s, h, m => by
    obtain ⟨p, hp, hs⟩ := List.mem_flatMap.mp m
    obtain ⟨h1, h2, h3⟩ := mem_ext k (h.next hp) hs
    rw [List.length_append, List.length_singleton] at h2 h3
    refine ⟨h1, by omega, ?_⟩
    have := congrArg (List.take r.length) h3
    rw [List.take_take, Nat.min_eq_left (by omega), List.take_left] at this
    exact this
theorem ext_nodup {c : Co} : ∀ (k : Nat) {r : List Int}, POrd c r → (ext c k r).Nodup
  | 0, r, _ => by
    show [r].Nodup
    simp
  | k + 1, r, h => by
    show ((nexts c r).flatMap fun p => ext c k (r ++ [p])).Nodup
    have hd := (nexts_asc c r).imp fun {a b} (z : a < b) => (show a ≠ b by omega)
    have hin : ∀ p ∈ nexts c r, p ∈ nexts c r := fun p m => m
    revert hin hd
    generalize hN : nexts c r = N
    intro hd hin
    have hin' : ∀ p ∈ N, p ∈ nexts c r := fun p m => hN ▸ m
    clear hN hin
    induction N with
    | nil => exact List.nodup_nil
    | cons p N ih =>
      rw [List.flatMap_cons]
      obtain ⟨d1, d2⟩ := List.pairwise_cons.mp hd
      refine List.nodup_append.mpr ⟨ext_nodup k (h.next (hin' p List.mem_cons_self)), ih d2 fun q m => hin' q (List.mem_cons_of_mem _ m), fun x mx y my e => ?_⟩
      subst e
      obtain ⟨q, hq, my⟩ := List.mem_flatMap.mp my
      obtain ⟨_, _, e1⟩ := mem_ext k (h.next (hin' p List.mem_cons_self)) mx
      obtain ⟨_, _, e2⟩ := mem_ext k (h.next (hin' q (List.mem_cons_of_mem _ hq))) my
      rw [List.length_append, List.length_singleton] at e1 e2
      rw [e1] at e2
      have := List.append_cancel_left e2
      exact d1 q hq (List.singleton_inj.mp this)
theorem allP_nodup (c : Co) (k : Nat) : (allP c k).Nodup := by
  rw [allP_ext]
  exact ext_nodup k (POrd.nil c)
theorem En.next {c : Co} {D : TL} (h : En c 0 D) {r : List Int} (hr : POrd c r) {p : Int} (hp : p ∈ nexts c r) : getN D (srt (r ++ [p])) = some ((Wy c (c.length - (r.length + 1)) (r ++ [p]) : Nat) : Int) := by
  have := h.val _ (hr.next hp) (Nat.zero_le _)
  rw [List.length_append, List.length_singleton] at this
  exact this
theorem En.all {c : Co} {D : TL} (h : En c 0 D) : getN D [] = some ((Wy c c.length [] : Nat) : Int) := by
  have := h.val [] (POrd.nil c) (Nat.zero_le _)
  rw [srt_nil] at this
  exact this
def Beg (c : Co) (s : List Int) (f : Nat) : Prop := ∀ k y, (ext c (c.length - s.length) s)[k]? = some y → (allP c c.length)[f + k]? = some y
theorem Beg.zero (c : Co) : Beg c [] 0 := fun k y h => by
  rw [Nat.zero_add, allP_ext]
  exact h
theorem flat_at {α β : Type} (f : α → List β) : ∀ {l : List α} {j : Nat} {x : α} {k : Nat} {y : β}, l[j]? = some x → (f x)[k]? = some y → (l.flatMap f)[((l.take j).map fun a => (f a).length).sum + k]? = some y
  | a :: l, 0, x, k, y, h, g => by
    cases h
    rw [List.flatMap_cons, List.take_zero, List.map_nil, List.sum_nil, Nat.zero_add, List.getElem?_append_left (List.getElem?_eq_some_iff.mp g).1]
    exact g
  | a :: l, j + 1, x, k, y, h, g => by
    rw [List.flatMap_cons, List.take_succ_cons, List.map_cons, List.sum_cons, List.getElem?_append_right (by omega)]
    have := flat_at f (l := l) (j := j) h g
    rw [show (f a).length + ((l.take j).map fun a => (f a).length).sum + k - (f a).length = ((l.take j).map fun a => (f a).length).sum + k by omega]
    exact this
theorem asc_less : ∀ {l : List Int} {j : Nat} {x : Int}, l.Pairwise (· < ·) → l[j]? = some x → (l.filter fun y => decide (y < x)) = l.take j
  | a :: l, 0, x, hp, h => by
    cases h
    obtain ⟨h1, _⟩ := List.pairwise_cons.mp hp
    rw [List.take_zero, List.filter_cons_of_neg (by simp), List.filter_eq_nil_iff]
    intro y hy z
    have := h1 y hy
    have z' : y < a := by simpa using z
    omega
  | a :: l, j + 1, x, hp, h => by
    obtain ⟨h1, h2⟩ := List.pairwise_cons.mp hp
    have := h1 x (List.mem_of_getElem? h)
    rw [List.filter_cons_of_pos (by simpa using this), List.take_succ_cons, asc_less h2 h]
theorem Beg.step {c : Co} {s : List Int} {f : Nat} (h : Beg c s f) {x : Int} (hx : x ∈ nexts c s) (hl : s.length < c.length) : Beg c (s ++ [x]) (f + (((nexts c s).filter fun y => decide (y < x)).map fun o => Wy c (c.length - (s.length + 1)) (s ++ [o])).sum) := fun k y g => by
  obtain ⟨j, hj⟩ := List.getElem?_of_mem hx
  rw [List.length_append, List.length_singleton] at g
  have := flat_at (fun p => ext c (c.length - (s.length + 1)) (s ++ [p])) hj g
  have e := h _ y (by rw [show c.length - s.length = (c.length - (s.length + 1)) + 1 by omega]; exact this)
  rw [asc_less (nexts_asc c s) hj]
  rw [show (((nexts c s).take j).map fun o => Wy c (c.length - (s.length + 1)) (s ++ [o])) = ((nexts c s).take j).map fun a => (ext c (c.length - (s.length + 1)) (s ++ [a])).length from List.map_congr_left fun a _ => (ext_len _ _ _).symm, Nat.add_assoc]
  exact e
theorem Beg.end {c : Co} {r : List Int} {f : Nat} (h : Beg c r f) (hl : r.length = c.length) : (allP c c.length)[f]? = some r := h 0 r (by rw [hl, Nat.sub_self]; rfl)
end Ec
set_option Elab.async false
set_option linter.all false
set_option maxRecDepth 100000
set_option maxHeartbeats 4000000
namespace Ec
open PySem PySem.Spec PyProof.Rows L2
end Ec
set_option Elab.async false
set_option linter.all false
set_option maxRecDepth 100000
set_option maxHeartbeats 4000000
namespace Ec
open PySem PySem.Spec PyProof.Rows L2
end Ec
set_option Elab.async false
set_option linter.all false
set_option maxRecDepth 100000
set_option maxHeartbeats 4000000
namespace Ec
open PySem PySem.Spec PyProof.Rows L2
end Ec
namespace Ec
open PySem PySem.Spec PyProof.Rows L2
end Ec
set_option Elab.async false
set_option linter.all false
set_option maxRecDepth 100000
set_option maxHeartbeats 4000000
namespace Ec
open PySem PySem.Spec PyProof.Rows L2
end Ec
namespace Ec
open PySem PySem.Spec PyProof.Rows L2
end Ec
set_option Elab.async false
set_option linter.all false
set_option maxRecDepth 100000
set_option maxHeartbeats 4000000
namespace Ec
open PySem PySem.Spec PyProof.Rows L2
theorem nodup_leG {α : Type} [DecidableEq α] : ∀ {as bs : List α}, as.Nodup → (∀ x ∈ as, x ∈ bs) → as.length ≤ bs.length
  | [], _, _, _ => Nat.zero_le _
  | a :: as, bs, h, hs => by
    rw [List.nodup_cons] at h
    have h1 : a ∈ bs := hs a List.mem_cons_self
    have := nodup_leG (bs := bs.erase a) h.2 fun x hx => (List.mem_erase_of_ne (fun e : x = a => h.1 (by rw [← e]; exact hx))).mpr (hs x (List.mem_cons_of_mem _ hx))
    rw [List.length_erase_of_mem h1] at this
    have h2 := List.length_pos_of_mem h1
    show as.length + 1 ≤ bs.length
    omega
theorem Wid.more {c c' : Co} (h : Wid c c') (w : CoW c) (w' : CoW c') : (allP c c.length).length ≤ (allP c' c'.length).length :=
  nodup_leG (allP_nodup c _) fun r hr => mem_all.mpr (h.ord w w' (mem_all.mp hr))
theorem Wid.mb {c c' : Co} (h : Wid c c') (w : CoW c) (w' : CoW c') {q : Int × Int} (hq : q ∈ Ec.mb c') : q ∈ Ec.mb c := by
  obtain ⟨a, b⟩ := q
  rw [mem_mb, mem_bh] at *
  obtain ⟨⟨h0, h1⟩, ⟨h2, h3⟩, h4, h5⟩ := hq
  rw [h.len] at h1 h3
  exact ⟨⟨h0, h1⟩, ⟨h2, h3⟩, h4, fun z => h5 (h.cl w w' [a] b z)⟩
theorem Wid.fp {c c' : Co} (h : Wid c c') (w : CoW c) (w' : CoW c') {q : Int × Int} (hq : q ∈ Ec.fp c) : q ∈ Ec.fp c' := by
  obtain ⟨a, b⟩ := q
  rw [mem_fp] at *
  obtain ⟨h0, h1, h2, h3, h4⟩ := hq
  exact ⟨h0, h1, by rw [h.len]; exact h2, fun z => h3 (h.mb w w' z), fun z => h4 (h.mb w w' z)⟩
end Ec
namespace Ec
end Ec
namespace Ec
end Ec
set_option Elab.async false
set_option linter.all false
set_option maxRecDepth 100000
set_option maxHeartbeats 4000000
namespace Ec
open PySem PySem.Spec PyProof.Rows L2
section
variable {X : Cx} {CX : CXT} {k : Nat} {f : Addr} {fd : FuncData} {ps : List Str} {sp : Sp} {x : Str} {p pos : Pos}
end
end Ec
set_option Elab.async false
set_option linter.all false
set_option maxRecDepth 100000
set_option maxHeartbeats 4000000
namespace Ec
open PySem PySem.Spec PyProof.Rows L2
theorem fl_get {K : PySem.W.Frag} {F : Hp} {f : Str} {d : PyData} : ∀ {vs : List (Str × V)} {fs : List (Str × PyData)}, Paired (FlE K F) vs fs → fs.lookup f = some d → ∃ v, vs.lookup f = some v ∧ Dq K F v d
  | _, _, .nil, h => by cases h
  | (g, v) :: vs, (g', d') :: fs, .cons h t, e => by
    obtain ⟨h1, h2⟩ := h
    have h1 : g = g' := h1
    subst h1
    rw [List.lookup_cons] at e
    by_cases q : (f == g) = true
    · rw [q] at e
      cases e
      exact ⟨v, by rw [List.lookup_cons, q], h2⟩
    · rw [Bool.eq_false_iff.mpr q] at e
      obtain ⟨u, e1, e2⟩ := fl_get t e
      exact ⟨u, by rw [List.lookup_cons, Bool.eq_false_iff.mpr q]; exact e1, e2⟩
theorem fl_no {K : PySem.W.Frag} {F : Hp} {f : Str} : ∀ {vs : List (Str × V)} {fs : List (Str × PyData)}, Paired (FlE K F) vs fs → fs.lookup f = none → vs.lookup f = none
  | _, _, .nil, _ => rfl
  | (g, v) :: vs, (g', d') :: fs, .cons h t, e => by
    obtain ⟨h1, h2⟩ := h
    have h1 : g = g' := h1
    subst h1
    rw [List.lookup_cons] at e ⊢
    by_cases q : (f == g) = true
    · rw [q] at e
      cases e
    · rw [Bool.eq_false_iff.mpr q] at e ⊢
      exact fl_no t e
def putA (f : Str) (d : PyData) : List (Str × PyData) → List (Str × PyData)
  | [] => [(f, d)]
  | x :: r => if x.1 = f then (x.1, d) :: r else x :: putA f d r
theorem fl_put {K : PySem.W.Frag} {F : Hp} {f : Str} {v : V} {d : PyData} (hv : Dq K F v d) : ∀ {vs : List (Str × V)} {fs : List (Str × PyData)}, Paired (FlE K F) vs fs → Paired (FlE K F) (putF f v vs) (putA f d fs)
  | _, _, .nil => .cons ⟨rfl, hv⟩ .nil
  | (g, u) :: vs, (g', d') :: fs, .cons h t => by
    obtain ⟨h1, h2⟩ := h
    have h1 : g = g' := h1
    subst h1
    show Paired (FlE K F) (if g = f then (g, v) :: vs else (g, u) :: putF f v vs) (if g = f then (g, d) :: fs else (g, d') :: putA f d fs)
    by_cases q : g = f
    · rw [if_pos q, if_pos q]
      exact .cons ⟨rfl, hv⟩ t
    · rw [if_neg q, if_neg q]
      exact .cons ⟨rfl, h2⟩ (fl_put hv t)
theorem fl_len {K : PySem.W.Frag} {F : Hp} : ∀ {vs : List (Str × V)} {fs : List (Str × PyData)}, Paired (FlE K F) vs fs → vs.length = fs.length
  | _, _, .nil => rfl
  | _ :: _, _ :: _, .cons _ t => by rw [List.length_cons, List.length_cons, fl_len t]
section
variable {X : Cx} {δ : Dl} {μ : Cells} {o e : Expr} {es : List Expr} {pos pos' apos p : Pos} {f m : Str} {Q : Vd → Cells → Prop} {D : Dn}
theorem we_fldP (h : WE X o δ μ fun x μ1 => ∃ (p C q : Addr) (fs : List (Str × PyData)), x = .a p ∧ (p, Cont.o C fs) ∈ μ1 ∧ L2.Cls X.K C ∧ NoAttr X.K C f ∧ fs.lookup f = some (ptr q) ∧ Q (.a q) μ1)
    (hb : attributeBase o f X.env (eval o X.env) = eval o X.env := by rfl) : WE X (.Attribute o f pos) δ μ Q := fun F H σ R QV c =>
  toE (pe_fld (pcE X o) hb) (h F H σ R _ fun v x F1 H1 μ1 w1 R1 o1 q => by
    obtain ⟨p, C, q, fs, rfl, hm, hc, hn, hl, q0⟩ := q
    obtain ⟨_, dx, vs, e1, e2⟩ := R1.m.cel _ _ hm
    obtain ⟨u, e3, e4⟩ := fl_get e2 hl
    have ou : u = .ref q := by
      cases e4 with
      | d h => cases h
      | p a => rfl
    subst ou
    exact ⟨p, C, dx, vs, _, o1, e1, hc, hn, e3, c (.ref q) (.a q) F1 H1 μ1 w1 R1 rfl q0⟩)
theorem ws_fldP (h : WE X e δ μ fun y μ1 => WE X o δ μ1 fun x μ2 => ∃ (p C q : Addr) (fs : List (Str × PyData)) (i : Nat), y = .a q ∧ x = .a p ∧ μ2[i]? = some (p, Cont.o C fs) ∧ L2.Cls X.K C ∧ NoAttr X.K C f ∧ fs.length < 1000 ∧ D.nx δ (μ2.set i (p, Cont.o C (putA f (ptr q) fs))))
    (hs : swapsWith e (some (.Attribute o f pos')) pos.line X.env = pure false := by rfl) : WS X (.Assign [.Attribute o f pos'] e pos) δ μ D := fun F H σ R De b =>
  toS (ps_fld (pcE X o) (pcE X e) hs) (h F H σ R _ fun v y F1 H1 μ1 w1 R1 o1 q1 => q1 F1 H1 σ R1 _ fun u x F2 H2 μ2 w2 R2 o2 q2 => by
    obtain ⟨p, C, q, fs, i, rfl, rfl, hi, hc, hn, hl, q0⟩ := q2
    obtain ⟨_, dx, vs, e1, e2⟩ := R2.m.cel _ _ (List.mem_of_getElem? hi)
    have ov : v = .ref q := o1
    subst ov
    refine ⟨p, C, dx, vs, o2, e1, hc, hn, by rw [fl_len e2]; exact hl, ?_⟩
    obtain ⟨m3, w3⟩ := R2.m.setO (es := Cont.o C (putA f (ptr q) fs)) (o := .ins C dx (putF f (.ref q) vs)) hi ⟨dx, _, upd_same, fl_put (.p q) e2⟩
    exact b.nx F2 _ σ δ _ ((w1.trans w2).trans w3) (R2.to w3.f m3) q0)
end
def LentOk : List Nat → Cells → Cells → Cells → Prop
  | [], μ, l, r => l = [] ∧ r = μ
  | i :: js, μ, l, r => ∃ x l', l = x :: l' ∧ μ[i]? = some x ∧ LentOk js (μ.eraseIdx i) l' r
theorem LentOk.perm : ∀ {js : List Nat} {μ l r : Cells}, LentOk js μ l r → μ.Perm (l ++ r)
  | [], μ, l, r, h => by
    obtain ⟨rfl, rfl⟩ := h
    exact List.Perm.refl _
  | i :: js, μ, l, r, h => by
    obtain ⟨x, l', rfl, hi, h⟩ := h
    obtain ⟨hl, e⟩ := List.getElem?_eq_some_iff.mp hi
    have a := perm_erase hl
    rw [e] at a
    exact a.trans (List.Perm.cons x h.perm)
section
variable {X : Cx} {W : WX} {er : ErP} {δ : Dl} {μ : Cells} {E : Expr} {Q : Vd → Cells → Prop} {D : Dn}
theorem we_clS {T : TrD} (js : List Nat) (h : WCl X E T δ μ fun xs μ1 => ∃ l r, LentOk js μ1 l r ∧ T xs l fun z μ' => Q z (μ' ++ r)) : WE X E δ μ Q := fun F H σ R QV kk =>
  h F H σ R QV fun vs xs F1 H1 μ1 w1 R1 o1 q => by
    obtain ⟨l, r, hj, q0⟩ := q
    have R1p := R1.perm hj.perm
    refine ⟨F1, xs, l, _, R1p.m.left, o1, q0, fun v z F2 H2 μ2 w2 m2 o2 q2 => ?_⟩
    obtain ⟨m3, w3⟩ := R1p.m.frame w2 m2
    exact kk v z F2 H2 _ ((w1.perm (K := X.K) hj.perm).trans w3) (R1p.to w2.f m3) o2 q2
theorem wex_clS {T : TrX} (js : List Nat) (h : WCx X W E T δ μ fun xs μ1 => ∃ l r, LentOk js μ1 l r ∧ T xs l (fun z μ' => Q z (μ' ++ r)) fun ex μ' => er ex δ (μ' ++ r)) : WEx X W er E δ μ Q := fun F H σ R eb QV kk =>
  h F H σ R QV fun vs xs F1 H1 μ1 w1 R1 o1 q => by
    obtain ⟨l, r, hj, q0⟩ := q
    have R1p := R1.perm hj.perm
    have w1p := w1.perm (K := X.K) hj.perm
    refine ⟨F1, xs, l, _, _, R1p.m.left, o1, q0, fun v z F2 H2 μ2 w2 m2 o2 q2 => ?_, fun ex cls d F2 H2 μ2 w2 m2 o2 q2 => ?_⟩
    · obtain ⟨m3, w3⟩ := R1p.m.frame w2 m2
      exact kk v z F2 H2 _ (w1p.trans w3) (R1p.to w2.f m3) o2 q2
    · obtain ⟨m3, w3⟩ := R1p.m.frame w2 m2
      exact eb ex cls d F2 H2 σ δ _ (w1p.trans w3) (R1p.to w2.f m3) o2 q2
theorem wb_ord (js : List Nat) {l r : Cells} {sts : List Stmt} (hj : LentOk js μ l r) (h : WB X sts δ (l ++ r) D) : WB X sts δ μ D := fun F H σ R De b =>
  h F H σ (R.perm hj.perm) De (b.next (Fw.refl.sub (fun _ h => h) fun x m => .inl ((hj.perm.map Prod.fst).mem_iff.mpr m)))
theorem wbx_ord (js : List Nat) {l r : Cells} {sts : List Stmt} (hj : LentOk js μ l r) (h : WBx X W er sts δ (l ++ r) D) : WBx X W er sts δ μ D := fun F H σ R eb De b => by
  have w : Fw (ks μ) (ks (l ++ r)) F H F H := Fw.refl.sub (fun _ h => h) fun x m => .inl ((hj.perm.map Prod.fst).mem_iff.mpr m)
  exact h F H σ (R.perm hj.perm) (eb.next w) De (b.next w)
end
def MtEv (X : Cx) (o : Expr) (m : Str) (apos pos : Pos) (es : List Expr) (kws : List Keyword) (pl : Sem Bool) : Prop :=
  eval (.Call (.Attribute o m apos) es kws pos) X.env = (do let ov ← eval o X.env
                                                            standAt apos.atName
                                                            let (g, first) ← holding [ov] (getMethod ov m pl)
                                                            callWith pos g first (backTo pos (starEach es X.env)) (backToKw pos (keywordEach kws X.env)))
def tMt (sp : Sp) (m : Str) (C : Addr) (E : L2.St → XK) (ta : TE) (t : TA) : TE := fun σ H Q => ta σ H fun x H1 => ∃ a dx fs, x = .ref a ∧ H1 a = some (.ins C dx fs) ∧ fs.lookup m = none ∧ t σ H1 fun vs H2 => sp (.ref a :: vs) H2 Q (E σ)
section
variable {X : Cx} {CX : CXT} {k : Nat} {C f : Addr} {m : Str} {fd : FuncData} {ps ks : List Str} {sp : Sp} {o e : Expr} {es : List Expr} {kws : List Keyword} {ta : TE} {t tk : TA} {apos pos : Pos} {pl : Sem Bool} {E : L2.St → XK} {g : List Value → List Value → List Value} {gV : List V → List V → List V}
theorem run_mt {pins : List (Addr × Obj)} {σ : L2.St} {H : Hp} {s : Shared} {Q : VK} {E : XK} {us : List Value} {vs : List V} (F : FnG X.prog X.w X.K X.mg X.base CX k f fd ps sp) (hr : Room k X.A) (hgd : X.A.guards = some []) (hb : Binds X.K fd ps []) (hx : PassesAt CX X σ E)
    (I : Inv X pins σ H s) (r : Vals vs us) (h : sp vs H Q E) : wpAny (model X.prog X.w) X.A (call (.ref f) us) (EP X pins σ Q) X.xe s := by
  have b := hb s us I.kIn (by rw [List.append_nil, ← r.length]; exact F.len _ _ _ _ h)
  rw [List.append_nil] at b
  exact run_g F hr hgd b hx I r h
theorem pe_mtg (he : PE X o ta) (c : L2.Cls X.K C) (hm : Meth X.K C m f) (F : FnG X.prog X.w X.K X.mg X.base CX k f fd ps sp) (hr : Room k X.A) (hgd : X.A.guards = some []) (hb : Binds X.K fd ps []) (hx : ∀ σ, PassesAt CX X σ (E σ)) (ha : PA X (e :: es) t)
    (ht : MtEv X o m apos pos (e :: es) [] pl) (hst : starEach (e :: es) X.env = (false, eval e X.env) :: starEach es X.env := by rfl) (hpl : (backTo pos (starEach es X.env)).any (·.1) = false := by rfl) : PE X (.Call (.Attribute o m apos) (e :: es) [] pos) (tMt sp m C E ta t) := ⟨fun pins s σ H Q I h =>
  PySem.W.methodCall_KW (pl := pl) (thn (he.run pins s σ H _ I h) fun u s1 ⟨x, H1, I1, rx, a, dx, fs, ex, ea, l, q⟩ => by
    subst ex
    obtain rfl : u = Value.ref a := rx
    exact getmeth_ok I1 ea c hm l (PySem.W.callWith_K (first := [.ref a]) (h₀ := X.base) I.ok.mod.kin hm.kp (thn (ha.run pos pins s1 σ H1 _ I1 q) fun us s2 ⟨vs, H2, I2, r, q2⟩ => ⟨I2.kIn, run_mt (us := .ref a :: us) (vs := .ref a :: vs) F hr hgd hb (hx σ) I2 (.cons rfl r) q2⟩) hst hpl)) ht⟩
theorem pe_mtg0 (he : PE X o ta) (c : L2.Cls X.K C) (hm : Meth X.K C m f) (F : FnG X.prog X.w X.K X.mg X.base CX k f fd ps sp) (hr : Room k X.A) (hgd : X.A.guards = some []) (hb : Binds X.K fd ps []) (hx : ∀ σ, PassesAt CX X σ (E σ))
    (ht : MtEv X o m apos pos [] [] pl) : PE X (.Call (.Attribute o m apos) [] [] pos) (tMt sp m C E ta tNil) := ⟨fun pins s σ H Q I h =>
  PySem.W.methodCall_KW (pl := pl) (thn (he.run pins s σ H _ I h) fun u s1 ⟨x, H1, I1, rx, a, dx, fs, ex, ea, l, q⟩ => by
    subst ex
    obtain rfl : u = Value.ref a := rx
    exact getmeth_ok I1 ea c hm l (PySem.W.callWith_K0 (first := [.ref a]) I1.kIn hm.kp (run_mt (us := [.ref a]) (vs := [.ref a]) F hr hgd hb (hx σ) I1 (.cons rfl .nil) q))) ht⟩
end
theorem make_new {K : PySem.W.Frag} {F H : Hp} {μ : Cells} {x dx C : Addr} (m : RpM K F H μ) (hx : H x = none) (hd : H dx = none) (ne : dx ≠ x) :
    RpM K (upd F dx (.own x)) (upd (upd H dx (.own x)) x (.ins C dx [])) ((x, Cont.o C []) :: μ) ∧ Fw (ks μ) (Ec.ks ((x, Cont.o C []) :: μ)) F H (upd F dx (.own x)) (upd (upd H dx (.own x)) x (.ins C dx [])) := by
  obtain ⟨m1, w1⟩ := m.new (o := .own x) hd
  have nx : (upd H dx (.own x)) x = none := by rw [upd_ne ne.symm]; exact hx
  obtain ⟨m2, w2⟩ := m1.cellO (c := Cont.o C []) (o := .ins C dx []) nx ⟨dx, [], upd_same, .nil⟩
  exact ⟨m2, w1.trans w2⟩
section
variable {X : Cx} {CX : CXT} {k : Nat} {C f : Addr} {x : Str} {fd : FuncData} {ps ks : List Str} {sp : Sp} {e : Expr} {es : List Expr} {kws : List Keyword} {t tk : TA} {p pos : Pos} {E : L2.St → XK} {g : List Value → List Value → List Value} {gV : List V → List V → List V}
theorem run_mkg {pins : List (Addr × Obj)} {σ : L2.St} {H : Hp} {s : Shared} {Q : VK} {E : XK} {us ws : List Value} {kn : List (Str × Value)} {vs : List V} (M : Mk X.K C f) (F : FnG X.prog X.w X.K X.mg X.base CX k f fd ps sp) (hr : Room (k + 1) X.A) (hgd : X.A.guards = some [])
    (hb : ∀ (s : Shared) (u : Value), X.K.In s.heap → BindsTo s fd ⟨u :: us, kn⟩ (ps.zip (u :: ws))) (hx : Passes CX X E) (I : Inv X pins σ H s) (r : Vals vs ws)
    (h : ∀ y dx, H y = none → H dx = none → dx ≠ y → sp (.ref y :: vs) (upd (upd H dx (.own y)) y (.ins C dx [])) (fun v H2 => v = .non ∧ Q (.ref y) H2) E) :
    wpAny (model X.prog X.w) X.A (call (.ref C) us kn) (EP X pins σ Q) X.xe s := by
  have hq := h (s.heap.objs.size + 1) s.heap.objs.size (I.hok.fresh (Nat.le_succ _)) (I.hok.fresh (Nat.le_refl _)) (Nat.ne_of_lt (Nat.lt_succ_self _))
  have J := Inv.made (C := C) I
  refine wpAny_call (make_map (f := f) I.kIn M.makes M.init (beq_iff_eq.mp M.fn) (codeAny_mono (F.run _ X.stack _ _ ⟨.ref (s.heap.objs.size + 1) :: us, kn⟩ (.ref (s.heap.objs.size + 1) :: ws) (.ref (s.heap.objs.size + 1) :: vs) _ E (hr.make C us kn) (by exact hgd) (J.env0.make C us kn) (hb _ _ J.kIn) (.cons rfl r) hq) fun z s' hz => ?_))
  match z, hz with
  | .error e, hz => exact hx pins σ _ _ e s' J hz
  | .ok (.ret u), hz =>
    obtain ⟨v, H', I3, rv, ev, q3⟩ := J.after hz
    subst ev
    exact ⟨rv, ⟨V.ref (s.heap.objs.size + 1), H', I3, rfl, q3⟩⟩
  | .ok .next, hz => exact hz.elim
  | .ok .brk, hz => exact hz.elim
  | .ok .cont, hz => exact hz.elim
end
end Ec
set_option Elab.async false
set_option linter.all false
set_option maxRecDepth 100000
set_option maxHeartbeats 4000000
namespace Ec
open PySem PySem.Spec PyProof.Rows L2
def CalM (P : Program) (w : World) (K : PySem.W.Frag) (mg : Str → Option Value) (base : Heap) (k : Nat) (C : Addr) (m : Str) (T : TrD) : Prop :=
  ∃ f fd ps, FnG P w K mg base CX0 k f fd ps (spW K T) ∧ Meth K C m f ∧ Binds K fd ps []
def CalMX (P : Program) (w : World) (K : PySem.W.Frag) (mg : Str → Option Value) (base : Heap) (k : Nat) (C : Addr) (m : Str) (T : TrX) : Prop :=
  ∃ f fd ps, FnG P w K mg base (L2.CX P w) k f fd ps (spX K T) ∧ Meth K C m f ∧ Binds K fd ps []
def CalI (P : Program) (w : World) (K : PySem.W.Frag) (mg : Str → Option Value) (base : Heap) (k : Nat) (x : Str) (C : Addr) (T : TrD) : Prop :=
  ∃ f fd ps, FnG P w K mg base CX0 k f fd ps (spW K T) ∧ Mk K C f ∧ mg x = some (.ref C) ∧ Binds K fd ps []
def RcO (K : PySem.W.Frag) (C : Addr) (m : Str) (x : Vd) (μ : Cells) (p : Addr) : Prop := x = .a p ∧ ∃ fs, (p, Cont.o C fs) ∈ μ ∧ fs.lookup m = none
theorem RcO.at_ {K : PySem.W.Frag} {F H : Hp} {C : Addr} {m : Str} {x : Vd} {μ : Cells} {p : Addr} {v : V} (h : RcO K C m x μ p) (r : RpM K F H μ) (o : VOk K F x v) : v = .ref p ∧ ∃ dx fs, H p = some (.ins C dx fs) ∧ fs.lookup m = none := by
  obtain ⟨rfl, fs, hm, hl⟩ := h
  obtain ⟨_, dx, vs, e1, e2⟩ := r.cel _ _ hm
  exact ⟨o, dx, vs, e1, fl_no e2 hl⟩
section
variable {X : Cx} {W : WX} {er : ErP} {δ : Dl} {μ : Cells} {o e : Expr} {es : List Expr} {kws : List Keyword} {apos pos p : Pos} {m x : Str} {Q : Vd → Cells → Prop} {D : Dn} {pl : Sem Bool} {P : Program} {w : World} {K : PySem.W.Frag} {mg : Str → Option Value} {base : Heap} {k : Nat} {C : Addr} {ks : List Str} {is : List Nat}
theorem wc_mt0 {T : TrD} {QA : List Vd → Cells → Prop} (c : CalM P w K mg base k C m T) (cl : L2.Cls K C) (hr : Room k X.A) (h : WE X o δ μ fun x μ1 => ∃ p, RcO K C m x μ1 p ∧ QA [.a p] μ1)
    (hgd : X.A.guards = some [] := by assumption) (hX : (X.prog, X.w, X.K, X.mg, X.base) = (P, w, K, mg, base) := by rfl) (ht : MtEv X o m apos pos [] [] pl := by exact rfl) :
    WCl X (.Call (.Attribute o m apos) [] [] pos) T δ μ QA := fun F H σ R QV kk => by
  obtain ⟨f, fd, ps, ok, hm, hb⟩ := c
  cases hX
  refine toE (pe_mtg0 (E := fun _ => E0) (pcE X o) cl hm ok hr hgd hb (fun σ pins H s e s' I h => pass0 pins σ H s e s' I h) ht) (h F H σ R _ fun v y F1 H1 μ1 w1 R1 o1 q => ?_)
  obtain ⟨p, hp, q⟩ := q
  obtain ⟨rfl, dx, fs, e1, e2⟩ := hp.at_ R1.m o1
  exact ⟨p, dx, fs, rfl, e1, e2, kk [.ref p] [.a p] F1 H1 μ1 w1 R1 (.cons rfl .nil) q⟩
theorem wcx_mt {T : TrX} {QA : List Vd → Cells → Prop} (c : CalMX P w K mg base k C m T) (tk : Takes X W) (cl : L2.Cls K C) (hr : Room k X.A) (h : WE X o δ μ fun x μ1 => ∃ p, RcO K C m x μ1 p ∧ WA X (e :: es) δ μ1 fun xs μ2 => QA (.a p :: xs) μ2)
    (hgd : X.A.guards = some [] := by assumption) (hX : (X.prog, X.w, X.K, X.mg, X.base) = (P, w, K, mg, base) := by rfl) (ht : MtEv X o m apos pos (e :: es) [] pl := by exact rfl)
    (he : starEach (e :: es) X.env = (false, eval e X.env) :: starEach es X.env := by rfl) (hpl : (backTo pos (starEach es X.env)).any (·.1) = false := by rfl) :
    WCx X W (.Call (.Attribute o m apos) (e :: es) [] pos) T δ μ QA := fun F H σ R QV kk => by
  obtain ⟨f, fd, ps, ok, hm, hb⟩ := c
  cases hX
  refine toE (pe_mtg (E := L2.WE W) (pcE X o) cl hm ok hr hgd hb (passAt tk) (pcA X (e :: es)) ht he hpl) (h F H σ R _ fun v y F1 H1 μ1 w1 R1 o1 q => ?_)
  obtain ⟨p, hp, q⟩ := q
  obtain ⟨rfl, dx, fs, e1, e2⟩ := hp.at_ R1.m o1
  exact ⟨p, dx, fs, rfl, e1, e2, q F1 H1 σ R1 _ fun vs xs F2 H2 μ2 w2 R2 o2 q2 => kk (.ref p :: vs) (.a p :: xs) F2 H2 μ2 (w1.trans w2) R2 (.cons rfl o2) q2⟩
theorem we_x0 {e : Expr} (h : WEx X (fun _ _ _ _ => False) (fun _ _ _ => False) e δ μ Q) : WE X e δ μ Q := fun F H σ R QV kk => h F H σ R (fun _ _ _ _ _ _ _ _ _ _ _ z => z) QV kk
theorem pe_mkg {CX : CXT} {f : Addr} {fd : FuncData} {ps : List Str} {sp : Sp} {E : XK} {t : TA} (M : Mk X.K C f) (F : FnG X.prog X.w X.K X.mg X.base CX k f fd ps sp) (hr : Room (k + 1) X.A) (hgd : X.A.guards = some []) (hg : Gl X x) (hm : X.mg x = some (.ref C)) (hb : Binds X.K fd ps []) (hx : Passes CX X E) (ha : PA X (e :: es) t)
    (hdb : (x == ("__debug__" : Str)) = false := by decide) (he : starEach (e :: es) X.env = (false, eval e X.env) :: starEach es X.env := by rfl) (hpl : (backTo pos (starEach es X.env)).any (·.1) = false := by rfl) :
    PE X (.Call (.Name x p) (e :: es) [] pos) (fun σ H Q => t σ H fun vs H1 => ∀ y dx, H1 y = none → H1 dx = none → dx ≠ y → sp (.ref y :: vs) (upd (upd H1 dx (.own y)) y (.ins C dx [])) (fun v H2 => v = .non ∧ Q (.ref y) H2) E) := ⟨fun pins s σ H Q I h =>
  wpAny_Call_Name_kw (ld_glob I hg hm (PySem.W.callWith_K (h₀ := X.base) I.ok.mod.kin M.kp (thn (ha.run pos pins s σ H _ I h) fun us s1 ⟨vs, H1, I1, r, q⟩ => ⟨I1.kIn, run_mkg (kn := []) M F hr hgd (fun s2 u X2 => by
    have hq := q (s1.heap.objs.size + 1) s1.heap.objs.size (I1.hok.fresh (Nat.le_succ _)) (I1.hok.fresh (Nat.le_refl _)) (Nat.ne_of_lt (Nat.lt_succ_self _))
    have hl := F.len _ _ _ _ hq
    have b := hb s2 (u :: us) X2 (by rw [List.append_nil, ← hl, List.length_cons, List.length_cons, r.length])
    rw [List.append_nil] at b
    exact b) hx I1 r q⟩) he hpl) hdb)⟩
theorem we_mk {T : TrD} (c : CalI P w K mg base k x C T) (hr : Room (k + 1) X.A) (hg : Gl X x) (h : WA X (e :: es) δ μ fun xs μ1 => ∀ q, T (.a q :: xs) [(q, Cont.o C [])] fun z μ' => z = .d .none ∧ Q (.a q) (μ' ++ μ1))
    (hgd : X.A.guards = some [] := by assumption) (hX : (X.prog, X.w, X.K, X.mg, X.base) = (P, w, K, mg, base) := by rfl)
    (hdb : (x == ("__debug__" : Str)) = false := by decide) (he : starEach (e :: es) X.env = (false, eval e X.env) :: starEach es X.env := by rfl) (hpl : (backTo pos (starEach es X.env)).any (·.1) = false := by rfl) :
    WE X (.Call (.Name x p) (e :: es) [] pos) δ μ Q := fun F H σ R QV kk => by
  obtain ⟨f, fd, ps, ok, M, hm, hb⟩ := c
  cases hX
  refine toE (pe_mkg M ok hr hgd hg hm hb pass0 (pcA X (e :: es)) hdb he hpl) (h F H σ R _ fun vs xs F1 H1 μ1 w1 R1 o1 q => fun y dx hy hd ne => ?_)
  obtain ⟨m2, w2⟩ := make_new (C := C) R1.m hy hd ne
  have m2 : RpM X.K _ _ ([(y, Cont.o C [])] ++ μ1) := m2
  refine ⟨_, .a y :: xs, [(y, Cont.o C [])], _, m2.left, .cons rfl (o1.up w2.f), q y, fun v z F3 H3 μ3 w3 m3 o3 q3 => ?_⟩
  obtain ⟨rfl, q3⟩ := q3
  obtain ⟨m4, w4⟩ := m2.frame w3 m3
  have wa := (w1.trans w2).trans w4
  exact ⟨dp_non o3, kk (.ref y) (.a y) F3 H3 _ wa (R1.to (w2.f.trans w3.f) m4) rfl q3⟩
end
end Ec
set_option Elab.async false
set_option linter.all false
set_option maxRecDepth 100000
set_option maxHeartbeats 4000000
namespace Ec
open PySem PySem.Spec PyProof.Rows L2
def tFin (tb : WX → TS) (tf tfs : TS) (Wout : WX) : TS := fun D σ H => tb (wFin tfs Wout) { nx := fun σ1 H1 => tf D σ1 H1, rt := fun _ _ => False } σ H
section
variable {X : Cx} {body : List Stmt} {f₀ : Stmt} {fs : List Stmt} {pos : Pos} {tb : WX → TS} {tf tfs : TS} {Wout : WX}
theorem ps_fin (hs : X.stack = X.env :: X.outer) (hf : X.env.frame = some X.env.locals) (hex : X.ex = []) (tk : Takes X Wout)
    (hb : ∀ (W : WX) (pn : List (Addr × Obj)) (xe : Value → Shared → Prop), Takes (X.tr pn xe) W → PassesOwn (model X.prog X.w) X.A X.env xe → PSs (X.tr pn xe) body (tb W))
    (hfin : PSs X.nox (f₀ :: fs) tf) (hsu : ∀ (a : Addr) (pn : List (Addr × Obj)), PSs (X.suite a pn) (f₀ :: fs) tfs) : PS X (.Try body [] [] (f₀ :: fs) pos) (tFin tb tf tfs Wout) := by
  refine ⟨fun pins s σ H D I h => ?_⟩
  have ok := I.ok
  refine wpAny_Try_finally ?_
  refine wpAny_mono ((hb (wFin tfs Wout) (X.pn ++ pins) (fun x s₁ => wpAny (model X.prog X.w) X.A (noteFrame x X.env) (fun _ s₂ => FinallyRaised X.prog X.w X.A X.xe X.env (f₀ :: fs) (SP X pins D) x s₂) (FinallyRaised X.prog X.w X.A X.xe X.env (f₀ :: fs) (SP X pins D)) s₁)
    (fun u s' xx => ?_) PassesOwn.looking).run [] s σ H { nx := fun σ1 H1 => tf D σ1 H1, rt := fun _ _ => False } (I.toTry _) h) (fun g s1 z => ?_) (fun x s1 hx => hx)
  · exact fin_exc hs hf hex ok tk hsu xx
  · cases g with
    | ret u =>
      obtain ⟨_, _, _, _, _, q⟩ := z
      exact False.elim q
    | brk =>
      obtain ⟨_, _, _, q⟩ := z
      exact False.elim q
    | cont =>
      obtain ⟨_, _, _, q⟩ := z
      exact False.elim q
    | next =>
      obtain ⟨σ1, H1, J1, q1⟩ := z
      refine wpAny_execs_nil ?_
      refine wpAny_mono (hfin.run pins s1 σ1 H1 D ((J1.ofTry ok).wish _) q1) (fun g2 s2 q2 => ?_) fun _ _ e => False.elim e
      have q3 : SP X pins D g2 s2 := q2.unwish
      cases g2 <;> exact q3
end
section
variable {X : Cx} {W : WX} {er : ErP} {δ : Dl} {μ : Cells} {D : Dn} {body : List Stmt} {f₀ : Stmt} {fs : List Stmt} {pos : Pos}
def erFin (X : Cx) (sts : List Stmt) (er : ErP) : ErP := fun ex δ' μ' => ∀ (a : Addr) (pn : List (Addr × Obj)), WB (X.suite a pn) sts δ' μ' { nx := er ex, rt := fun _ _ => False }
theorem wsx_fin (hs : X.stack = X.env :: X.outer) (hf : X.env.frame = some X.env.locals) (hex : X.ex = []) (tk : Takes X W)
    (h : ∀ (W' : WX) (pn : List (Addr × Obj)) (xe : Value → Shared → Prop), Takes (X.tr pn xe) W' → PassesOwn (model X.prog X.w) X.A X.env xe →
      WBx (X.tr pn xe) W' (erFin X (f₀ :: fs) er) body δ μ { nx := fun δ' μ' => WB X.nox (f₀ :: fs) δ' μ' D, rt := fun _ _ => False }) : WSx X W er (.Try body [] [] (f₀ :: fs) pos) δ μ D := fun F H σ R eb De b =>
  toS (ps_fin (tb := fun W' D' σ' H' => ∀ (pn : List (Addr × Obj)) (xe : Value → Shared → Prop), Takes (X.tr pn xe) W' → PassesOwn (model X.prog X.w) X.A X.env xe → cB (X.tr pn xe) body D' σ' H')
    (tfs := fun D' σ' H' => ∀ (a : Addr) (pn : List (Addr × Obj)), cB (X.suite a pn) (f₀ :: fs) D' σ' H') hs hf hex tk
    (fun W' pn xe tk' po => ⟨fun pins s σ' H' D' I hh => hh pn xe tk' po pins s I⟩) (pcB X.nox (f₀ :: fs)) (fun a pn => ⟨fun pins s σ' H' D' I hh => hh a pn pins s I⟩))
    (show tFin _ _ _ W De σ H from fun pn xe tk' po => h _ pn xe tk' po F H σ R (fun ex cls d F' H' σ' δ' μ' w' R' o' q a pn =>
      q a pn F' H' σ' R' _ ⟨fun F2 H2 σ2 δ2 μ2 w2 R2 q2 => by
        obtain ⟨e0, dd, wv, e1, e2, e3⟩ := o'
        exact eb ex cls d F2 H2 σ2 δ2 μ2 (w'.trans w2) R2 ⟨e0, dd, wv, e1, w2.f _ _ e2, dp_up w2.f _ _ e3⟩ q2, fun _ _ _ _ _ _ _ _ z => z.elim, fun _ _ _ _ _ _ _ z => z.elim, fun _ _ _ _ _ _ _ z => z.elim⟩) _
      ⟨fun F' H' σ' δ' μ' w' R' q => q F' H' σ' R' De (b.next w'), fun _ _ _ _ _ _ _ _ z => z.elim, fun _ _ _ _ _ _ _ z => z.elim, fun _ _ _ _ _ _ _ z => z.elim⟩)
end
section
variable {X : Cx} {C f : Addr} {k : Nat} {fd : FuncData} {ps : List Str} {sp : Sp}
def rLenO (C : Addr) (sp : Sp) : List V → Hp → VK → Prop := fun xs H Q => ∃ a dx fs, xs = [.ref a] ∧ H a = some (.ins C dx fs) ∧ sp [.ref a] H (fun v H2 => ∃ n : Int, v = .int n ∧ (0 ≤ n ∧ n < 2 ^ 63) ∧ Q (.int n) H2) E0
theorem run_in1 {pins : List (Addr × Obj)} {σ : L2.St} {H : Hp} {s : Shared} {Q : VK} {us : List Value} {vs : List V} (F : FnG X.prog X.w X.K X.mg X.base CX0 k f fd ps sp) (hr : Room (k + 1) X.A) (hgd : X.A.guards = some []) (hb : Binds X.K fd ps [])
    (I : Inv X pins σ H s) (r : Vals vs us) (h : sp vs H Q E0) {E : Value → Shared → Prop} : wpAny (model X.prog X.w) X.A.in1 (call (.ref f) us) (EP X pins σ Q) E s := by
  have b := hb s us I.kIn (by rw [List.append_nil, ← r.length]; exact F.len _ _ _ _ h)
  rw [List.append_nil] at b
  refine wpAny_call (codeAny_mono (F.run X.A.in1 X.stack s H ⟨us, []⟩ us vs Q E0 hr.in1 hgd I.env0.in1 b r h) fun z s' hz => ?_)
  match z, hz with
  | .error e, hz => exact hz.elim
  | .ok (.ret u), hz => exact I.after hz
  | .ok .next, hz => exact hz.elim
  | .ok .brk, hz => exact hz.elim
  | .ok .cont, hz => exact hz.elim
theorem call_lenO (hm : Meth X.K C "__len__" f) (F : FnG X.prog X.w X.K X.mg X.base CX0 k f fd ps sp) (hr : Room (k + 1) X.A) (hgd : X.A.guards = some []) (hb : Binds X.K fd ps []) : CallR X (.builtin "len") (rLenO C sp) := by
  intro pins s σ H xs us Q I r h
  obtain ⟨a, dx, fs, rfl, e, h⟩ := h
  obtain ⟨u, rfl, rx⟩ := vals1 r
  obtain rfl : u = .ref a := rx
  obtain ⟨m, hfr⟩ := I.fr
  obtain ⟨mA, O, _, _, _, _⟩ := ins_get I.hok e
  obtain ⟨od, J, _⟩ := O.look
  refine PySem.W.len_K hfr I.ok.mod.kin J hm.at_ hm.fn (wpAny_mono (run_in1 F hr hgd hb I (us := [Value.ref a]) (vs := [V.ref a]) (.cons rfl .nil) h (E := X.xe)) (fun v s' hv => ?_) fun _ _ z => z)
  obtain ⟨y, H2, I2, ry, n, rfl, hn, q⟩ := hv
  obtain ⟨t, rfl⟩ := ry
  exact ⟨hn, .int n, H2, I2.tok _, ⟨_, rfl⟩, q⟩
def rReprO (C : Addr) (sp : Sp) : List V → Hp → VK → Prop := fun xs H Q => ∃ a dx fs, xs = [.ref a] ∧ H a = some (.ins C dx fs) ∧ sp [.ref a] H (fun v H2 => ∃ x : Str, v = .str x ∧ Q (.str x) H2) E0
theorem call_reprO (hm : Meth X.K C "__repr__" f) (F : FnG X.prog X.w X.K X.mg X.base CX0 k f fd ps sp) (hr : Room (k + 1) X.A) (hgd : X.A.guards = some []) (hb : Binds X.K fd ps []) : CallR X (.builtin "repr") (rReprO C sp) := by
  intro pins s σ H xs us Q I r h
  obtain ⟨a, dx, fs, rfl, e, h⟩ := h
  obtain ⟨u, rfl, rx⟩ := vals1 r
  obtain rfl : u = .ref a := rx
  obtain ⟨m, hfr⟩ := I.fr
  obtain ⟨mA, O, _, _, _, _⟩ := ins_get I.hok e
  obtain ⟨od, J, _⟩ := O.look
  refine PySem.W.repr_K (Nat.lt_of_le_of_lt (Nat.le_add_right _ 64) hr.in1.units) hfr I.ok.mod.kin J hm.at_ hm.fn (wpAny_mono (run_in1 F hr hgd hb I (us := [Value.ref a]) (vs := [V.ref a]) (.cons rfl .nil) h (E := X.xe)) (fun v s' hv => ?_) fun _ _ z => z)
  obtain ⟨y, H2, I2, ry, x, rfl, q⟩ := hv
  obtain ⟨t, rfl⟩ := ry
  exact ⟨.str x, H2, I2, ⟨_, rfl⟩, q⟩
end
section
variable {X : Cx} {δ : Dl} {μ : Cells} {e : Expr} {p pos : Pos} {Q : Vd → Cells → Prop} {P : Program} {w : World} {K : PySem.W.Frag} {mg : Str → Option Value} {base : Heap} {k : Nat} {C : Addr} {T : TrD}
theorem we_lenO (js : List Nat) (c : CalM P w K mg base k C "__len__" T) (B : Bl mg) (hr : Room (k + 1) X.A) (hg : Gl X "len")
    (h : WE X e δ μ fun x μ1 => ∃ a l r fs, x = .a a ∧ (a, Cont.o C fs) ∈ μ1 ∧ LentOk js μ1 l r ∧ T [.a a] l fun z μ' => ∃ n : Int, z = .d (.int n) ∧ (0 ≤ n ∧ n < 2 ^ 63) ∧ Q (.d (.int n)) (μ' ++ r))
    (hgd : X.A.guards = some [] := by assumption) (hX : (X.prog, X.w, X.K, X.mg, X.base) = (P, w, K, mg, base) := by rfl) (s1 : starEach [e] X.env = (false, eval e X.env) :: starEach [] X.env := by rfl) (s2 : (backTo pos (starEach [] X.env)).any (·.1) = false := by rfl) :
    WE X (.Call (.Name "len" p) [e] [] pos) δ μ Q := fun F H σ R QV kk => by
  obtain ⟨f, fd, ps, ok, hm, hb⟩ := c
  cases hX
  refine toE (pe_callB (call_lenO hm ok hr hgd hb) hg B.len PySem.boot_len (pcA X [e]) (by decide) (by decide) s1 s2) (wa_one (QA := fun xs μ1 => ∃ a l r fs, xs = [.a a] ∧ (a, Cont.o C fs) ∈ μ1 ∧ LentOk js μ1 l r ∧ T [.a a] l fun z μ' => ∃ n : Int, z = .d (.int n) ∧ (0 ≤ n ∧ n < 2 ^ 63) ∧ Q (.d (.int n)) (μ' ++ r)) (h.mono fun x μ1 ⟨a, l, r, fs, q1, q⟩ => ⟨a, l, r, fs, by rw [q1], q⟩) s1 F H σ R _ fun vs xs F1 H1 μ1 w1 R1 o1 q => ?_)
  obtain ⟨a, l, r, fs, rfl, hin, hj, q⟩ := q
  cases o1 with
  | cons o1 o2 =>
    cases o2
    obtain ⟨_, dx, us, e1, e2⟩ := R1.m.cel _ _ hin
    have o1 := o1
    have ov := (o1 : VOk X.K F1 (.a a) _)
    refine ⟨a, dx, us, by rw [show _ = V.ref a from ov], e1, ?_⟩
    have R1p := R1.perm hj.perm
    refine ⟨F1, [.a a], l, _, R1p.m.left, .cons rfl .nil, q, fun v z F2 H2 μ2 w2 m2 o2 q2 => ?_⟩
    obtain ⟨n, rfl, hn, q2⟩ := q2
    obtain ⟨m3, w3⟩ := R1p.m.frame w2 m2
    exact ⟨n, (by cases o2; rfl), hn, kk (.int n) (.d (.int n)) F2 H2 _ ((w1.perm (K := X.K) hj.perm).trans w3) (R1p.to w2.f m3) (.int n) q2⟩
theorem we_reprO (js : List Nat) (c : CalM P w K mg base k C "__repr__" T) (B : Bl mg) (hr : Room (k + 1) X.A) (hg : Gl X "repr")
    (h : WE X e δ μ fun x μ1 => ∃ a l r fs, x = .a a ∧ (a, Cont.o C fs) ∈ μ1 ∧ LentOk js μ1 l r ∧ T [.a a] l fun z μ' => ∃ n : Str, z = .d (.str n) ∧ Q (.d (.str n)) (μ' ++ r))
    (hgd : X.A.guards = some [] := by assumption) (hX : (X.prog, X.w, X.K, X.mg, X.base) = (P, w, K, mg, base) := by rfl) (s1 : starEach [e] X.env = (false, eval e X.env) :: starEach [] X.env := by rfl) (s2 : (backTo pos (starEach [] X.env)).any (·.1) = false := by rfl) :
    WE X (.Call (.Name "repr" p) [e] [] pos) δ μ Q := fun F H σ R QV kk => by
  obtain ⟨f, fd, ps, ok, hm, hb⟩ := c
  cases hX
  refine toE (pe_callB (call_reprO hm ok hr hgd hb) hg B.repr boot_repr (pcA X [e]) (by decide) (by decide) s1 s2) (wa_one (QA := fun xs μ1 => ∃ a l r fs, xs = [.a a] ∧ (a, Cont.o C fs) ∈ μ1 ∧ LentOk js μ1 l r ∧ T [.a a] l fun z μ' => ∃ n : Str, z = .d (.str n) ∧ Q (.d (.str n)) (μ' ++ r)) (h.mono fun x μ1 ⟨a, l, r, fs, q1, q⟩ => ⟨a, l, r, fs, by rw [q1], q⟩) s1 F H σ R _ fun vs xs F1 H1 μ1 w1 R1 o1 q => ?_)
  obtain ⟨a, l, r, fs, rfl, hin, hj, q⟩ := q
  cases o1 with
  | cons o1 o2 =>
    cases o2
    obtain ⟨_, dx, us, e1, e2⟩ := R1.m.cel _ _ hin
    have ov := (o1 : VOk X.K F1 (.a a) _)
    refine ⟨a, dx, us, by rw [show _ = V.ref a from ov], e1, ?_⟩
    have R1p := R1.perm hj.perm
    refine ⟨F1, [.a a], l, _, R1p.m.left, .cons rfl .nil, q, fun v z F2 H2 μ2 w2 m2 o2 q2 => ?_⟩
    obtain ⟨n, rfl, q2⟩ := q2
    obtain ⟨m3, w3⟩ := R1p.m.frame w2 m2
    exact ⟨n, (by cases o2; rfl), kk (.str n) (.d (.str n)) F2 H2 _ ((w1.perm (K := X.K) hj.perm).trans w3) (R1p.to w2.f m3) (.str n) q2⟩
end
end Ec
set_option Elab.async false
set_option linter.all false
set_option maxRecDepth 100000
set_option maxHeartbeats 4000000
namespace Ec
open PySem PySem.Spec PyProof.Rows L2
def WAx (X : Cx) (W : WX) (er : ErP) (es : List Expr) (δ : Dl) (μ : Cells) (Q : List Vd → Cells → Prop) : Prop := ∀ F H σ, Rp X.K F H σ δ μ → ErB X.K W F H μ er → ∀ QV : List V → Hp → Prop,
  (∀ vs xs F' H' μ', Fw (ks μ) (ks μ') F H F' H' → Rp X.K F' H' σ δ μ' → VAll X.K F' xs vs → Q xs μ' → QV vs H') → cA X es σ H QV
section
variable {X : Cx} {W : WX} {er : ErP} {δ : Dl} {μ : Cells} {e : Expr} {es : List Expr} {pos : Pos} {Q : Vd → Cells → Prop} {QA : List Vd → Cells → Prop}
theorem wax_of (h : WA X es δ μ QA) : WAx X W er es δ μ QA := fun F H σ R _ => h F H σ R
theorem WEx.mono {Q' : Vd → Cells → Prop} (h : WEx X W er e δ μ Q) (k : ∀ x μ', Q x μ' → Q' x μ') : WEx X W er e δ μ Q' := fun F H σ r eb QV c => h F H σ r eb QV fun v x F' H' μ' w r' o q => c v x F' H' μ' w r' o (k x μ' q)
theorem wax_cons (h : WEx X W er e δ μ fun x μ1 => WAx X W er es δ μ1 fun xs μ2 => QA (x :: xs) μ2) (hs : starEach (e :: es) X.env = (false, eval e X.env) :: starEach es X.env := by rfl) : WAx X W er (e :: es) δ μ QA := fun F H σ R eb QV c =>
  toA (pa_cons (pcE X e) (pcA X es) hs) (h F H σ R eb _ fun v x F1 H1 μ1 w1 R1 o1 q => q F1 H1 σ R1 (eb.next w1) _ fun vs xs F2 H2 μ2 w2 R2 o2 q2 => c (v :: vs) (x :: xs) F2 H2 μ2 (w1.trans w2) R2 (.cons (o1.up w2.f) o2) q2)
theorem wax_one (h : WEx X W er e δ μ fun x μ1 => QA [x] μ1) (hs : starEach [e] X.env = (false, eval e X.env) :: starEach [] X.env := by rfl) : WAx X W er [e] δ μ QA := wax_cons (h.mono fun x μ1 q => wax_of (wa_nil q)) hs
theorem wex_tup {k : Nat} (h : WAx X W er es δ μ fun xs μ1 => ∃ ds, dsOf xs = some ds ∧ ds.length ≤ 100000 ∧ Q (.d (.tuple ds)) μ1) : WEx X W er (.Tuple es k pos) δ μ Q := fun F H σ R eb QV c =>
  toE (pe_tupX (pcA X es)) (h F H σ R eb _ fun vs xs F1 H1 μ1 w1 R1 o1 q => by
    obtain ⟨ds, e, hl, q⟩ := q
    have hd := dps_of e o1
    refine ⟨by rw [dps_len hd]; exact Nat.le_trans hl (by decide), fun p o ho np => ?_⟩
    obtain ⟨m, w⟩ := R1.m.new (o := .frz o (.tup vs)) np
    exact c _ (.d (.tuple ds)) _ _ μ1 (w1.trans w) (R1.to w.f m) (.tup upd_same ho (dps_up w.f _ _ hd)) q)
theorem wex_append {o : Expr} {apos cpos : Pos} (h : WE X o δ μ fun x μ1 => ∃ (p : Addr) (ds : List PyData), (∃ i : Nat, μ1[i]? = some (p, (ds : Cont))) ∧ x = .a p ∧ WEx X W er e δ μ1 fun y μ2 => ∃ (yd : PyData) (ds : List PyData) (i : Nat), y = .d yd ∧ μ2[i]? = some (p, (ds : Cont)) ∧ ds.length < 100000 ∧ Q (.d .none) (μ2.set i (p, ds ++ [yd])))
    (hbase : attributeBase o "append" X.env (eval o X.env) = eval o X.env := by rfl)
    (hfew : ((backTo cpos (starEach [e] X.env)).all (fun x => !x.1) && (backToKw cpos (keywordEach [] X.env)).all (fun x => x.1.isSome)
      && decide ([e].length + ([] : List Keyword).length + (if ([] : List Keyword).isEmpty then 0 else 1) < 30)) = true := by rfl)
    (hline : (apos.endLine == cpos.line) = true := by rfl) (hs : starEach [e] X.env = (false, eval e X.env) :: starEach [] X.env := by rfl) (hplain : (backTo cpos (starEach [] X.env)).any (·.1) = false := by rfl) :
    WEx X W er (.Call (.Attribute o "append" apos) [e] [] cpos) δ μ Q := fun F H σ R eb QV c =>
  toE (pe_bm PySem.F.plainAttrs_list PySem.F.slot_list_append PySem.F.type_list_append mt_append (pcE X o) (pcA X [e]) hbase hfew hline hs hplain) (h F H σ R _ fun v x F1 H1 μ1 w1 R1 o1 q => by
    obtain ⟨p, ds, ⟨i, hi⟩, rfl, q⟩ := q
    obtain ⟨a, us, rfl, hl⟩ := lk_ok R1.m o1 (.c i hi)
    refine ⟨.inl ⟨rfl, us, hl⟩, wax_one (QA := fun xs μ2 => MtW X.K rAppend (.a p) xs μ2 Q) (q.mono fun y μ2 q => ?_) hs F1 H1 σ R1 (eb.next w1) _ fun vs xs F2 H2 μ2 w2 R2 o2 q2 => q2 F2 H2 _ vs R2.m (o1.up w2.f) o2 _ fun z w F3 H3 μ3 w3 m3 o3 q3 => c w z F3 H3 μ3 ((w1.trans w2).trans w3) (R2.to w3.f m3) o3 q3⟩
    obtain ⟨yd, ds', j, rfl, hj, hz, q⟩ := q
    exact mw_append j hj hz q)
end
theorem atI_fin {α : Type} (ds : List α) (d : α) : atI (ds ++ [d]) (-1) = some d := by
  unfold atI
  rw [show ixN (ds ++ [d]).length (-1) = some ds.length from by
    unfold ixN
    have e : (((ds ++ [d]).length : Nat) : Int) = ds.length + 1 := by simp
    rw [e, if_neg (by omega), if_pos (by omega)]
    exact congrArg some (by omega)]
  simp
structure FunV (K : PySem.W.Frag) (x qual : Str) (st : Stmt) (dV : Value) (f : Addr) (fd : FuncData) : Prop where
  ex : ∃ (oc : Value) (od : Option Addr) (kV doc pm : Value) (an : Option Addr) (cdv ct : Value) (osl : Array (Option Value)),
    fd = PySem.W.fnOf x qual (defArgs st) (defBody st) (defScope st) dV kV doc pm an cdv ct ∧ K.lookup f = some ⟨oc, od, .func fd, osl⟩ ∧ PySem.W.codeIn K cdv qual = true
  kp : PySem.W.keepIn K (.ref f) = true
theorem funV_mk {K : PySem.W.Frag} {x qual : Str} {st : Stmt} {f : Addr} {oc dV : Value} {od an : Option Addr} {osl : Array (Option Value)} {kV doc pm cdv ct : Value} (l : K.lookup f = some ⟨oc, od, .func (PySem.W.fnOf x qual (defArgs st) (defBody st) (defScope st) dV kV doc pm an cdv ct), osl⟩)
    (c : PySem.W.codeIn K cdv qual = true) (k : PySem.W.keepIn K (.ref f) = true) : FunV K x qual st dV f (PySem.W.fnOf x qual (defArgs st) (defBody st) (defScope st) dV kV doc pm an cdv ct) := ⟨⟨oc, od, kV, doc, pm, an, cdv, ct, osl, rfl, l, c⟩, k⟩
section
variable {P : Program} {w : World} {K : PySem.W.Frag} {mg : Str → Option Value} {base : Heap} {CX : CXT} {k : Nat} {f : Addr} {fd : FuncData} {ps : List Str} {sp : Sp} {dV : Value}
theorem FnG.bodyV {N : List Str} {x qual : Str} {st : Stmt} (F : FunV K x qual st dV f fd) (S : FnScope N ps (defScope st)) (len : ∀ vs H Q E, sp vs H Q E → vs.length = ps.length)
    (hbody : ∀ (cdv : Value) (A : Around) (outer : List Env) (s : Shared) (H : Hp) (vs : List V) (Q : VK) (E : XK), Room k (A.deeper (envOfC qual (defScope st) s.heap.objs.size f cdv)) → A.guards = some [] → sp vs H Q E →
      ∃ t, PSs (cxOf CX P w K mg base N qual (defScope st) f cdv A outer s H E) (defBody st) t ∧ t { nx := fun _ H' => Q .non H', rt := Q } (start N vs) H) : FnG P w K mg base CX (k + 1) f fd ps sp := by
  obtain ⟨oc, od, kV, doc, pm, an, cdv, ct, osl, rfl, lk, hcd⟩ := F.ex
  refine ⟨len, fun A outer s H args us vs Q E hr hg e0 hb r hsp => ?_⟩
  have up : ∀ {b : Addr} {o : Obj}, base.get? b = some o → s.heap.get? b = some o := fun e => (e0.bs _ _ e).1
  have loc : ∀ y ∈ ps.zip us, (defScope st).names.lookup y.1 = some .local ∨ ((defScope st).names.lookup y.1 = some .cell ∧ ((cellsFrom (s.heap.objs.size + 1) (defScope st).names []).lookup y.1).isSome = true) := fun y hy =>
    (S.par y.1 (List.of_mem_zip (a := y.1) (b := y.2) hy).1).imp_right fun q => ⟨q, PySem.W.cellsFrom_some _ _ _ (.inl q)⟩
  refine codeAny_call_function hr.depth (e0.mod.kin.keeps (fun _ _ => up) _ _ lk) rfl S.co S.gen rfl (PySem.W.codeRec_of (e0.mod.kin.keeps fun _ _ => up) hcd) (hb _ _ _ _ (wpAny_newFunctionEnv_cells S.kind loc fun env he s1 x => ?_))
  subst he
  obtain ⟨t, ht, hq⟩ := hbody cdv A outer s H vs Q E (hr.deeper _) hg hsp
  refine ⟨(e0.mod.nolimit.keeps fun _ _ => up).keeps x.toInCall.keep, codeAny_func ?_⟩
  refine wpAny_mono (ht.run [] s1 (start N vs) H _ (inv_start S hr.hd e0 (len _ _ _ _ hsp) r x) hq) (fun fl s' hs => ?_) fun e s' hs => hs
  match fl, hs with
  | .ret u, ⟨v, σ', H', J, rv, q⟩ => exact ⟨v, H', J.os, J.bare, J.base, J.hok, rv, q⟩
  | .next, ⟨σ', H', J, q⟩ => exact ⟨V.non, H', J.os, J.bare, J.base, J.hok, rfl, q⟩
  | .brk, ⟨_, _, _, q⟩ => exact q.elim
  | .cont, ⟨_, _, _, q⟩ => exact q.elim
end
theorem fn_wV {P : Program} {w : World} {K : PySem.W.Frag} {mg : Str → Option Value} {base : Heap} {x qual : Str} {st : Stmt} {dV : Value} {f : Addr} {fd : FuncData} {N ps : List Str} {k : Nat} {T : TrD} (F : FunV K x qual st dV f fd) (S : FnScope N ps (defScope st))
    (hN : ps.length ≤ N.length) (len : ∀ xs μ R, T xs μ R → xs.length = ps.length)
    (body : ∀ (cdv : Value) (A : Around) (outer : List Env) (s : Shared) (H : Hp) (E : XK), Room k (bX P w K mg base N qual (defScope st) f cdv A outer s H E).A → (bX P w K mg base N qual (defScope st) f cdv A outer s H E).A.guards = some [] → ∀ xs μ R, T xs μ R →
      WB (bX P w K mg base N qual (defScope st) f cdv A outer s H E) (defBody st) (startD N xs) μ { nx := fun _ μ' => Keep μ' (R (.d .none)), rt := fun z μ' => Keep μ' (R z) }) : FnG P w K mg base CX0 (k + 1) f fd ps (spW K T) := by
  refine FnG.bodyV F S (fun vs H Q E h => ?_) (fun cdv A outer s H vs Q E hr hgd h => ?_)
  · obtain ⟨G, xs, μ, R, _, ha, hT, _⟩ := h
    rw [← Paired.length ha]
    exact len _ _ _ hT
  · obtain ⟨G, xs, μ, R, m, ha, hT, c⟩ := h
    have el : xs.length = vs.length := Paired.length ha
    refine ⟨_, (pcB (bX P w K mg base N qual (defScope st) f cdv A outer s H E) _).nox, body cdv A outer s H E hr hgd xs μ R hT G H (start N vs) ⟨m, ?_, fun i y hy => ?_⟩ _ ⟨fun F' H' σ' δ' μ' w' R' q => by
      obtain ⟨k', w2, m2, q⟩ := RpM.kept w' R'.m q
      exact c _ (.d .none) F' H' k' w2 m2 .non q, fun v z F' H' μ' w' m' o' q => by
      obtain ⟨k', w2, m2, q⟩ := RpM.kept w' m' q
      exact c v z F' H' k' w2 m2 o' q, fun _ _ _ _ _ _ _ q => q.elim, fun _ _ _ _ _ _ _ q => q.elim⟩⟩
    · show (L2.start N vs).length = (startD N xs).length
      simp [L2.start, startD, el]
    · exact start_get ha el hy
theorem FunV.binds {K : PySem.W.Frag} {x qual : Str} {st : Stmt} {T : Addr} {f : Addr} {fd : FuncData} {ps : List Str} {o : Obj} {its : Array Value} {n : Nat} (F : FunV K x qual st (.ref T) f fd) (lT : K.lookup T = some o) (oT : o.data = .seq its n)
    (h : ∀ (kV doc pm : Value) (an : Option Addr) (cdv ct : Value) (us : List Value), us.length = ps.length → ∃ k, bindArgs (PySem.W.fnOf x qual (defArgs st) (defBody st) (defScope st) (.ref T) kV doc pm an cdv ct) ⟨us, []⟩ = seqItems? (.ref T) >>= k ∧ k (some its) = pure (ps.zip us)) : Binds K fd ps [] := by
  obtain ⟨oc, od, kV, doc, pm, an, cdv, ct, osl, rfl, lk, hcd⟩ := F.ex
  refine fun s us X hlen => ?_
  rw [List.append_nil] at hlen ⊢
  obtain ⟨k, e1, e2⟩ := h kV doc pm an cdv ct us hlen
  refine BindsTo.of_looks fun M => ?_
  rw [e1]
  exact looks_items X lT oT (.of_pure e2)
end Ec
set_option Elab.async false
set_option linter.all false
set_option maxRecDepth 100000
set_option maxHeartbeats 4000000
namespace Ec
open PySem PySem.Spec PyProof.Rows L2
def thr (c : Co) : Nat → List Int
  | 0 => []
  | i + 1 => thr c i ++ stp c (thr c i) []
theorem rnds_nth {c : Co} {b : List Int} : ∀ (n : Nat) (t : List Int) (i : Nat), und c t < n → (rnds n c t b).getD i [] = stp c (t ++ ((rnds n c t b).take i).flatten) b
  | 0, _, _, h => absurd h (Nat.not_lt_zero _)
  | n + 1, t, i, h => by
    unfold rnds
    split
    · rename_i e
      simp [e]
    · rename_i e
      cases i with
      | zero => simp
      | succ i =>
        have hl := stp_lt e
        have ih := rnds_nth (c := c) (b := b) n (t ++ stp c t b) i (by omega)
        rw [List.getD_cons_succ, ih, List.take_succ_cons, List.flatten_cons, List.append_assoc]
theorem ar_at (c : Co) (i : Nat) : ((AR c [] []).take i).flatten = thr c i ∧ (AR c [] []).getD i [] = stp c (thr c i) [] := by
  have h : ∀ i, (AR c [] []).getD i [] = stp c (((AR c [] []).take i).flatten) [] := fun i => by
    have := rnds_nth (b := []) (c.length + 1) (c := c) [] i (by have := und_le c []; omega)
    rw [List.nil_append] at this
    exact this
  have h2 : ∀ i, ((AR c [] []).take i).flatten = thr c i := by
    intro i
    induction i with
    | zero => rfl
    | succ i ih =>
      show _ = thr c i ++ stp c (thr c i) []
      rw [← ih, ← h i]
      by_cases hi : i < (AR c [] []).length
      · rw [List.take_add_one, List.flatten_append, List.getElem?_eq_getElem hi, List.getD_eq_getElem?_getD, List.getElem?_eq_getElem hi]
        simp
      · rw [List.take_of_length_le (by omega), List.take_of_length_le (by omega), List.getD_eq_getElem?_getD, List.getElem?_eq_none (by omega)]
        simp
  exact ⟨h2 i, by rw [h i, h2 i]⟩
def rvT (R : List (List Int)) : Nat → Int → Option Int
  | 0, _ => none
  | i + 1, p => if p ∈ R.getD i [] then some (i : Int) else rvT R i p
def rv (c : Co) (p : Int) : Option Int := rvT (AR c [] []) (AR c [] []).length p
theorem thr_up {c : Co} {p : Int} {i j : Nat} (h : i ≤ j) (hp : p ∈ thr c i) : p ∈ thr c j := by
  induction h with
  | refl => exact hp
  | step _ ih => exact List.mem_append_left _ ih
theorem rvT_iff {c : Co} {p : Int} : ∀ (i : Nat) (j : Nat), rvT (AR c [] []) i p = some (j : Int) ↔ j < i ∧ p ∈ thr c (j + 1) ∧ p ∉ thr c j
  | 0, j => by
    unfold rvT
    exact ⟨fun h => (by cases h), fun h => absurd h.1 (by omega)⟩
  | i + 1, j => by
    unfold rvT
    rw [(ar_at c i).2]
    split
    · rename_i h
      have hn := (mem_stp.mp h).2.1
      constructor
      · intro e
        have e : (i : Int) = j := Option.some.inj e
        have e : i = j := by omega
        subst e
        exact ⟨by omega, List.mem_append_right _ h, hn⟩
      · rintro ⟨h1, h2, h3⟩
        have : ¬ j < i := fun z => hn (thr_up (by omega) h2)
        have e : i = j := by omega
        rw [e]
    · rename_i h
      rw [rvT_iff i j]
      constructor
      · rintro ⟨h1, h2⟩
        exact ⟨by omega, h2⟩
      · rintro ⟨h1, h2, h3⟩
        refine ⟨?_, h2, h3⟩
        by_cases e : j = i
        · subst e
          exact absurd ((List.mem_append.mp h2).resolve_left h3) h
        · omega
theorem rv_iff {c : Co} {p : Int} (j : Nat) : rv c p = some (j : Int) ↔ p ∈ thr c (j + 1) ∧ p ∉ thr c j := by
  unfold rv
  rw [rvT_iff]
  refine ⟨fun h => h.2, fun h => ⟨?_, h⟩⟩
  apply Classical.byContradiction
  intro hn
  have hs : p ∈ stp c (thr c j) [] := (List.mem_append.mp h.1).resolve_left h.2
  rw [← (ar_at c j).2, List.getD_eq_getElem?_getD, List.getElem?_eq_none (by omega)] at hs
  cases hs
theorem rvT_nat (R : List (List Int)) (p : Int) : ∀ (i : Nat) {v : Int}, rvT R i p = some v → ∃ j : Nat, v = j
  | 0, v, h => by cases h
  | i + 1, v, h => by
    unfold rvT at h
    split at h
    · exact ⟨i, (Option.some.inj h).symm⟩
    · exact rvT_nat R p i h
theorem rv_nat {c : Co} {p v : Int} (h : rv c p = some v) : ∃ j : Nat, v = j := rvT_nat _ _ _ h
theorem Wid.thr {c c' : Co} (h : Wid c c') (w : CoW c) (w' : CoW c') : ∀ (i : Nat), ∀ x ∈ Ec.thr c i, x ∈ Ec.thr c' i
  | 0, x, m => m
  | i + 1, x, m => by
    rcases List.mem_append.mp m with m | m
    · exact List.mem_append_left _ (h.thr w w' i x m)
    · obtain ⟨⟨h0, h1⟩, h2, h3, h4⟩ := mem_stp.mp m
      by_cases q : x ∈ Ec.thr c' i
      · exact List.mem_append_left _ q
      · exact List.mem_append_right _ (mem_stp.mpr ⟨⟨h0, by rw [h.len]; exact h1⟩, q, h.comes w w' (h.thr w w' i) h0 h1 h3, h4⟩)
theorem thr_first {c : Co} {p : Int} : ∀ {k : Nat}, p ∈ thr c k → ∃ j, j < k ∧ p ∈ thr c (j + 1) ∧ p ∉ thr c j
  | 0, h => by cases h
  | k + 1, h => by
    by_cases q : p ∈ thr c k
    · obtain ⟨j, h1, h2⟩ := thr_first q
      exact ⟨j, by omega, h2⟩
    · exact ⟨k, by omega, h, q⟩
theorem Wid.rv {c c' : Co} (h : Wid c c') (w : CoW c) (w' : CoW c') {p v : Int} (hv : Ec.rv c p = some v) : ∃ u, Ec.rv c' p = some u ∧ u ≤ v := by
  obtain ⟨i, rfl⟩ := rv_nat hv
  obtain ⟨h1, _⟩ := (rv_iff i).mp hv
  obtain ⟨j, hj, h2, h3⟩ := thr_first (h.thr w w' _ _ h1)
  exact ⟨j, (rv_iff j).mpr ⟨h2, h3⟩, by omega⟩
theorem map_set {f : Nat → PyData} {n k : Nat} {v : PyData} (hk : k < n) : ((List.range n).map f).set k v = (List.range n).map fun i => if i = k then v else f i := by
  apply List.ext_getElem?
  intro i
  rw [List.getElem?_set]
  simp only [List.length_map, List.length_range, List.getElem?_map]
  by_cases e : k = i
  · subst e
    rw [if_pos rfl, if_pos hk, List.getElem?_range hk]
    simp
  · rw [if_neg e]
    by_cases hi : i < n
    · rw [List.getElem?_range hi]
      simp [Ne.symm e]
    · rw [List.getElem?_eq_none (by simp; omega)]
      rfl
def adp (c : Co) (e : List Int × Int) : Co := c ++ [e]
section
variable {c : Co} {e : List Int × Int}
theorem adp_len (c : Co) (e : List Int × Int) : (adp c e).length = c.length + 1 := by simp [adp]
theorem adp_get {p : Int} (h0 : 0 ≤ p) (h1 : p < c.length) : (adp c e).getD p.toNat ([], 0) = c.getD p.toNat ([], 0) := by
  unfold adp
  rw [List.getD_eq_getElem?_getD, List.getD_eq_getElem?_getD, List.getElem?_append_left (by omega)]
theorem adp_fr {p : Int} (h0 : 0 ≤ p) (h1 : p < c.length) : fr (adp c e) p = fr c p := by
  unfold fr
  rw [adp_get h0 h1]
theorem adp_nd {p : Int} (h0 : 0 ≤ p) (h1 : p < c.length) : nd (adp c e) p = nd c p := by
  unfold nd
  rw [adp_get h0 h1]
theorem fr_mem {c : Co} (w : CoW c) {p x : Int} (h0 : 0 ≤ p) (h1 : p < c.length) (hx : x ∈ fr c p) : 0 ≤ x ∧ x < c.length := by
  have hl : p.toNat < c.length := by omega
  unfold fr at hx
  rw [List.getD_eq_getElem?_getD, List.getElem?_eq_getElem hl] at hx
  exact w.lt _ (List.getElem_mem hl) x hx
theorem adp_comes (w : CoW c) {s t : List Int} (h : ∀ x : Int, 0 ≤ x → x < c.length → (x ∈ s ↔ x ∈ t)) {p : Int} (h0 : 0 ≤ p) (h1 : p < c.length) : comes (adp c e) s p = comes c t p := by
  unfold comes cnt
  rw [adp_fr h0 h1, adp_nd h0 h1]
  rw [show (fr c p).filter (fun x => decide (x ∈ s)) = (fr c p).filter fun x => decide (x ∈ t) from List.filter_congr fun x m => by
    obtain ⟨g0, g1⟩ := fr_mem w h0 h1 m
    rw [decide_eq_decide]
    exact h x g0 g1]
theorem adp_pord (w : CoW c) {r : List Int} (h : POrd c r) : POrd (adp c e) r := by
  refine ⟨h.nd, fun x m => ⟨(h.rg x m).1, by rw [adp_len]; have := (h.rg x m).2; omega⟩, fun i x hx => ?_⟩
  have hr := h.rg x (List.mem_of_getElem? hx)
  rw [adp_comes w (fun x _ _ => Iff.rfl) hr.1 hr.2]
  exact h.ok i x hx
theorem adp_cow (w : CoW c) (h1 : e.1.Pairwise (· < ·)) (he : ∀ x ∈ e.1, 0 ≤ x ∧ x < c.length) (h2 : 0 ≤ e.2) (h3 : e.2 ≤ 1000) : CoW (adp c e) where
  up := fun f hf => by
    rcases List.mem_append.mp hf with m | m
    · exact w.up f m
    · obtain rfl := List.mem_singleton.mp m
      exact h1
  nn := fun f hf => by
    rcases List.mem_append.mp hf with m | m
    · exact w.nn f m
    · obtain rfl := List.mem_singleton.mp m
      exact h2
  nb := fun f hf => by
    rcases List.mem_append.mp hf with m | m
    · exact w.nb f m
    · obtain rfl := List.mem_singleton.mp m
      exact h3
  lt := fun f hf x hx => by
    rw [adp_len]
    rcases List.mem_append.mp hf with m | m
    · have := w.lt f m x hx
      omega
    · obtain rfl := List.mem_singleton.mp m
      have := he x hx
      omega
  no := fun i f hf hi => by
    by_cases q : i < c.length
    · rw [adp, List.getElem?_append_left q] at hf
      exact w.no i f hf hi
    · rw [adp, List.getElem?_append_right (by omega)] at hf
      have hz : i - c.length = 0 := by
        have := (List.getElem?_eq_some_iff.mp hf).1
        simp at this
        omega
      rw [hz] at hf
      simp at hf
      subst hf
      have := (he _ hi).2
      omega
end
def stD (s : Co × List Int) : PyData := .tuple [coD s.1, .tuple (intsD s.2)]
def lgD (x : Str × Str) : PyData := .tuple [.str x.1, .str x.2]
def hallF (a l : Addr) : List (Str × PyData) := [("own_states", ptr a), ("own_log", ptr l)]
def Hall (C p a l : Addr) (S : List (Co × List Int)) (L : List (Str × Str)) : Cells := [(p, Cont.o C (hallF a l)), (a, Cont.l (S.map stD)), (l, Cont.l (L.map lgD))]
def lat (c : Co) (r : List Int) (q : Int) : Nat := if ¬ (0 ≤ q ∧ q < c.length) then 1 else if q ∈ r then 2 else if comes c r q = true then 0 else 3
abbrev T_init (C : Addr) : TrD := fun xs μ R => ∃ p dc c, xs = [.a p, .d dc] ∧ μ = ([(p, Cont.o C [])] : Cells) ∧ CoD dc c ∧ ∀ a l, R (.d .none) (Hall C p a l [(c, [])] [])
abbrev T_comp (C : Addr) : TrD := fun xs μ R => ∃ p a l S c r L, xs = [.a p] ∧ μ = Hall C p a l (S ++ [(c, r)]) L ∧ R (.d (coD c)) μ
abbrev T_came (C : Addr) : TrD := fun xs μ R => ∃ p a l S c r L, xs = [.a p] ∧ μ = Hall C p a l (S ++ [(c, r)]) L ∧ R (.d (.tuple (intsD r))) μ
abbrev T_mnext (C : Addr) : TrD := fun xs μ R => ∃ p a l S c r L, xs = [.a p] ∧ μ = Hall C p a l (S ++ [(c, r)]) L ∧ CoD (coD c) c ∧ ∀ q, R (.a q) ((q, (intsD (nexts c r) : Cont)) :: μ)
abbrev T_hlen (C : Addr) : TrD := fun xs μ R => ∃ p a l S c r L, xs = [.a p] ∧ μ = Hall C p a l (S ++ [(c, r)]) L ∧ R (.d (.int (r.length : Nat))) μ
abbrev T_clater (CN CH CE : Addr) : TrX := fun xs μ R RE => ∃ c r q, xs = [.d (coD c), .d (.tuple (intsD r)), .d (.int q)] ∧ CoD (coD c) c ∧ c.length < 64 ∧ r.length ≤ 1000 ∧ q.natAbs.log2 < 1920 ∧
  (lat c r q = 0 → R (.d (.tuple (intsD (r ++ [q])))) μ) ∧ (lat c r q = 1 → RE ⟨CN, "person", .int q⟩ μ) ∧ (lat c r q = 2 → RE ⟨CH, "person", .int q⟩ μ) ∧ (lat c r q = 3 → RE ⟨CE, "person", .int q⟩ μ)
def lgs (m : Str) : List (Str × Str) := [("in", m), ("out", m)]
abbrev T_come (C CN CH CE : Addr) : TrX := fun xs μ R RE => ∃ p a l S c r L q, xs = [.a p, .d (.int q)] ∧ μ = Hall C p a l (S ++ [(c, r)]) L ∧ CoD (coD c) c ∧ c.length < 64 ∧ r.length ≤ 1000 ∧ q.natAbs.log2 < 1920 ∧ S.length ≤ 1000 ∧ L.length ≤ 1000 ∧
  (lat c r q = 0 → R (.d (.int (r.length + 1 : Nat))) (Hall C p a l ((S ++ [(c, r)]) ++ [(c, r ++ [q])]) (L ++ lgs "come"))) ∧ (lat c r q = 1 → RE ⟨CN, "person", .int q⟩ (Hall C p a l (S ++ [(c, r)]) (L ++ lgs "come"))) ∧
  (lat c r q = 2 → RE ⟨CH, "person", .int q⟩ (Hall C p a l (S ++ [(c, r)]) (L ++ lgs "come"))) ∧ (lat c r q = 3 → RE ⟨CE, "person", .int q⟩ (Hall C p a l (S ++ [(c, r)]) (L ++ lgs "come")))
end Ec
set_option Elab.async false
set_option linter.all false
set_option maxRecDepth 100000
set_option maxHeartbeats 4000000
namespace Ec
open PySem PySem.Spec PyProof.Rows L2
theorem hall_st {a l : Addr} : (hallF a l).lookup ("own_states" : Str) = some (ptr a) := by
  unfold hallF
  rw [List.lookup_cons, show (("own_states" : Str) == "own_states") = true from by decide +kernel]
theorem hall_lg {a l : Addr} : (hallF a l).lookup ("own_log" : Str) = some (ptr l) := by
  unfold hallF
  rw [List.lookup_cons, show (("own_log" : Str) == "own_states") = false from by decide +kernel]
  rw [List.lookup_cons, show (("own_log" : Str) == "own_log") = true from by decide +kernel]
theorem hall_no {a l : Addr} {m : Str} (h1 : (m == ("own_states" : Str)) = false) (h2 : (m == ("own_log" : Str)) = false) : (hallF a l).lookup m = none := by
  unfold hallF
  rw [List.lookup_cons, h1, List.lookup_cons, h2]
  rfl
theorem hall_put {a l : Addr} : putA "own_log" (ptr l) (putA "own_states" (ptr a) []) = hallF a l := by
  show (if ("own_states" : Str) = "own_log" then _ else _ :: putA _ _ []) = _
  rw [if_neg (by decide +kernel)]
  rfl
theorem st_last (S : List (Co × List Int)) (x : Co × List Int) : atI ((S ++ [x]).map stD) (-1) = some (stD x) := by
  rw [List.map_append]
  exact atI_fin _ _
theorem hall_grow {C p a l : Addr} {S : List (Co × List Int)} {L : List (Str × Str)} {x y : Str} : ([(p, Cont.o C (hallF a l)), (a, Cont.l (S.map stD)), (l, Cont.l (L.map lgD ++ [.tuple [.str x, .str y]]))] : Cells) = Hall C p a l S (L ++ [(x, y)]) := by
  unfold Hall
  rw [List.map_append]
  rfl
theorem hall_state {C p a l : Addr} {S : List (Co × List Int)} {L : List (Str × Str)} {c : Co} {r : List Int} : ([(p, Cont.o C (hallF a l)), (a, Cont.l (S.map stD ++ [.tuple [coD c, .tuple (intsD r)]])), (l, Cont.l (L.map lgD))] : Cells) = Hall C p a l (S ++ [(c, r)]) L := by
  unfold Hall
  rw [List.map_append]
  rfl
theorem lgs_two {L : List (Str × Str)} {m : Str} : (L ++ [(("in" : Str), m)]) ++ [(("out" : Str), m)] = L ++ lgs m := by
  rw [List.append_assoc]
  rfl
section
variable {X : Cx} {W : WX} {er : ErP} {δ : Dl} {μ μ' : Cells} {e : Expr} {sts : List Stmt} {D : Dn} {Q : Vd → Cells → Prop}
theorem wb_mu (h : μ = μ') (g : WB X sts δ μ' D) : WB X sts δ μ D := h ▸ g
theorem wbx_mu (h : μ = μ') (g : WBx X W er sts δ μ' D) : WBx X W er sts δ μ D := h ▸ g
end
theorem keep_mu {R : Cells → Prop} {μ μ' : Cells} (h : μ = μ') (k : R μ') : R μ := h ▸ k
theorem hall_lent {C p a l : Addr} {S : List (Co × List Int)} {L : List (Str × Str)} (μ : Cells) : LentOk [0, 0, 0] (Hall C p a l S L ++ μ) (Hall C p a l S L) μ := ⟨_, _, rfl, rfl, _, _, rfl, rfl, _, _, rfl, rfl, rfl, rfl⟩
theorem lat0 {c : Co} {r : List Int} {q : Int} (h0 : 0 ≤ q) (h1 : q < c.length) (h2 : q ∉ r) (h3 : comes c r q = true) : lat c r q = 0 := by
  unfold lat
  rw [if_neg (by omega), if_neg h2, if_pos h3]
end Ec
set_option Elab.async false
set_option linter.all false
set_option maxRecDepth 100000
set_option maxHeartbeats 4000000
namespace Ec
open PySem PySem.Spec PyProof.Rows L2
end Ec
set_option Elab.async false
set_option linter.all false
set_option maxRecDepth 100000
set_option maxHeartbeats 4000000
namespace Ec
open PySem PySem.Spec PyProof.Rows L2
end Ec
set_option Elab.async false
set_option linter.all false
set_option maxRecDepth 100000
set_option maxHeartbeats 4000000
namespace Ec
open PySem PySem.Spec PyProof.Rows L2
theorem log_small {q : Int} (h0 : 0 ≤ q) (h1 : q < 100) : q.natAbs.log2 < 1920 := by
  have := Nat.log2_le_self q.natAbs
  omega
theorem nexts_mem9 {c : Co} {r : List Int} {q : Int} (h : q ∈ nexts c r) : (0 ≤ q ∧ q < c.length) ∧ q ∉ r ∧ comes c r q = true := by
  obtain ⟨h1, h2⟩ := List.mem_filter.mp h
  obtain ⟨h3, h4⟩ := List.mem_filter.mp h1
  exact ⟨mem_rng.mp h3, by simpa using h4, h2⟩
end Ec
set_option Elab.async false
set_option linter.all false
set_option maxRecDepth 100000
set_option maxHeartbeats 4000000
namespace Ec
open PySem PySem.Spec PyProof.Rows L2
section
variable {X : Cx} {δ : Dl} {μ : Cells} {o e a b : Expr} {apos cpos pos p p2 : Pos} {Q : Vd → Cells → Prop}
theorem we_pop0 (h : WE X o δ μ fun x μ1 => ∃ (p : Addr) (ds : List PyData) (d : PyData) (i : Nat), x = .a p ∧ μ1[i]? = some (p, Cont.l (ds ++ [d])) ∧ isP d = false ∧ Q (.d d) (μ1.set i (p, Cont.l ds)))
    (hbase : attributeBase o "pop" X.env (eval o X.env) = eval o X.env := by rfl) (hline : (apos.endLine == cpos.line) = true := by rfl) : WE X (.Call (.Attribute o "pop" apos) [] [] cpos) δ μ Q := fun F H σ R QV c =>
  toE (pe_bm0 PySem.F.plainAttrs_list PySem.F.slot_list_pop PySem.F.type_list_pop mt_pop (pcE X o) hbase hline) (h F H σ R _ fun v x F1 H1 μ1 w1 R1 o1 q => by
    obtain ⟨p, ds, d, i, rfl, hi, hp, q⟩ := q
    obtain ⟨_, us, e1, hd⟩ := R1.m.cel _ _ (List.mem_of_getElem? hi)
    have ov : v = .ref p := o1
    subst ov
    have hl := dqs_len hd
    rw [List.length_append, List.length_singleton] at hl
    obtain ⟨w, hw, ow⟩ := dqs_get hd (i := ds.length) (d := d) (by simp)
    have he : DqAll X.K F1 us.dropLast ds := by
      have : ∀ {vs : List V} {es : List PyData}, DqAll X.K F1 vs es → DqAll X.K F1 vs.dropLast es.dropLast := fun {vs es} hh => by
        induction hh with
        | nil => exact .nil
        | cons a t ih =>
          cases t with
          | nil => exact .nil
          | cons a2 t2 => exact .cons a ih
      have := this hd
      rw [List.dropLast_concat] at this
      exact this
    obtain ⟨m2, w2⟩ := R1.m.setCQ (es := ds) hi he
    exact ⟨.inl ⟨rfl, us, .of e1⟩, p, us, w, rfl, rfl, e1, by rw [hl]; exact hw, c _ (.d d) _ _ _ (w1.trans w2) (R1.to w2.f m2) ((ow.up w2.f).to hp) q⟩)
end
def rEqO (C : Addr) (sp : Sp) : R2 := fun x y H Q => ∃ a b dx fs dy gs, x = .ref a ∧ y = .ref b ∧ H a = some (.ins C dx fs) ∧ H b = some (.ins C dy gs) ∧ sp [.ref a, .ref b] H (fun v H2 => ∃ k : Bool, v = .bl k ∧ Q (.bl k) H2) E0
section
variable {X : Cx} {P : Program} {w : World} {K : PySem.W.Frag} {mg : Str → Option Value} {base : Heap} {k : Nat} {C : Addr} {T : TrD}
theorem op_eqO (c : CalM P w K mg base k C "__eq__" T) (hr : Room k X.A) (hgd : X.A.guards = some []) (hX : (X.prog, X.w, X.K, X.mg, X.base) = (P, w, K, mg, base)) : OpR X (compareOp .Eq) (rEqO C (spW K T)) := by
  obtain ⟨f, fd, ps, ok, hm, hb⟩ := c
  cases hX
  intro pins s σ H x y v u Q I rx ry h
  obtain ⟨a, b, dx, fs, dy, gs, rfl, rfl, ea, eb, h⟩ := h
  obtain rfl : v = Value.ref a := rx
  obtain rfl : u = Value.ref b := ry
  obtain ⟨m, hfr⟩ := I.fr
  obtain ⟨mA, O, _, _, _, _⟩ := ins_get I.hok ea
  obtain ⟨od, J, _⟩ := O.look
  obtain ⟨mB, O2, _, _, _, _⟩ := ins_get I.hok eb
  obtain ⟨od2, J2, _⟩ := O2.look
  have hb2 := hb s [.ref a, .ref b] I.kIn (by rw [List.append_nil]; exact ok.len _ _ _ _ h)
  rw [List.append_nil] at hb2
  show wpAny _ _ (richCompare .Eq (.ref a) (.ref b)) _ _ _
  refine PySem.W.cmp_K (Nat.lt_of_le_of_lt (Nat.le_add_right _ 64) hr.units) hfr I.ok.mod.kin J J2.type (by unfold PySem.W.notFirst; simp) hm.at_ hm.fn (wpAny_mono (run_g (us := [.ref a, .ref b]) (vs := [.ref a, .ref b]) ok hr hgd hb2 (fun pins H s e s' I h => pass0 pins σ H s e s' I h) I (.cons rfl (.cons rfl .nil)) h) (fun v s' hv => ?_) fun _ _ z => z)
  obtain ⟨y, H2, I2, ry, n, rfl, q⟩ := hv
  obtain rfl : v = Value.bool n := ry
  exact ⟨.bl n, H2, I2, rfl, q⟩
theorem ow_eqO {μ : Cells} {x y : Vd} {Q : Vd → Cells → Prop} (js : List Nat) (h : ∃ a b l r fs gs, x = .a a ∧ y = .a b ∧ (a, Cont.o C fs) ∈ μ ∧ (b, Cont.o C gs) ∈ μ ∧ LentOk js μ l r ∧ T [.a a, .a b] l fun z μ' => ∃ n : Bool, z = .d (.bool n) ∧ Q (.d (.bool n)) (μ' ++ r)) : OpW K (rEqO C (spW K T)) x y μ Q := fun F H v u m o1 o2 QV kk => by
  obtain ⟨a, b, l, r, fs, gs, rfl, rfl, h1, h2, hj, q⟩ := h
  obtain ⟨_, dx, us, e1, _⟩ := m.cel _ _ h1
  obtain ⟨_, dy, ws, e2, _⟩ := m.cel _ _ h2
  obtain rfl : v = V.ref a := o1
  obtain rfl : u = V.ref b := o2
  have mp := m.perm hj.perm
  refine ⟨a, b, dx, us, dy, ws, rfl, rfl, e1, e2, F, [.a a, .a b], l, _, mp.left, .cons rfl (.cons rfl .nil), q, fun v z F2 H2 μ2 w2 m2 o3 q2 => ?_⟩
  obtain ⟨n, rfl, q2⟩ := q2
  obtain ⟨m3, w3⟩ := mp.frame w2 m2
  exact ⟨n, by cases o3; rfl, kk (.d (.bool n)) (.bl n) F2 H2 _ (w3.sub (fun x m => (hj.perm.map Prod.fst).mem_iff.mpr m) fun x m => .inl m) m3 (.bl n) q2⟩
end
structure OIs (K : PySem.W.Frag) (C : Addr) : Prop where
  cl : L2.Cls K C
  ca : PySem.W.findIn K (.ref C) "__class__" = some (some (.builtin "object.__class__"))
  sp : PySem.W.specialIn K (.builtin "object.__class__") "__get__" = some (some (.builtin "getset_descriptor.__get__"))
  tk : PySem.W.takesIn K (.builtin "object.__class__") = some true
  mo : PySem.W.mroIn K C (.type "object") = some true
theorem we_isO {X : Cx} {δ : Dl} {μ : Cells} {Q : Vd → Cells → Prop} {K : PySem.W.Frag} {mg : Str → Option Value} {e c : Expr} {p pos : Pos} {C : Addr} (B : Bl mg) (hg : Gl X "isinstance") (oi : OIs K C) (hcl : ClsN X c (.ref C) (.ref C))
    (h : WE X e δ μ fun x μ1 => ∃ (a : Addr) (fs : List (Str × PyData)), x = .a a ∧ (a, Cont.o C fs) ∈ μ1 ∧ Q (.d (.bool true)) μ1) (hK : (X.K, X.mg) = (K, mg) := by rfl)
    (s1 : starEach [e, c] X.env = (false, eval e X.env) :: starEach [c] X.env := by rfl) (s3 : starEach [c] X.env = (false, eval c X.env) :: starEach [] X.env := by rfl) (s2 : (backTo pos (starEach [c] X.env)).any (·.1) = false := by rfl) :
    WE X (.Call (.Name "isinstance" p) [e, c] [] pos) δ μ Q := fun F H σ R QV kk => by
  cases hK
  refine toE (pe_callB call_isi hg B.isi PyProof.Rows.boot_isinstance (pa_cons (pcE X e) (pa_cons hcl.pe pa_nil s3) s1) (by decide) (by decide) s1 s2) (h F H σ R _ fun v x F1 H1 μ1 w1 R1 o1 q => ?_)
  obtain ⟨a, fs, rfl, hin, q⟩ := q
  obtain ⟨_, dx, us, e1, _⟩ := R1.m.cel _ _ hin
  obtain rfl : v = V.ref a := o1
  refine ⟨V.ref a, V.ref C, .ref C, .ref C, true, rfl, .own C, .base (.ins e1 oi.cl oi.ca oi.sp oi.tk oi.mo), ?_, kk (.bl true) (.d (.bool true)) F1 H1 μ1 w1 R1 (.bl true) q⟩
  unfold PySem.W.kitOne
  rw [if_pos (beq_self_eq_true _)]
end Ec
set_option Elab.async false
set_option linter.all false
set_option maxRecDepth 100000
set_option maxHeartbeats 4000000
namespace Ec
open PySem PySem.Spec PyProof.Rows L2
@[simp] theorem lgs_len (m : Str) : (lgs m).length = 2 := rfl
abbrev T_meet (C : Addr) : TrD := fun xs μ R => ∃ p a l S c r L, xs = [.a p] ∧ μ = Hall C p a l (S ++ [(c, r)]) L ∧ CoD (coD c) c ∧ c.length < 64 ∧ r.length ≤ 1000 ∧ S.length ≤ 1000 ∧ L.length ≤ 1000 ∧
  ∀ q, R (.a q) ((q, (intsD (nexts c r) : Cont)) :: Hall C p a l ((S ++ [(c, r)]) ++ [(c, r ++ nexts c r)]) (L ++ lgs "meet"))
def wtg (c : Co) (r : List Int) : List Int := (rng c.length).filter fun x => !decide (x ∈ r)
abbrev T_waiting (C : Addr) : TrD := fun xs μ R => ∃ p a l S c r L, xs = [.a p] ∧ μ = Hall C p a l (S ++ [(c, r)]) L ∧ CoD (coD c) c ∧ c.length < 64 ∧ r.length ≤ 1000 ∧ ∀ q, R (.a q) ((q, (intsD (wtg c r) : Cont)) :: μ)
def wnv (c : Co) (r : List Int) : List Int := (wtg c r).filter fun x => !decide (x ∈ cl c r [])
abbrev T_wnever (C : Addr) : TrD := fun xs μ R => ∃ p a l S c r L, xs = [.a p] ∧ μ = Hall C p a l (S ++ [(c, r)]) L ∧ CoD (coD c) c ∧ r.length + c.length < 64 ∧ R (.d (.tuple (intsD (wnv c r)))) μ
abbrev T_opers (C : Addr) : TrD := fun xs μ R => ∃ p a l S x L, xs = [.a p] ∧ μ = Hall C p a l (S ++ [x]) L ∧ R (.d (.int (S.length : Nat))) μ
def unS (S : List (Co × List Int)) (x : Co × List Int) : List (Co × List Int) := if S = [] then [x] else S
abbrev T_undo (C : Addr) : TrD := fun xs μ R => ∃ p a l S x L, xs = [.a p] ∧ μ = Hall C p a l (S ++ [x]) L ∧ S.length ≤ 1000 ∧ L.length ≤ 1000 ∧ R (.d (.bool (decide (0 < (S.length : Int))))) (Hall C p a l (unS S x) (L ++ lgs "undo"))
def latA (c : Co) : List Int → List Int → Nat × Int × List Int
  | r, [] => (0, 0, r)
  | r, q :: ps => if lat c r q = 0 then latA c (r ++ [q]) ps else (lat c r q, q, r)
theorem latA_app {c : Co} : ∀ {ps r : List Int} {q : Int}, (latA c r ps).1 = 0 → latA c r (ps ++ [q]) = latA c (r ++ ps) [q]
  | [], r, q, _ => by simp
  | p :: ps, r, q, h => by
    unfold latA at h
    split at h
    · rename_i e
      show (if lat c r p = 0 then latA c (r ++ [p]) (ps ++ [q]) else _) = _
      rw [if_pos e, latA_app h]
      simp
    · rename_i e
      exact absurd h e
theorem latA_pre {c : Co} : ∀ {ps r qs : List Int}, (latA c r ps).1 ≠ 0 → latA c r (ps ++ qs) = latA c r ps
  | [], r, qs, h => absurd rfl h
  | p :: ps, r, qs, h => by
    unfold latA at h
    split at h
    · rename_i e
      show (if lat c r p = 0 then latA c (r ++ [p]) (ps ++ qs) else _) = (if lat c r p = 0 then latA c (r ++ [p]) ps else _)
      rw [if_pos e, if_pos e, latA_pre h]
    · rename_i e
      show (if lat c r p = 0 then latA c (r ++ [p]) (ps ++ qs) else _) = (if lat c r p = 0 then latA c (r ++ [p]) ps else _)
      rw [if_neg e, if_neg e]
theorem latA_at {c : Co} {r ps : List Int} {i k : Nat} {q : Int} (h : (latA c r (ps.take i)).1 = 0) (hq : ps[i]? = some q) (e : lat c (r ++ ps.take i) q = k) (hk : k ≠ 0) : latA c r ps = (k, q, r ++ ps.take i) := by
  have h1 : latA c r (ps.take (i + 1)) = (k, q, r ++ ps.take i) := by
    rw [List.take_add_one, hq]
    show latA c r (ps.take i ++ [q]) = _
    rw [latA_app h]
    unfold latA
    rw [if_neg (by rw [e]; exact hk), e]
  have h2 := latA_pre (c := c) (r := r) (ps := ps.take (i + 1)) (qs := ps.drop (i + 1)) (by rw [h1]; exact hk)
  rw [List.take_append_drop] at h2
  rw [h2, h1]
theorem latA_next {c : Co} {r ps : List Int} {i : Nat} {q : Int} (h : (latA c r (ps.take i)).1 = 0) (hq : ps[i]? = some q) (e : lat c (r ++ ps.take i) q = 0) : (latA c r (ps.take (i + 1))).1 = 0 := by
  rw [List.take_add_one, hq]
  show (latA c r (ps.take i ++ [q])).1 = 0
  rw [latA_app h]
  unfold latA
  rw [if_pos e]
  rfl
abbrev T_call (C CN CH CE : Addr) : TrX := fun xs μ R RE => ∃ p a l S c r L dp ps, xs = [.a p, .d dp] ∧ μ = Hall C p a l (S ++ [(c, r)]) L ∧ SqD dp (intsD ps) ∧ CoD (coD c) c ∧ c.length < 64 ∧ r.length + ps.length ≤ 1000 ∧ (∀ q ∈ ps, q.natAbs.log2 < 1920) ∧ S.length ≤ 1000 ∧ L.length ≤ 1000 ∧
  ((latA c r ps).1 = 0 → R (.d (.int ((r ++ ps).length : Nat))) (Hall C p a l ((S ++ [(c, r)]) ++ [(c, r ++ ps)]) (L ++ lgs "come_all"))) ∧
  ((latA c r ps).1 = 1 → RE ⟨CN, "person", .int (latA c r ps).2.1⟩ (Hall C p a l (S ++ [(c, r)]) (L ++ lgs "come_all"))) ∧
  ((latA c r ps).1 = 2 → RE ⟨CH, "person", .int (latA c r ps).2.1⟩ (Hall C p a l (S ++ [(c, r)]) (L ++ lgs "come_all"))) ∧
  ((latA c r ps).1 = 3 → RE ⟨CE, "person", .int (latA c r ps).2.1⟩ (Hall C p a l (S ++ [(c, r)]) (L ++ lgs "come_all")))
abbrev T_setn (C CN CH : Addr) : TrX := fun xs μ R RE => ∃ p a l S c r L q v, xs = [.a p, .d (.int q), .d (.int v)] ∧ μ = Hall C p a l (S ++ [(c, r)]) L ∧ CoD (coD c) c ∧ c.length < 64 ∧ r.length ≤ 1000 ∧ q.natAbs.log2 < 1920 ∧ S.length ≤ 1000 ∧ L.length ≤ 1000 ∧
  (0 ≤ q → q < c.length → q ∉ r → R (.d (.int (nd c q))) (Hall C p a l ((S ++ [(c, r)]) ++ [(wn c q v, r)]) (L ++ lgs "set_need"))) ∧
  (¬ (0 ≤ q ∧ q < c.length) → RE ⟨CN, "person", .int q⟩ (Hall C p a l (S ++ [(c, r)]) (L ++ lgs "set_need"))) ∧
  (0 ≤ q → q < c.length → q ∈ r → RE ⟨CH, "person", .int q⟩ (Hall C p a l (S ++ [(c, r)]) (L ++ lgs "set_need")))
theorem hall_pop {C p a l : Addr} {S : List (Co × List Int)} {x : Co × List Int} {L : List (Str × Str)} : Hall C p a l (S ++ [x]) L = ([(p, Cont.o C (hallF a l)), (a, Cont.l (S.map stD ++ [stD x])), (l, Cont.l (L.map lgD))] : Cells) := by
  unfold Hall
  rw [List.map_append]
  rfl
theorem st_fits {x : Co × List Int} (h : CoD (coD x.1) x.1) (hl : x.2.length ≤ 1000) : fits 4 (stD x) = true := by
  unfold stD
  have h1 : fits 3 (coD x.1) = true := coD_fits (by have := h.len; omega) h.frs
  have h2 : fits 1 (.tuple (intsD x.2)) = true := (fits_ints 0 x.2 hl).2
  have h3 : fits 3 (.tuple (intsD x.2)) = true := fits_mono h2 (by decide)
  unfold fits
  simp [h1, h3]
theorem eqvAll_map9 {α : Type} [DecidableEq α] {f : α → PyData} (h : ∀ a b, PyData.eqv (f a) (f b) = decide (a = b)) : ∀ as bs : List α, PyData.eqvAll (as.map f) (bs.map f) = decide (as = bs)
  | [], [] => by rfl
  | [], _ :: _ => by simp [PyData.eqvAll]
  | _ :: _, [] => by simp [PyData.eqvAll]
  | a :: as, b :: bs => by
    rw [List.map_cons, List.map_cons]
    show (PyData.eqv (f a) (f b) && PyData.eqvAll (as.map f) (bs.map f)) = _
    rw [h, eqvAll_map9 h as bs, ← Bool.decide_and, decide_eq_decide]
    simp
theorem eqv_two {a b c d : PyData} : PyData.eqv (.tuple [a, b]) (.tuple [c, d]) = (PyData.eqv a c && PyData.eqv b d) := by
  show (PyData.eqv a c && (PyData.eqv b d && true)) = _
  rw [Bool.and_true]
theorem eqv_en (e f : List Int × Int) : PyData.eqv (enD e) (enD f) = decide (e = f) := by
  unfold enD
  rw [eqv_two, eqv_tup, eqv_dint, ← Bool.decide_and, decide_eq_decide]
  exact ⟨fun h => Prod.ext h.1 h.2, fun h => by subst h; exact ⟨rfl, rfl⟩⟩
theorem eqv_co9 (c d : Co) : PyData.eqv (coD c) (coD d) = decide (c = d) := eqvAll_map9 eqv_en c d
theorem eqv_st (x y : Co × List Int) : PyData.eqv (stD x) (stD y) = decide (x = y) := by
  unfold stD
  rw [eqv_two, eqv_co9, eqv_tup, ← Bool.decide_and, decide_eq_decide]
  exact ⟨fun h => Prod.ext h.1 h.2, fun h => by subst h; exact ⟨rfl, rfl⟩⟩
end Ec
set_option Elab.async false
set_option linter.all false
set_option maxRecDepth 100000
set_option maxHeartbeats 4000000
namespace Ec
open PySem PySem.Spec PyProof.Rows L2
theorem pord_list {c : Co} : ∀ {s r : List Int}, POrd c r → s.Nodup → (∀ x ∈ s, (0 ≤ x ∧ x < c.length) ∧ x ∉ r ∧ comes c r x = true) → POrd c (r ++ s)
  | [], r, h, _, _ => by rw [List.append_nil]; exact h
  | x :: s, r, h, hn, hs => by
    obtain ⟨h1, h2, h3⟩ := hs x List.mem_cons_self
    obtain ⟨n1, n2⟩ := List.nodup_cons.mp hn
    have g := pord_list (s := s) (h.add h1.1 h1.2 h2 h3) n2 fun y m => by
      obtain ⟨g1, g2, g3⟩ := hs y (List.mem_cons_of_mem _ m)
      exact ⟨g1, fun z => (List.mem_append.mp z).elim g2 fun z => n1 (by rw [← List.mem_singleton.mp z]; exact m), comes_mono (fun z m => List.mem_append_left _ m) g3⟩
    rw [List.append_assoc] at g
    exact g
theorem lat_next {c : Co} {r : List Int} {x : Int} (h : (0 ≤ x ∧ x < c.length) ∧ x ∉ r ∧ comes c r x = true) : lat c r x = 0 := lat0 h.1.1 h.1.2 h.2.1 h.2.2
theorem latA_list {c : Co} : ∀ {s r : List Int}, s.Nodup → (∀ x ∈ s, (0 ≤ x ∧ x < c.length) ∧ x ∉ r ∧ comes c r x = true) → (latA c r s).1 = 0
  | [], r, _, _ => rfl
  | x :: s, r, hn, hs => by
    obtain ⟨n1, n2⟩ := List.nodup_cons.mp hn
    unfold latA
    rw [if_pos (lat_next (hs x List.mem_cons_self))]
    exact latA_list n2 fun y m => by
      obtain ⟨g1, g2, g3⟩ := hs y (List.mem_cons_of_mem _ m)
      exact ⟨g1, fun z => (List.mem_append.mp z).elim g2 fun z => n1 (by rw [← List.mem_singleton.mp z]; exact m), comes_mono (fun z m => List.mem_append_left _ m) g3⟩
theorem nexts_nodup9 (c : Co) (r : List Int) : (nexts c r).Nodup := ((rng_nodup c.length).filter _).filter _
theorem nexts_all {c : Co} {r : List Int} : ∀ x ∈ nexts c r, (0 ≤ x ∧ x < c.length) ∧ x ∉ r ∧ comes c r x = true := fun x m => nexts_mem9 m
theorem meet_pord {c : Co} {r : List Int} (h : POrd c r) : POrd c (r ++ nexts c r) := pord_list h (nexts_nodup9 c r) nexts_all
end Ec
set_option Elab.async false
set_option linter.all false
set_option maxRecDepth 100000
set_option maxHeartbeats 4000000
namespace Ec
open PySem PySem.Spec PyProof.Rows L2
section
variable {X : Cx} {δ : Dl} {μ : Cells} {e : Expr} {es : List Expr} {pos p : Pos} {Q : Vd → Cells → Prop}
theorem we_fmtI (h : WE X e δ μ fun x μ1 => ∃ i : Int, x = .d (.int i) ∧ i.natAbs.log2 < 1920 ∧ Q (.d (.str (toString i))) μ1) : WE X (.FormattedValue e (-1) none pos) δ μ Q := fun F H σ R QV c =>
  toE (pe_fmt (pcE X e)) (h F H σ R _ fun v x F1 H1 μ1 w1 R1 o1 q => by
    obtain ⟨i, rfl, hz, q⟩ := q
    exact .inr ⟨i, dp_int o1, hz, c (.str (toString i)) (.d (.str (toString i))) F1 H1 μ1 w1 R1 (.str _) q⟩)
def WJ (X : Cx) (es : List Expr) (acc : Str) (δ : Dl) (μ : Cells) (Q : Vd → Cells → Prop) : Prop := ∀ F H σ, Rp X.K F H σ δ μ → ∀ QV : VK,
  (∀ v x F' H' μ', Fw (ks μ) (ks μ') F H F' H' → Rp X.K F' H' σ δ μ' → VOk X.K F' x v → Q x μ' → QV v H') → tJs (es.map (cE X)) acc σ H fun out H1 => QV (.str out) H1
theorem pj_all (X : Cx) : ∀ es : List Expr, PJ X es (es.map (cE X))
  | [] => .nil
  | e :: es => .cons (pcE X e) (pj_all X es)
theorem wj_nil {acc : Str} (h : Q (.d (.str acc)) μ) : WJ X [] acc δ μ Q := fun F H σ R QV c => c (.str acc) (.d (.str acc)) F H μ Fw.refl R (.str acc) h
theorem wj_cons {acc : Str} (h : WE X e δ μ fun x μ1 => ∃ y : Str, x = .d (.str y) ∧ (acc ++ y).length ≤ 1000000 ∧ WJ X es (acc ++ y) δ μ1 Q) : WJ X (e :: es) acc δ μ Q := fun F H σ R QV c =>
  h F H σ R _ fun v x F1 H1 μ1 w1 R1 o1 q => by
    obtain ⟨y, rfl, hz, q⟩ := q
    refine ⟨y, by cases o1; rfl, Nat.le_trans hz (by rw [sizeLine_eq]; decide), ?_⟩
    exact q F1 H1 σ R1 QV fun v x F2 H2 μ2 w2 R2 o2 q2 => c v x F2 H2 μ2 (w1.trans w2) R2 o2 q2
theorem we_fstr {v1 v2 : Expr} {rest : List Expr} (h : WJ X (v1 :: v2 :: rest) Str.empty δ μ Q) : WE X (.JoinedStr (v1 :: v2 :: rest) pos) δ μ Q := fun F H σ R QV c =>
  toE (pe_joined (pj_all X (v1 :: v2 :: rest))) (h F H σ R QV c)
end
end Ec
set_option Elab.async false
set_option linter.all false
set_option maxRecDepth 100000
set_option maxHeartbeats 4000000
namespace Ec
open PySem PySem.Spec PyProof.Rows L2
section
variable {X : Cx} {δ : Dl} {μ : Cells} {e : Expr} {es : List Expr} {pos p : Pos} {Q : Vd → Cells → Prop}
theorem wi_w {tg : Expr} {QI : List PyData → Cells → Prop} (h : WE X e δ μ fun x μ1 => ∃ ds, x = .w (.tuple ds) ∧ QI ds μ1) (hw : itV e = Vd.d := by rfl) : WI X tg e δ μ QI := fun F H σ R RV c =>
  toI (pi_seqS (pcE X e)) (h F H σ R _ fun v x F1 H1 μ1 w1 R1 o1 q => by
    obtain ⟨ds, rfl, q⟩ := q
    obtain ⟨a, vs, ds', e1, rfl, hs, hd⟩ := o1
    cases e1
    exact ⟨a, vs, rfl, .inr ⟨same_t R1.m.ex hs, c _ ds F1 H1 μ1 w1 R1 (by rw [hw]; exact wk_tup hs hd) q⟩⟩)
end
def CalI0 (P : Program) (w : World) (K : PySem.W.Frag) (mg : Str → Option Value) (base : Heap) (k : Nat) (x : Str) (C : Addr) (T : TrD) : Prop :=
  ∃ f fd ps tE, FnG P w K mg base CX0 k f fd ps (spW K T) ∧ Mk K C f ∧ mg x = some (.ref C) ∧ Binds K fd ps [.ref tE] ∧ ∀ F : Hp, SqT K F tE []
section
variable {X : Cx} {δ : Dl} {μ : Cells} {x : Str} {pos p : Pos} {Q : Vd → Cells → Prop} {P : Program} {w : World} {K : PySem.W.Frag} {mg : Str → Option Value} {base : Heap} {k : Nat} {C : Addr}
theorem pe_mkg0 {CX : CXT} {f : Addr} {fd : FuncData} {ps : List Str} {sp : Sp} {E : XK} {d : Addr} (M : Mk X.K C f) (F : FnG X.prog X.w X.K X.mg X.base CX k f fd ps sp) (hr : Room (k + 1) X.A) (hgd : X.A.guards = some []) (hg : Gl X x) (hm : X.mg x = some (.ref C)) (hb : Binds X.K fd ps [.ref d]) (hx : Passes CX X E)
    (hdb : (x == ("__debug__" : Str)) = false := by decide) :
    PE X (.Call (.Name x p) [] [] pos) (fun σ H Q => ∀ y dx, H y = none → H dx = none → dx ≠ y → sp [.ref y, .ref d] (upd (upd H dx (.own y)) y (.ins C dx [])) (fun v H2 => v = .non ∧ Q (.ref y) H2) E) := ⟨fun pins s σ H Q I h =>
  wpAny_Call_Name_kw (ld_glob I hg hm (PySem.W.callWith_K0 I.kIn M.kp (run_mkg (us := []) (kn := []) (ws := [.ref d]) (vs := [.ref d]) M F hr hgd (fun s2 u X2 => by
    have hq := h (s.heap.objs.size + 1) s.heap.objs.size (I.hok.fresh (Nat.le_succ _)) (I.hok.fresh (Nat.le_refl _)) (Nat.ne_of_lt (Nat.lt_succ_self _))
    have hl := F.len _ _ _ _ hq
    exact hb s2 [u] X2 (by rw [← hl]; rfl)) hx I (.cons rfl .nil) h)) hdb)⟩
theorem we_mk0 {T : TrD} (c : CalI0 P w K mg base k x C T) (hr : Room (k + 1) X.A) (hg : Gl X x) (h : ∀ q, T [.a q, .w (.tuple [])] [(q, Cont.o C [])] fun z μ' => z = .d .none ∧ Q (.a q) (μ' ++ μ))
    (hgd : X.A.guards = some [] := by assumption) (hX : (X.prog, X.w, X.K, X.mg, X.base) = (P, w, K, mg, base) := by rfl) (hdb : (x == ("__debug__" : Str)) = false := by decide) :
    WE X (.Call (.Name x p) [] [] pos) δ μ Q := fun F H σ R QV kk => by
  obtain ⟨f, fd, ps, d, ok, M, hm, hb, hd⟩ := c
  cases hX
  refine toE (pe_mkg0 M ok hr hgd hg hm hb pass0 hdb) (fun y dx hy hdx ne => ?_)
  obtain ⟨m2, w2⟩ := make_new (C := C) R.m hy hdx ne
  have m2 : RpM X.K _ _ ([(y, Cont.o C [])] ++ μ) := m2
  refine ⟨_, [.a y, .w (.tuple [])], [(y, Cont.o C [])], _, m2.left, .cons rfl (.cons ⟨d, [], [], rfl, rfl, hd _, .nil⟩ .nil), h y, fun v z F3 H3 μ3 w3 m3 o3 q3 => ?_⟩
  obtain ⟨rfl, q3⟩ := q3
  obtain ⟨m4, w4⟩ := m2.frame w3 m3
  have wa := w2.trans w4
  exact ⟨dp_non o3, kk (.ref y) (.a y) F3 H3 _ wa (R.to (w2.f.trans w3.f) m4) rfl q3⟩
end
end Ec
set_option Elab.async false
set_option linter.all false
set_option maxRecDepth 100000
set_option maxHeartbeats 4000000
namespace Ec
open PySem PySem.Spec PyProof.Rows L2
theorem ne_slot : Slot "object" "__ne__" "object.__ne__" := Slot.of (T := "object") (name := "__ne__") (owner := "object") (n := "__ne__") (by rw [typeLookup_type, builtinLookup_eq_fast]; kernel_rfl) (by decide +kernel) (by decide +kernel) (by decide +kernel) (.inl (by decide +kernel)) (by rw [isSubtype_type]; kernel_rfl)
section
variable {P : Program} {w : World} {A : Around} {Er : Value → Shared → Prop} {st : Shared} {K : PySem.W.Frag} {x y C f : Addr} {ox : Obj} {od : Option Obj}
theorem bound_blt {M : Model} {nm : Str} {id : String} {as : List Value} {R : Option Value → Shared → Prop} (kin : K.In st.heap) (J : PySem.W.InstAt st.heap x ox C od) (hf : PySem.W.findIn K (.ref C) nm = some (some (.builtin id)))
    (hb : ∀ v : Value, bindSpecial (.builtin id) v = pure (.builtin id, [v])) (k : wpAny M A (call (.builtin id) (.ref x :: as)) (fun v => R (some v)) Er st) : wpAny M A (callSpecialIfBound? (.ref x) nm as) R Er st := by
  simp only [callSpecialIfBound?, bindSpecialIfBound?]
  refine wpAny_holding (wpAny_bind (wpAny_bind (wpAny_bind (J.type.here ((PySem.W.looks_findIn kin hf).here ?_)))))
  simp only [hb]
  refine wpAny_bind (wpAny_askSetting (wpAny_ite ?_))
  have last : wpAny M A (call (.builtin id) ([.ref x] ++ as) >>= fun v => pure (some v)) R Er st := wpAny_bind (wpAny_mono k (fun _ _ q => wpAny_pure q) fun _ _ q => q)
  split
  · exact wpAny_bind (wpAny_pure (wpAny_pure last))
  · exact wpAny_tryCatch (wpAny_bind (wpAny_pure (wpAny_pure last)))
theorem ne_entry {R : Fin → Shared → Prop} (kin : K.In st.heap) (J : PySem.W.InstAt st.heap x ox C od) (he : PySem.W.findIn K (.ref C) "__eq__" = some (some (.ref f))) (hfn : PySem.W.isFn K (.ref f) = true) (hu : A.units < cLine)
    (k : wpAny (model P w) A (call (.ref f) [.ref x, .ref y]) (fun v s' => ∃ b : Bool, v = .bool b ∧ R (.done (.ret (.bool (!b)))) s') Er st) : wpAny (model P w) A (Builtin.«object.__ne__» ⟨[.ref x, .ref y], []⟩) R Er st := by
  unfold Builtin.«object.__ne__»
  repeat (first
    | with_reducible refine wpAny_cRoomFor hu ?_
    | (refine wpAny_bind (m := callSpecialIfBound? (.ref x) (Str.ofString "__eq__") [.ref y]) (PySem.W.ifBound_K kin J he hfn (wpAny_mono k (fun v s' hv => by
        obtain ⟨b, rfl, q⟩ := hv
        repeat (first | exact q | exact wpAny_pure q | exact wpAny_truthy_bool q | (refine wpAny_bind (m := truthy (.bool _)) (wpAny_truthy_bool ?_)) | wp_step)) fun _ _ e => e)))
    | wp_step)
theorem ne_K {L : Addr} {m : Str → Option Value} {h₀ : Heap} {R : Value → Shared → Prop} (hu : A.units + 1 < cLine) (fr : Fr h₀ L st.heap m) (kin₀ : K.In h₀) (J : PySem.W.InstAt st.heap x ox C od) {oy : Obj} {ody : Option Obj} (J2 : PySem.W.InstAt st.heap y oy C ody)
    (hn : PySem.W.findIn K (.ref C) "__ne__" = some (some (.builtin "object.__ne__"))) (hm : PySem.W.mroIn K C (.type "object") = some true) (he : PySem.W.findIn K (.ref C) "__eq__" = some (some (.ref f))) (hfn : PySem.W.isFn K (.ref f) = true)
    (k : wpAny (model P w) A.in1 (call (.ref f) [.ref x, .ref y]) (fun v s' => ∃ b : Bool, v = .bool b ∧ R (.bool (!b)) s') Er st) : wpAny (model P w) A (richCompare .NotEq (.ref x) (.ref y)) R Er st := by
  have kin := kin₀.keeps fr.keep
  have one : wpAny (model P w) A (tryCompare (.ref x) "__ne__" (.ref y)) (fun r s' => ∃ v, r = some v ∧ R v s') Er st := by
    unfold tryCompare
    refine wpAny_bind (bound_blt kin J hn ne_slot.bind ?_)
    refine wpAny_call (codeAny_call_builtin ne_slot.plain F.cmpEntry_ne (PySem.W.check_slot F.cmpKind_ne F.cmpSplit_ne (J.type.andThen (PySem.W.looks_mroIn kin hm)) (F.cmpArgs_ne _ _) ?_))
    refine ne_entry kin J he hfn (by show A.units + 1 < cLine; exact hu) (wpAny_mono k (fun v s' hv => ?_) fun _ _ e => e)
    obtain ⟨b, rfl, q⟩ := hv
    exact ⟨b, rfl, wpAny_pure ⟨_, rfl, q⟩⟩
  unfold richCompare
  simp only [oneThing_ref]
  refine wpAny_holding (wpAny_bind (wpAny_cRoomFor (Nat.lt_of_succ_lt hu) ?_))
  rw [cmpInfo_NotEq]
  dsimp only
  refine wpAny_bind (J.type.here (wpAny_bind (J2.type.here ?_)))
  rw [show (Value.ref C != Value.ref C) = false from by simp]
  simp only [Bool.false_eq_true, if_false]
  refine wpAny_bind (wpAny_pure ?_)
  simp only [Bool.false_eq_true, if_false]
  refine wpAny_bind (wpAny_mono one (fun r s' hr => ?_) fun _ _ e => e)
  obtain ⟨v, rfl, q⟩ := hr
  first | exact wpAny_pure q | exact wpAny_pure (wpAny_pure q)
end
structure ONe (K : PySem.W.Frag) (C : Addr) : Prop where
  ne : PySem.W.findIn K (.ref C) "__ne__" = some (some (.builtin "object.__ne__"))
  mo : PySem.W.mroIn K C (.type "object") = some true
def rNeO (C : Addr) (sp : Sp) : R2 := fun x y H Q => rEqO C sp x y H fun v H2 => ∃ k : Bool, v = .bl k ∧ Q (.bl (!k)) H2
section
variable {X : Cx} {P : Program} {w : World} {K : PySem.W.Frag} {mg : Str → Option Value} {base : Heap} {k : Nat} {C : Addr} {T : TrD}
theorem op_neO (c : CalM P w K mg base k C "__eq__" T) (o : ONe K C) (hr : Room (k + 1) X.A) (hgd : X.A.guards = some []) (hX : (X.prog, X.w, X.K, X.mg, X.base) = (P, w, K, mg, base)) : OpR X (compareOp .NotEq) (rNeO C (spW K T)) := by
  obtain ⟨f, fd, ps, ok, hm, hb⟩ := c
  cases hX
  intro pins s σ H x y v u Q I rx ry h
  obtain ⟨a, b, dx, fs, dy, gs, rfl, rfl, ea, eb, h⟩ := h
  obtain rfl : v = Value.ref a := rx
  obtain rfl : u = Value.ref b := ry
  obtain ⟨m, hfr⟩ := I.fr
  obtain ⟨mA, O, _, _, _, _⟩ := ins_get I.hok ea
  obtain ⟨od, J, _⟩ := O.look
  obtain ⟨mB, O2, _, _, _, _⟩ := ins_get I.hok eb
  obtain ⟨od2, J2, _⟩ := O2.look
  show wpAny _ _ (richCompare .NotEq (.ref a) (.ref b)) _ _ _
  refine ne_K (Nat.lt_of_le_of_lt (Nat.add_le_add_left (by decide : 1 ≤ 64) _) hr.units) hfr I.ok.mod.kin J J2 o.ne o.mo hm.at_ hm.fn (wpAny_mono (run_in1 (us := [.ref a, .ref b]) (vs := [.ref a, .ref b]) ok hr hgd hb I (.cons rfl (.cons rfl .nil)) h (E := X.xe)) (fun v s' hv => ?_) fun _ _ z => z)
  obtain ⟨y, H2, I2, ry, n, rfl, n2, e2, q⟩ := hv
  obtain rfl : v = Value.bool n := ry
  cases e2
  exact ⟨n, rfl, .bl (!n), H2, I2, rfl, q⟩
theorem ow_neO {μ : Cells} {x y : Vd} {Q : Vd → Cells → Prop} (js : List Nat) (h : ∃ a b l r fs gs, x = .a a ∧ y = .a b ∧ (a, Cont.o C fs) ∈ μ ∧ (b, Cont.o C gs) ∈ μ ∧ LentOk js μ l r ∧ T [.a a, .a b] l fun z μ' => ∃ n : Bool, z = .d (.bool n) ∧ Q (.d (.bool (!n))) (μ' ++ r)) : OpW K (rNeO C (spW K T)) x y μ Q := fun F H v u m o1 o2 QV kk => by
  obtain ⟨a, b, l, r, fs, gs, rfl, rfl, h1, h2, hj, q⟩ := h
  obtain ⟨_, dx, us, e1, _⟩ := m.cel _ _ h1
  obtain ⟨_, dy, ws, e2, _⟩ := m.cel _ _ h2
  obtain rfl : v = V.ref a := o1
  obtain rfl : u = V.ref b := o2
  have mp := m.perm hj.perm
  refine ⟨a, b, dx, us, dy, ws, rfl, rfl, e1, e2, F, [.a a, .a b], l, _, mp.left, .cons rfl (.cons rfl .nil), q, fun v z F2 H2 μ2 w2 m2 o3 q2 => ?_⟩
  obtain ⟨n, rfl, q2⟩ := q2
  obtain ⟨m3, w3⟩ := mp.frame w2 m2
  refine ⟨n, by cases o3; rfl, n, rfl, kk (.d (.bool (!n))) (.bl (!n)) F2 H2 _ (w3.sub (fun x m => (hj.perm.map Prod.fst).mem_iff.mpr m) fun x m => .inl m) m3 (.bl (!n)) q2⟩
end
theorem FunV.bindsD {K : PySem.W.Frag} {x qual : Str} {st : Stmt} {T : Addr} {f : Addr} {fd : FuncData} {ps : List Str} {o : Obj} {d : Value} {n : Nat} (F : FunV K x qual st (.ref T) f fd) (lT : K.lookup T = some o) (oT : o.data = .seq #[d] n)
    (h : ∀ (kV doc pm : Value) (an : Option Addr) (cdv ct : Value) (us : List Value), us.length + 1 = ps.length → ∃ k, bindArgs (PySem.W.fnOf x qual (defArgs st) (defBody st) (defScope st) (.ref T) kV doc pm an cdv ct) ⟨us, []⟩ = seqItems? (.ref T) >>= k ∧ k (some #[d]) = pure (ps.zip (us ++ [d]))) : Binds K fd ps [d] := by
  obtain ⟨oc, od, kV, doc, pm, an, cdv, ct, osl, rfl, lk, hcd⟩ := F.ex
  refine fun s us X hlen => ?_
  obtain ⟨k, e1, e2⟩ := h kV doc pm an cdv ct us (by rw [← hlen, List.length_append, List.length_singleton])
  refine BindsTo.of_looks fun M => ?_
  rw [e1]
  exact looks_items X lT oT (.of_pure e2)
theorem sqT_none {K : PySem.W.Frag} {t : Addr} {o : Obj} {n : Nat} (l : K.lookup t = some o) (c : o.cls = .type "tuple") (d : o.data = .seq #[] n) (F : Hp) : SqT K F t [] := .inr ⟨o, #[], n, l, c, d, Nat.zero_le _, .nil⟩
end Ec
set_option Elab.async false
set_option linter.all false
set_option maxRecDepth 100000
set_option maxHeartbeats 4000000
namespace Ec
open PySem PySem.Spec PyProof.Rows L2
abbrev T_plain2 : TrD := fun xs μ R => T_plain xs μ R ∨ (xs = [.w (.tuple [])] ∧ R (.d (coD [])) μ)
abbrev T_init2 (C : Addr) : TrD := fun xs μ R => T_init C xs μ R ∨ ∃ p, xs = [.a p, .w (.tuple [])] ∧ μ = ([(p, Cont.o C [])] : Cells) ∧ ∀ a l, R (.d .none) (Hall C p a l [([], [])] [])
def bad (c : Co) (fs : List Int) : Option Int := fs.find? fun q => !decide (0 ≤ q ∧ q < (c.length : Int))
theorem bad_take {c : Co} {fs : List Int} {i : Nat} {q : Int} (h : bad c (fs.take i) = none) (hq : fs[i]? = some q) (h1 : 0 ≤ q ∧ q < (c.length : Int)) : bad c (fs.take (i + 1)) = none := by
  unfold bad at *
  rw [List.take_add_one, hq, List.find?_append, h]
  simp [h1]
theorem bad_at {c : Co} {fs : List Int} {i : Nat} {q : Int} (h : bad c (fs.take i) = none) (hq : fs[i]? = some q) (h1 : ¬ (0 ≤ q ∧ q < (c.length : Int))) : bad c fs = some q := by
  have e : fs = fs.take i ++ (q :: fs.drop (i + 1)) := by
    obtain ⟨hi, e⟩ := List.getElem?_eq_some_iff.mp hq
    rw [← e, ← List.drop_eq_getElem_cons hi, List.take_append_drop]
  unfold bad at *
  rw [e, List.find?_append, h, List.find?_cons_of_pos (by rw [decide_eq_false h1]; rfl)]
  rfl
abbrev T_addp (C CN CF : Addr) : TrX := fun xs μ R RE => ∃ p a l S c r L df fs v, xs = [.a p, .d df, .d (.int v)] ∧ μ = Hall C p a l (S ++ [(c, r)]) L ∧ SqD df (intsD fs) ∧ CoD (coD c) c ∧ c.length < 64 ∧ fs.length ≤ 1000 ∧ (∀ q ∈ fs, q.natAbs.log2 < 1920) ∧ S.length ≤ 1000 ∧ L.length ≤ 1000 ∧
  (bad c fs = none → c.length < 20 → R (.d (.int (c.length : Nat))) (Hall C p a l ((S ++ [(c, r)]) ++ [(c ++ [(fs, v)], r)]) (L ++ lgs "add_person"))) ∧
  (∀ q, bad c fs = some q → RE ⟨CN, "person", .int q⟩ (Hall C p a l (S ++ [(c, r)]) (L ++ lgs "add_person"))) ∧
  (bad c fs = none → 20 ≤ c.length → RE ⟨CF, "many", .int (c.length : Nat)⟩ (Hall C p a l (S ++ [(c, r)]) (L ++ lgs "add_person")))
abbrev T_asof (C CO : Addr) : TrX := fun xs μ R RE => ∃ p a l S x L q, xs = [.a p, .d (.int q)] ∧ μ = Hall C p a l (S ++ [x]) L ∧ S.length ≤ 1000 ∧ q.natAbs.log2 < 1920 ∧
  (∀ n : Nat, q = n → n ≤ S.length → ∀ p2 a2 l2, R (.a p2) (Hall C p2 a2 l2 ((S ++ [x]).take (n + 1)) [] ++ Hall C p a l (S ++ [x]) L)) ∧ (¬ (0 ≤ q ∧ q ≤ S.length) → RE ⟨CO, "many", .int q⟩ (Hall C p a l (S ++ [x]) L))
abbrev T_twin (C : Addr) : TrD := fun xs μ R => ∃ p a l S x L, xs = [.a p] ∧ μ = Hall C p a l (S ++ [x]) L ∧ S.length ≤ 1000 ∧ ∀ p2 a2 l2, R (.a p2) (Hall C p2 a2 l2 (S ++ [x]) [] ++ Hall C p a l (S ++ [x]) L)
abbrev T_log (C : Addr) : TrD := fun xs μ R => ∃ p a l S x L, xs = [.a p] ∧ μ = Hall C p a l (S ++ [x]) L ∧ ∀ q, R (.a q) ((q, (L.map lgD : Cont)) :: μ)
def hallT (n k : Nat) : Str := Str.empty ++ "Gathering(" ++ (toString (n : Int) : Str) ++ " of " ++ (toString (k : Int) : Str) ++ " people)"
abbrev T_hrepr (C : Addr) : TrD := fun xs μ R => ∃ p a l S c r L, xs = [.a p] ∧ μ = Hall C p a l (S ++ [(c, r)]) L ∧ c.length < 64 ∧ r.length < 64 ∧ R (.d (.str (hallT r.length c.length))) μ
theorem app_len9 (a b : Str) : (a ++ b).length = a.length + b.length := by
  show (a.cps ++ b.cps).size = a.cps.size + b.cps.size
  exact Array.size_append
theorem app_le {a b : Str} {m n : Nat} (ha : a.length ≤ m) (hb : b.length ≤ n) : (a ++ b).length ≤ m + n := by
  rw [app_len9]
  omega
theorem num_short : ∀ n : Fin 64, (Str.ofString (toString ((n.val : Nat) : Int))).length ≤ 2 := by decide +kernel
theorem txt_short {n : Nat} (h : n < 64) : (Str.ofString (toString ((n : Nat) : Int))).length ≤ 2 := num_short ⟨n, h⟩
theorem log_nat {n : Nat} (h : n ≤ 1000) : ((n : Nat) : Int).natAbs.log2 < 1920 := by
  have := Nat.log2_le_self ((n : Nat) : Int).natAbs
  omega
theorem hall_put2 {a l b : Addr} : putA "own_states" (ptr b) (hallF a l) = hallF b l := by
  show (if ("own_states" : Str) = "own_states" then _ else _ :: putA _ _ _) = _
  rw [if_pos rfl]
  rfl
theorem cut_states {ds : List PyData} {n : Nat} (h : n ≤ ds.length) : cutZ ds none (some ((n : Nat) : Int)) = ds.take n := cutZ_take h
end Ec
set_option Elab.async false
set_option linter.all false
set_option maxRecDepth 100000
set_option maxHeartbeats 4000000
namespace Ec
open PySem PySem.Spec PyProof.Rows L2
def seenL (n : Nat) (c : Co) (r : List Int) : List PyData := [coD c, .tuple (intsD r), .list (intsD (wtg c r)), .list (intsD (nexts c r)), .tuple (intsD (wnv c r)), .int (n : Int), .int (r.length : Nat), .str (hallT r.length c.length)]
abbrev T_seen (C : Addr) : TrD := fun xs μ R => ∃ p a l S c r L, xs = [.a p] ∧ μ = Hall C p a l (S ++ [(c, r)]) L ∧ CoD (coD c) c ∧ r.length + c.length < 64 ∧ ∀ q, R (.a q) ((q, (seenL S.length c r : Cont)) :: μ)
inductive Deed where
  | come (q : Int)
  | call (ps : List Int) (t : Bool)
  | meet
  | add (fs : List Int) (v : Int)
  | set (q v : Int)
def deedD : Deed → PyData
  | .come q => .tuple [.str "come", .int q]
  | .call ps t => .tuple [.str "come_all", if t then .tuple (intsD ps) else .list (intsD ps)]
  | .meet => .tuple [.str "meet"]
  | .add fs v => .tuple [.str "add_person", .tuple (intsD fs), .int v]
  | .set q v => .tuple [.str "set_need", .int q, .int v]
def act (c : Co) (r : List Int) : Deed → (Nat × Int) ⊕ (PyData × Co × List Int)
  | .come q => if lat c r q = 0 then .inr (.int (r.length + 1 : Nat), c, r ++ [q]) else .inl (lat c r q, q)
  | .call ps _ => if (latA c r ps).1 = 0 then .inr (.int ((r ++ ps).length : Nat), c, r ++ ps) else .inl ((latA c r ps).1, (latA c r ps).2.1)
  | .meet => .inr (.list (intsD (nexts c r)), c, r ++ nexts c r)
  | .add fs v => match bad c fs with
    | some q => .inl (1, q)
    | none => if c.length < 20 then .inr (.int (c.length : Nat), c ++ [(fs, v)], r) else .inl (4, (c.length : Nat))
  | .set q v => if ¬ (0 ≤ q ∧ q < c.length) then .inl (1, q) else if q ∈ r then .inl (2, q) else .inr (.int (nd c q), wn c q v, r)
def DeedOk : Deed → Prop
  | .come q => q.natAbs.log2 < 1920
  | .call ps _ => ps.length ≤ 100 ∧ ∀ q ∈ ps, q.natAbs.log2 < 1920
  | .meet => True
  | .add fs _ => fs.length ≤ 100 ∧ ∀ q ∈ fs, q.natAbs.log2 < 1920
  | .set q _ => q.natAbs.log2 < 1920
section
variable {c : Co} {r ps fs : List Int} {q v : Int} {t : Bool} {k : Nat}
theorem act_come0 (e : lat c r q = 0) : act c r (.come q) = .inr (.int (r.length + 1 : Nat), c, r ++ [q]) := if_pos e
theorem act_comeE (e : lat c r q = k) (h : k ≠ 0) : act c r (.come q) = .inl (k, q) := by
  subst e
  exact if_neg h
theorem act_call0 (e : (latA c r ps).1 = 0) : act c r (.call ps t) = .inr (.int ((r ++ ps).length : Nat), c, r ++ ps) := if_pos e
theorem act_callE (e : (latA c r ps).1 = k) (h : k ≠ 0) : act c r (.call ps t) = .inl (k, (latA c r ps).2.1) := by
  subst e
  exact if_neg h
theorem act_add0 (e : bad c fs = none) (h : c.length < 20) : act c r (.add fs v) = .inr (.int (c.length : Nat), c ++ [(fs, v)], r) := by
  simp only [act, e]
  exact if_pos h
theorem act_add1 (e : bad c fs = some q) : act c r (.add fs v) = .inl (1, q) := by
  simp only [act, e]
theorem act_add2 (e : bad c fs = none) (h : 20 ≤ c.length) : act c r (.add fs v) = .inl (4, (c.length : Nat)) := by
  simp only [act, e]
  exact if_neg (by omega)
theorem act_set0 (h0 : 0 ≤ q) (h1 : q < c.length) (h : q ∉ r) : act c r (.set q v) = .inr (.int (nd c q), wn c q v, r) := by
  simp only [act]
  rw [if_neg (by omega), if_neg h]
theorem act_set1 (h : ¬ (0 ≤ q ∧ q < c.length)) : act c r (.set q v) = .inl (1, q) := by
  simp only [act]
  rw [if_pos h]
theorem act_set2 (h0 : 0 ≤ q) (h1 : q < c.length) (h : q ∈ r) : act c r (.set q v) = .inl (2, q) := by
  simp only [act]
  rw [if_neg (by omega), if_pos h]
end
end Ec
set_option Elab.async false
set_option linter.all false
set_option maxRecDepth 100000
set_option maxHeartbeats 4000000
namespace Ec
open PySem PySem.Spec PyProof.Rows L2
def DeedIn (c : Co) : Deed → Prop
  | .come q => -1 ≤ q ∧ q ≤ c.length
  | .call ps t => t = false ∧ ps.length ≤ 4 ∧ ∀ q ∈ ps, -1 ≤ q ∧ q ≤ c.length
  | .meet => True
  | .add fs v => fs.Pairwise (· < ·) ∧ fs.length ≤ c.length + 1 ∧ (∀ q ∈ fs, 0 ≤ q ∧ q ≤ c.length) ∧ 0 ≤ v ∧ v ≤ 100
  | .set q v => -1 ≤ q ∧ q ≤ c.length ∧ 0 ≤ v ∧ v ≤ 100
theorem log_near {q : Int} (h0 : -1 ≤ q) (h1 : q < 100) : q.natAbs.log2 < 1920 := by
  have := Nat.log2_le_self q.natAbs
  omega
theorem DeedIn.ok {c : Co} (hl : c.length ≤ 20) : ∀ {d : Deed}, DeedIn c d → DeedOk d
  | .come q, h => log_near h.1 (by have := h.2; omega)
  | .call ps t, h => ⟨by have := h.2.1; omega, fun q m => log_near (h.2.2 q m).1 (by have := (h.2.2 q m).2; omega)⟩
  | .meet, _ => trivial
  | .add fs v, h => ⟨by have := h.2.1; omega, fun q m => log_near (by have := (h.2.2.1 q m).1; omega) (by have := (h.2.2.1 q m).2; omega)⟩
  | .set q v, h => log_near h.1 (by have := h.2.1; omega)
structure Good (c : Co) (r : List Int) : Prop where
  w : CoW c
  p : POrd c r
  l : c.length ≤ 20
theorem wn_pord {c : Co} {r : List Int} {q v : Int} (h0 : 0 ≤ q) (h1 : q < c.length) (hq : q ∉ r) (h : POrd c r) : POrd (wn c q v) r := by
  refine ⟨h.nd, fun x m => by rw [wn_len]; exact h.rg x m, fun i x hx => ?_⟩
  have hm := List.mem_of_getElem? hx
  have hr := h.rg x hm
  have := h.ok i x hx
  unfold comes at *
  rw [wn_cnt h0 h1, wn_nd h0 h1, if_neg (fun z : q.toNat = x.toNat => hq ((show x = q from by omega) ▸ hm))]
  exact this
theorem latA_pord {c : Co} : ∀ {ps r : List Int}, POrd c r → (latA c r ps).1 = 0 → POrd c (r ++ ps)
  | [], r, h, _ => by rw [List.append_nil]; exact h
  | q :: ps, r, h, e => by
    unfold latA at e
    split at e
    · rename_i e1
      have g : POrd c (r ++ [q]) := by
        unfold lat at e1
        split at e1
        · cases e1
        · rename_i h1
          split at e1
          · cases e1
          · rename_i h2
            split at e1
            · rename_i h3
              exact h.add (by omega) (by omega) h2 h3
            · cases e1
      have := latA_pord g e
      rw [List.append_assoc] at this
      exact this
    · rename_i e1
      exact absurd e e1
theorem lat_pord {c : Co} {r : List Int} {q : Int} (h : POrd c r) (e : lat c r q = 0) : POrd c (r ++ [q]) := by
  have : (latA c r [q]).1 = 0 := by
    unfold latA
    rw [if_pos e]
    rfl
  exact latA_pord h this
theorem bad_none {c : Co} {fs : List Int} (h : bad c fs = none) : ∀ q ∈ fs, 0 ≤ q ∧ q < c.length := fun q m => by
  have := List.find?_eq_none.mp h q m
  simpa using this
theorem Good.act {c : Co} {r : List Int} (g : Good c r) : ∀ {d : Deed}, DeedIn c d → ∀ {v : PyData} {c2 : Co} {r2 : List Int}, Ec.act c r d = .inr (v, c2, r2) → Good c2 r2
  | .come q, _, v, c2, r2, e => by
    by_cases h : lat c r q = 0
    · rw [act_come0 h] at e
      cases e
      exact ⟨g.w, lat_pord g.p h, g.l⟩
    · rw [act_comeE rfl h] at e
      cases e
  | .call ps t, _, v, c2, r2, e => by
    by_cases h : (latA c r ps).1 = 0
    · rw [act_call0 h] at e
      cases e
      exact ⟨g.w, latA_pord g.p h, g.l⟩
    · rw [act_callE rfl h] at e
      cases e
  | .meet, _, v, c2, r2, e => by
    have e : (Sum.inr (PyData.list (intsD (nexts c r)), c, r ++ nexts c r) : (Nat × Int) ⊕ (PyData × Co × List Int)) = .inr (v, c2, r2) := e
    cases e
    exact ⟨g.w, meet_pord g.p, g.l⟩
  | .add fs n, hd, v, c2, r2, e => by
    cases hb : bad c fs with
    | some q =>
      rw [act_add1 hb] at e
      cases e
    | none =>
      by_cases hl : c.length < 20
      · rw [act_add0 hb hl] at e
        cases e
        have hf := bad_none hb
        exact ⟨adp_cow (e := (fs, n)) g.w hd.1 hf hd.2.2.2.1 (by have := hd.2.2.2.2; show n ≤ 1000; omega), adp_pord g.w g.p, by rw [List.length_append, List.length_singleton]; omega⟩
      · rw [act_add2 hb (by omega)] at e
        cases e
  | .set q n, hd, v, c2, r2, e => by
    by_cases h1 : 0 ≤ q ∧ q < c.length
    · by_cases h2 : q ∈ r
      · rw [act_set2 h1.1 h1.2 h2] at e
        cases e
      · rw [act_set0 h1.1 h1.2 h2] at e
        cases e
        exact ⟨wn_cow h1.1 h1.2 hd.2.2.1 (by have := hd.2.2.2; omega) g.w, wn_pord h1.1 h1.2 h2 g.p, by rw [wn_len]; exact g.l⟩
    · rw [act_set1 h1] at e
      cases e
end Ec
set_option Elab.async false
set_option linter.all false
set_option maxRecDepth 100000
set_option maxHeartbeats 4000000
namespace Ec
open PySem PySem.Spec PyProof.Rows L2
end Ec
set_option Elab.async false
set_option linter.all false
set_option maxRecDepth 100000
set_option maxHeartbeats 4000000
namespace Ec
open PySem PySem.Spec PyProof.Rows L2
def stood1 (d : Deed) (v : PyData) : PyData := .tuple [deedD d, .tuple [.str "told", v]]
inductive Hist (c0 : Co) : List Deed → List (Co × List Int) → List PyData → Prop
  | nil : Hist c0 [] [(c0, [])] []
  | snoc {ds : List Deed} {S : List (Co × List Int)} {c : Co} {r : List Int} {st : List PyData} {d : Deed} {v : PyData} {c2 : Co} {r2 : List Int} (h : Hist c0 ds (S ++ [(c, r)]) st) (hd : DeedIn c d) (ha : act c r d = .inr (v, c2, r2)) :
    Hist c0 (ds ++ [d]) ((S ++ [(c, r)]) ++ [(c2, r2)]) (st ++ [stood1 d v])
section
variable {c0 : Co}
theorem Hist.len {ds : List Deed} {SS : List (Co × List Int)} {st : List PyData} (h : Hist c0 ds SS st) : SS.length = ds.length + 1 ∧ st.length = ds.length := by
  induction h with
  | nil => exact ⟨rfl, rfl⟩
  | snoc _ _ _ ih =>
    simp only [List.length_append, List.length_singleton] at ih ⊢
    omega
theorem Hist.good (w : CoW c0) (hl : c0.length ≤ 20) {ds : List Deed} {SS : List (Co × List Int)} {st : List PyData} (h : Hist c0 ds SS st) : ∀ x ∈ SS, Good x.1 x.2 := by
  induction h with
  | nil =>
    intro x m
    rw [List.mem_singleton.mp m]
    exact ⟨w, POrd.nil c0, hl⟩
  | snoc _ hd ha ih =>
    intro x m
    rcases List.mem_append.mp m with m | m
    · exact ih x m
    · rw [List.mem_singleton.mp m]
      exact (ih _ (List.mem_append_right _ (List.mem_singleton.mpr rfl))).act hd ha
theorem Hist.take {ds : List Deed} {SS : List (Co × List Int)} {st : List PyData} (h : Hist c0 ds SS st) : ∀ k, k ≤ ds.length → Hist c0 (ds.take k) (SS.take (k + 1)) (st.take k) := by
  induction h with
  | nil =>
    intro k hk
    have : k = 0 := by simpa using hk
    subst this
    exact .nil
  | @snoc ds S c r st d v c2 r2 h hd ha ih =>
    intro k hk
    obtain ⟨h1, h2⟩ := h.len
    rw [List.length_append, List.length_singleton] at hk
    by_cases e : k = ds.length + 1
    · subst e
      rw [List.take_of_length_le (by simp), List.take_of_length_le (by rw [List.length_append, h1]; simp), List.take_of_length_le (by rw [List.length_append, h2]; simp)]
      exact .snoc h hd ha
    · have hk2 : k ≤ ds.length := by omega
      generalize hT : S ++ [(c, r)] = T at h1 ih
      rw [List.take_append_of_le_length hk2, List.take_append_of_le_length (by omega), List.take_append_of_le_length (by omega)]
      exact ih k hk2
theorem Hist.last {ds : List Deed} {SS : List (Co × List Int)} {st : List PyData} (h : Hist c0 ds SS st) : ∃ S c r, SS = S ++ [(c, r)] := by
  cases h with
  | nil => exact ⟨[], c0, [], rfl⟩
  | snoc _ _ _ => exact ⟨_, _, _, rfl⟩
theorem Hist.at_ {ds : List Deed} {SS : List (Co × List Int)} {st : List PyData} (h : Hist c0 ds SS st) {k : Nat} (hk : k < ds.length) :
    ∃ S c r d v c2 r2, SS.take (k + 1) = S ++ [(c, r)] ∧ SS.take (k + 2) = (S ++ [(c, r)]) ++ [(c2, r2)] ∧ st[k]? = some (stood1 d v) ∧ DeedIn c d ∧ act c r d = .inr (v, c2, r2) := by
  have h1 := h.take (k + 1) hk
  obtain ⟨l1, l2⟩ := h1.len
  have ld : (ds.take (k + 1)).length = k + 1 := by rw [List.length_take]; omega
  generalize hd1 : ds.take (k + 1) = D1 at h1 l1 l2 ld
  generalize hS1 : SS.take (k + 1 + 1) = S1 at h1 l1
  generalize hs1 : st.take (k + 1) = s1 at h1 l2
  cases h1 with
  | nil => simp at ld
  | @snoc ds' S c r st' d v c2 r2 h2 hd ha =>
    refine ⟨S, c, r, d, v, c2, r2, ?_, rfl, ?_, hd, ha⟩
    · have e : (SS.take (k + 2)).take (k + 1) = SS.take (k + 1) := by rw [List.take_take]; congr 1; omega
      rw [← e, hS1]
      obtain ⟨a1, a2⟩ := h2.len
      rw [List.length_append, List.length_singleton] at ld
      rw [List.take_append_of_le_length (by omega), List.take_of_length_le (by omega)]
    · obtain ⟨a1, a2⟩ := h2.len
      rw [List.length_append, List.length_singleton] at ld
      have e : (st.take (k + 1))[k]? = st[k]? := List.getElem?_take_of_lt (by omega)
      rw [← e, hs1, List.getElem?_append_right (by omega)]
      rw [show k - st'.length = 0 from by omega]
      rfl
end
end Ec
set_option Elab.async false
set_option linter.all false
set_option maxRecDepth 100000
set_option maxHeartbeats 4000000
namespace Ec
open PySem PySem.Spec PyProof.Rows L2
theorem strOk_app {a b : Str} (ha : PyData.strOk a = true) (hb : PyData.strOk b = true) : PyData.strOk (a ++ b) = true := by
  unfold PyData.strOk at *
  show (a.cps ++ b.cps).all _ = true
  rw [Array.all_append, ha, hb]
  rfl
theorem num_ok9 : ∀ n : Fin 64, PyData.strOk (Str.ofString (toString ((n.val : Nat) : Int))) = true := by decide +kernel
theorem hallT_ok {n k : Nat} (hn : n < 64) (hk : k < 64) : SeqAt.shaped (.str (hallT n k)) = true := by
  have h : PyData.strOk (hallT n k) = true := strOk_app (strOk_app (strOk_app (strOk_app (by decide +kernel) (num_ok9 ⟨n, hn⟩)) (by decide +kernel)) (num_ok9 ⟨k, hk⟩)) (by decide +kernel)
  unfold SeqAt.shaped
  rw [show PyData.canLay0 (.str (hallT n k)) = PyData.strOk (hallT n k) from by simp only [PyData.canLay0], h]
  rfl
theorem fits_str {n : Nat} {x : Str} (h : SeqAt.shaped (.str x) = true) : fits n (.str x) = true := by
  cases n <;> exact h
theorem seenL_pl (n : Nat) (c : Co) (r : List Int) : plS (seenL n c r) := by
  unfold seenL
  repeat' first | exact plS_nil | refine plS_cons rfl ?_
theorem wtg_few (c : Co) (r : List Int) : (wtg c r).length ≤ c.length := by
  unfold wtg
  exact Nat.le_trans (List.length_filter_le _ _) (by rw [rng_len]; exact Nat.le_refl _)
theorem seenL_fits {n : Nat} {c : Co} {r : List Int} (hc : CoD (coD c) c) (hl : c.length < 64) (hr : r.length < 64) : fits 4 (.list (seenL n c r)) = true := by
  have h0 : fits 3 (coD c) = true := coD_fits (by omega) hc.frs
  have h1 := (fits_ints 2 r (by omega)).2
  have h2 := (fits_ints 2 (wtg c r) (by have := wtg_few c r; omega)).1
  have h3 := (fits_ints 2 (nexts c r) (by have := nexts_le9 c r; omega)).1
  have h4 := (fits_ints 2 (wnv c r) (by have := wtg_few c r; have : (wnv c r).length ≤ (wtg c r).length := List.length_filter_le _ _; omega)).2
  refine fits_lst (by unfold seenL; simp) fun d m => ?_
  unfold seenL at m
  simp only [List.mem_cons, List.not_mem_nil, or_false] at m
  rcases m with rfl | rfl | rfl | rfl | rfl | rfl | rfl | rfl
  · exact h0
  · exact h1
  · exact h2
  · exact h3
  · exact h4
  · rfl
  · rfl
  · exact fits_str (hallT_ok hr hl)
theorem deed_fits {c : Co} (hl : c.length ≤ 20) : ∀ {d : Deed}, DeedIn c d → fits 2 (deedD d) = true
  | .come q, _ => by
    refine fits_tup (by simp) fun x m => ?_
    simp only [List.mem_cons, List.not_mem_nil, or_false] at m
    rcases m with rfl | rfl
    · exact fits_str (by decide +kernel)
    · rfl
  | .call ps t, h => by
    obtain ⟨rfl, h2, _⟩ := h
    refine fits_tup (by simp) fun x m => ?_
    simp only [List.mem_cons, List.not_mem_nil, or_false] at m
    rcases m with rfl | rfl
    · exact fits_str (by decide +kernel)
    · exact (fits_ints 0 ps (by omega)).1
  | .meet, _ => by decide +kernel
  | .add fs v, h => by
    refine fits_tup (by simp) fun x m => ?_
    simp only [List.mem_cons, List.not_mem_nil, or_false] at m
    rcases m with rfl | rfl | rfl
    · exact fits_str (by decide +kernel)
    · exact (fits_ints 0 fs (by have := h.2.1; omega)).2
    · rfl
  | .set q v, _ => by
    refine fits_tup (by simp) fun x m => ?_
    simp only [List.mem_cons, List.not_mem_nil, or_false] at m
    rcases m with rfl | rfl | rfl
    · exact fits_str (by decide +kernel)
    · rfl
    · rfl
theorem act_fits {c : Co} {r : List Int} (hl : c.length ≤ 20) : ∀ {d : Deed} {v : PyData} {c2 : Co} {r2 : List Int}, act c r d = .inr (v, c2, r2) → fits 1 v = true
  | .come q, v, c2, r2, e => by
    by_cases h : lat c r q = 0
    · rw [act_come0 h] at e
      cases e
      rfl
    · rw [act_comeE rfl h] at e
      cases e
  | .call ps t, v, c2, r2, e => by
    by_cases h : (latA c r ps).1 = 0
    · rw [act_call0 h] at e
      cases e
      rfl
    · rw [act_callE rfl h] at e
      cases e
  | .meet, v, c2, r2, e => by
    have e : (Sum.inr (PyData.list (intsD (nexts c r)), c, r ++ nexts c r) : (Nat × Int) ⊕ (PyData × Co × List Int)) = .inr (v, c2, r2) := e
    cases e
    exact (fits_ints 0 _ (by have := nexts_le9 c r; omega)).1
  | .add fs n, v, c2, r2, e => by
    cases hb : bad c fs with
    | some q =>
      rw [act_add1 hb] at e
      cases e
    | none =>
      by_cases hl : c.length < 20
      · rw [act_add0 hb hl] at e
        cases e
        rfl
      · rw [act_add2 hb (by omega)] at e
        cases e
  | .set q n, v, c2, r2, e => by
    by_cases h1 : 0 ≤ q ∧ q < c.length
    · by_cases h2 : q ∈ r
      · rw [act_set2 h1.1 h1.2 h2] at e
        cases e
      · rw [act_set0 h1.1 h1.2 h2] at e
        cases e
        rfl
    · rw [act_set1 h1] at e
      cases e
theorem toldv_fits {v : PyData} (h : fits 1 v = true) : fits 2 (.tuple [.str "told", v]) = true := by
  refine fits_tup (by simp) fun x m => ?_
  simp only [List.mem_cons, List.not_mem_nil, or_false] at m
  rcases m with rfl | rfl
  · exact fits_str (by decide +kernel)
  · exact h
section
variable {c0 : Co} {ds : List Deed} {S : List (Co × List Int)} {c : Co} {r : List Int} {st : List PyData}
theorem Hist.fit {SS : List (Co × List Int)} (w : CoW c0) (hl : c0.length ≤ 20) (h : Hist c0 ds SS st) : ∀ x ∈ st, fits 3 x = true := by
  induction h with
  | nil => exact fun x m => by cases m
  | @snoc ds S c r st d v c2 r2 h hd ha ih =>
    intro x m
    rcases List.mem_append.mp m with m | m
    · exact ih x m
    · rw [List.mem_singleton.mp m]
      have g := h.good w hl (c, r) (List.mem_append_right _ (List.mem_singleton.mpr rfl))
      refine fits_tup (by simp) fun y n => ?_
      simp only [List.mem_cons, List.not_mem_nil, or_false] at n
      rcases n with rfl | rfl
      · exact deed_fits g.l hd
      · exact toldv_fits (act_fits g.l ha)
theorem Hist.first {SS : List (Co × List Int)} (h : Hist c0 ds SS st) : SS.take 1 = [(c0, [])] := by
  induction h with
  | nil => rfl
  | @snoc ds S c r st d v c2 r2 h hd ha ih =>
    rw [List.take_append_of_le_length (by simp)]
    exact ih
theorem snoc_eq {α : Type} {A B : List α} {x y : α} (h : A ++ [x] = B ++ [y]) : A = B ∧ x = y := by
  obtain ⟨e1, e2⟩ := List.append_inj' h rfl
  exact ⟨e1, by simpa using e2⟩
theorem Hist.step {SS : List (Co × List Int)} (h : Hist c0 ds SS st) {k : Nat} (hk : k < ds.length) (hT : S ++ [(c, r)] = SS.take (k + 1)) :
    ∃ d v c2 r2, (S ++ [(c, r)]) ++ [(c2, r2)] = SS.take (k + 1 + 1) ∧ st[k]? = some (stood1 d v) ∧ DeedIn c d ∧ act c r d = .inr (v, c2, r2) := by
  obtain ⟨S', c', r', d, v, c2, r2, e1, e2, e3, e4, e5⟩ := h.at_ hk
  obtain ⟨a1, a2⟩ := snoc_eq (hT.trans e1)
  cases a2
  subst a1
  exact ⟨d, v, c2, r2, e2.symm, e3, e4, e5⟩
theorem snoc_of {α : Type} {l : List α} (h : l ≠ []) : ∃ l' x, l = l' ++ [x] := ⟨l.dropLast, l.getLast h, (List.dropLast_concat_getLast h).symm⟩
end
theorem undo_t2 {S : List (Co × List Int)} {y : Co × List Int} : (!decide (decide (0 < (((S ++ [y]).length : Nat) : Int)) = true)) = false := by
  rw [decide_eq_true (show 0 < (((S ++ [y]).length : Nat) : Int) from by rw [List.length_append, List.length_singleton]; omega)]
  rfl
theorem unS_pop {S : List (Co × List Int)} {y x : Co × List Int} : unS (S ++ [y]) x = S ++ [y] := if_neg (by simp)
end Ec
set_option Elab.async false
set_option linter.all false
set_option maxRecDepth 100000
set_option maxHeartbeats 4000000
namespace Ec
open PySem PySem.Spec PyProof.Rows L2
section
variable {X : Cx} {δ : Dl} {μ : Cells} {a b : Expr} {pos : Pos} {Q : Vd → Cells → Prop}
end
section
variable {K : PySem.W.Frag} {μ : Cells} {Q : Vd → Cells → Prop}
end
section
variable {K : PySem.W.Frag}
abbrev cls (ν : List (Addr × List PyData)) : Cells := ν.map fun c => (c.1, (c.2 : Cont))
abbrev Hc := List ((Addr × List PyData) × (Addr × List PyData))
end
section
variable {X : Cx} {δ : Dl} {μ : Cells} {e : Expr} {Q : Vd → Cells → Prop}
end
end Ec
set_option Elab.async false
set_option linter.all false
set_option maxRecDepth 100000
set_option maxHeartbeats 4000000
namespace Ec
open PySem PySem.Spec PyProof.Rows L2
def hN (n : Nat) (ad : Nat → Addr × Addr) (A B : Nat → List PyData) : Hc := (List.range n).map fun s => (((ad s).1, A s), ((ad s).2, B s))
section
variable {n : Nat} {ad : Nat → Addr × Addr} {A B : Nat → List PyData} {μ : Cells}
end
end Ec
set_option Elab.async false
set_option linter.all false
set_option maxRecDepth 100000
set_option maxHeartbeats 4000000
namespace Ec
open PySem PySem.Spec PyProof.Rows L2
section
variable {K : PySem.W.Frag} {μ : Cells} {Q : Vd → Cells → Prop} {X : Cx} {δ : Dl} {D : Dn}
theorem wb_dropAt (i : Nat) {y : Addr × Cont} {sts : List Stmt} (hi : μ[i]? = some y) (h : WB X sts δ (μ.eraseIdx i) D) : WB X sts δ μ D := fun F H σ R De b => by
  have pm : μ.Perm (y :: μ.eraseIdx i) := by
    obtain ⟨hl, e⟩ := List.getElem?_eq_some_iff.mp hi
    rw [← e]
    exact perm_erase hl
  have R1 := R.perm pm
  have R' : Rp X.K F H σ δ (μ.eraseIdx i) := ⟨⟨R1.m.ex, (List.nodup_cons.mp R1.m.nd).2, fun b ds m => R1.m.cel b ds (List.mem_cons_of_mem _ m)⟩, R.len, R.env⟩
  have w : Fw (ks μ) (ks (μ.eraseIdx i)) F H F H := Fw.refl.sub (fun _ h => h) fun x m => .inl ((pm.map Prod.fst).mem_iff.mpr (List.mem_cons_of_mem _ m))
  exact h F H σ R' De (b.next w)
end
end Ec
set_option Elab.async false
set_option linter.all false
set_option maxRecDepth 100000
set_option maxHeartbeats 4000000
namespace PySem
open Sem (wp)
open PyProof.Rows
open AutoSeq1 (wpAny_loadPart')
namespace HT2
end HT2
end PySem
namespace Ec
open PySem PySem.Spec PyProof.Rows L2
end Ec
set_option Elab.async false
set_option linter.all false
set_option maxRecDepth 100000
set_option maxHeartbeats 4000000
namespace Ec
open PySem PySem.Spec PyProof.Rows L2
end Ec
set_option Elab.async false
set_option linter.all false
set_option maxRecDepth 100000
set_option maxHeartbeats 4000000
namespace Ec
open PySem PySem.Spec PyProof.Rows L2
def TryOk (c : Co) (r : List Int) (x : Deed × Nat × Int) : Prop := DeedOk x.1 ∧ act c r x.1 = .inl x.2
def LogOk (L : List (Str × Str)) : Prop := ∀ x ∈ L, SeqAt.shaped (.str x.1) = true ∧ SeqAt.shaped (.str x.2) = true
theorem LogOk.nil : LogOk [] := fun x m => by cases m
theorem LogOk.lgs {L : List (Str × Str)} {w : Str} (h : LogOk L) (hw : SeqAt.shaped (.str w) = true) : LogOk (L ++ Ec.lgs w) := fun x m => by
  rcases List.mem_append.mp m with m | m
  · exact h x m
  · unfold Ec.lgs at m
    simp only [List.mem_cons, List.not_mem_nil, or_false] at m
    rcases m with rfl | rfl
    · exact ⟨(by decide +kernel : SeqAt.shaped (.str "in") = true), hw⟩
    · exact ⟨(by decide +kernel : SeqAt.shaped (.str "out") = true), hw⟩
theorem LogOk.fits {L : List (Str × Str)} (h : LogOk L) (hl : L.length ≤ 1000) : fits 2 (.list (L.map lgD)) = true := fits_lst (by rw [List.length_map]; exact hl) fun d m => by
  obtain ⟨x, hx, rfl⟩ := List.mem_map.mp m
  refine fits_tup (n := 0) (by simp) fun y n => ?_
  simp only [List.mem_cons, List.not_mem_nil, or_false] at n
  rcases n with rfl | rfl
  · exact fits_str (h x hx).1
  · exact fits_str (h x hx).2
section
variable {c : Co} {r : List Int} {q v : Int} {qs : List Int} {t : Bool} {k : Nat}
end
theorem TryOk.one {E : List (Deed × Nat × Int)} {c : Co} {r : List Int} {x : Deed × Nat × Int} (h : ∀ y ∈ E, TryOk c r y) (hx : TryOk c r x) : ∀ y ∈ E ++ [x], TryOk c r y := fun y m => by
  rcases List.mem_append.mp m with m | m
  · exact h y m
  · rw [List.mem_singleton.mp m]
    exact hx
end Ec
set_option Elab.async false
set_option linter.all false
set_option maxRecDepth 100000
set_option maxHeartbeats 4000000
namespace Ec
open PySem PySem.Spec PyProof.Rows L2
def TxtG (Fx : Hp → V → Prop) (X : Cx) (e : Expr) (n : Nat) : Prop := ∃ t, PE X e t ∧ ∀ σ H Q v, σ[1]? = some (some v) → Fx H v → (∀ m : Str, m.length ≤ n → Q (.str m) H) → t σ H Q
inductive PartsG (Fx : Hp → V → Prop) (X : Cx) : List Expr → Nat → Prop
  | nil : PartsG Fx X [] 0
  | cons {e : Expr} {es : List Expr} {n m : Nat} (h : TxtG Fx X e n) (r : PartsG Fx X es m) : PartsG Fx X (e :: es) (n + m)
theorem PartsG.run {Fx : Hp → V → Prop} {X : Cx} {es : List Expr} {n : Nat} (h : PartsG Fx X es n) : ∃ ts, PJ X es ts ∧ ∀ (acc : Str) σ H (Q : Str → Hp → Prop) v, σ[1]? = some (some v) → Fx H v → acc.length + n ≤ sizeLine → (∀ out, Q out H) → tJs ts acc σ H Q := by
  induction h with
  | nil => exact ⟨[], .nil, fun acc σ H Q v _ _ _ q => q acc⟩
  | @cons e es n m h r ih =>
    obtain ⟨ts, h1, h2⟩ := ih
    obtain ⟨t, g1, g2⟩ := h
    refine ⟨t :: ts, .cons g1 h1, fun acc σ H Q v e1 e2 hz q => g2 σ H _ v e1 e2 fun y hy => ⟨y, rfl, ?_, h2 _ σ H Q v e1 e2 ?_ q⟩⟩
    · rw [strLen_append]
      omega
    · rw [strLen_append]
      omega
section
variable {X : Cx} {W : WX} {er : ErP} {δ : Dl} {μ : Cells} {e : Expr} {pos p pos' : Pos} {D : Dn}
end
end Ec
set_option Elab.async false
set_option linter.all false
set_option maxRecDepth 100000
set_option maxHeartbeats 4000000
namespace Ec
open PySem PySem.Spec PyProof.Rows L2
section
variable {prog : Program} {w : World} {A : Around} {E : Value → Shared → Prop} {s : Shared}
end
section
variable {X : Cx} {δ : Dl} {μ : Cells} {o : Expr} {pos p2 : Pos}
end
end Ec
set_option Elab.async false
set_option linter.all false
set_option maxRecDepth 100000
set_option maxHeartbeats 4000000
namespace Ec
open PySem PySem.Spec PyProof.Rows L2
section
variable {K : PySem.W.Frag}
theorem dq_p {F : Hp} {v : V} {p : Addr} (h : Dq K F v (ptr p)) : v = .ref p := by
  generalize e : ptr p = d at h
  cases h with
  | d h =>
    subst e
    cases h
  | p c =>
    unfold ptr at e
    injection e with e
    injection e with e _
    injection e with e _
    injection e with e
    rw [Int.ofNat.inj e]
  | z h =>
    unfold ptr zd at e
    injection e with e
    injection e with e _
    injection e with _ e
    cases e
  | e h g o =>
    unfold ptr exI at e
    injection e with e
    injection e with e _
    injection e with e _
    cases e
  | q h n =>
    unfold ptr ptr2 at e
    injection e with e
    injection e with e _
    injection e with _ e
    cases e
end
section
variable {X : Cx} {δ : Dl} {μ : Cells} {e o : Expr} {Q : Vd → Cells → Prop} {D : Dn} {pos apos cpos : Pos}
end
section
variable {K : PySem.W.Frag} {μ : Cells} {Q : Vd → Cells → Prop}
end
end Ec
set_option Elab.async false
set_option linter.all false
set_option maxRecDepth 100000
set_option maxHeartbeats 4000000
namespace PySem.HandSPX
open PySem PySem.Spec PyProof.Rows
section
variable {M : Model} {A : Around} {E : Value → Shared → Prop} {hp : Heap} {g : Array GenState} {d : Drawn} {t : Nat} {os : OsState}
variable {nm q : Str} {C N : Addr} {bs bm bmB : List Value} {hdct : Bool} {sn : List Str} {sub : List Value} {ab : Bool} {col : Option Bool} {dd : Option Addr} {k0 k1 k2 k3 k5 : Option Value} {B newId initId : String}
end
section
variable {prog : Program} {w : World} {A : Around} {E : Value → Shared → Prop} {R : Result → Shared → Prop} {hp : Heap} {g : Array GenState} {d : Drawn} {t : Nat} {os : OsState}
variable {nm q : Str} {C N : Addr} {bs bm bmB : List Value} {hdct : Bool} {sn : List Str} {sub : List Value} {ab : Bool} {col : Option Bool} {dd : Option Addr} {k0 k1 k2 k3 k5 : Option Value} {B newId initId : String}
end
end PySem.HandSPX
namespace Ec
open PySem PySem.Spec PyProof.Rows L2
section
variable {X : Cx} {B newId initId : String} {bmB : List Value} {x f : Str} {e : Expr} {ta : TA} {C fI : Addr} {k : Nat} {fd : FuncData} {ps : List Str} {Fx : Hp → V → Prop} {p pos : Pos}
end
end Ec
set_option Elab.async false
set_option linter.all false
set_option maxRecDepth 100000
set_option maxHeartbeats 4000000
namespace Ec
open PySem PySem.Spec PyProof.Rows L2 RZ
section
variable {X : Cx} {P : Program} {w : World} {K : PySem.W.Frag} {mg : Str → Option Value} {base : Heap} {k : Nat} {x f : Str} {C : Addr} {G : PyData → Prop} {e : Expr} {p pos kp : Pos} {δ : Dl} {μ : Cells} {Q : Vd → Cells → Prop}
end
inductive Qk : PyData → Vd → Prop
  | d {d : PyData} (h : isP d = false) : Qk d (.d d)
  | p (p : Addr) : Qk (ptr p) (.a p)
  | e (p C : Addr) (f : Str) (x : PyData) : Qk (exI p C f x) (.e p C f x)
theorem dq_e {K : PySem.W.Frag} {F : Hp} {v : V} {p C : Addr} {f : Str} {x : PyData} (h : Dq K F v (exI p C f x)) : VOk K F (.e p C f x) v := by
  generalize e : exI p C f x = d at h
  cases h with
  | d h =>
    subst e
    cases h
  | p c =>
    unfold exI ptr at e
    injection e with e
    injection e with e _
    injection e with e _
    cases e
  | z h =>
    unfold exI zd at e
    injection e with e
    injection e with e _
    injection e with e _
    cases e
  | q h n =>
    unfold exI ptr2 at e
    injection e with e
    injection e with e _
    injection e with e _
    cases e
  | e h g o =>
    unfold exI at e
    injection e with e
    injection e with e e2
    injection e with e3 e4
    injection e3 with e3
    injection e2 with e2 _
    injection e2 with e5 e6
    injection e5 with e5
    injection e6 with e6
    have e5 := Int.ofNat.inj e5
    have e6 := Int.ofNat.inj e6
    subst e3 e4 e5 e6
    exact ⟨rfl, _, _, h, g, o⟩
theorem Qk.ok {K : PySem.W.Frag} {F : Hp} {d : PyData} {x : Vd} {v : V} (k : Qk d x) (h : Dq K F v d) : VOk K F x v := by
  cases k with
  | d e => exact h.to e
  | p p => exact dq_p h
  | e p C f x => exact dq_e h
abbrev Qks : List PyData → List Vd → Prop := Paired Qk
theorem Qks.ok {K : PySem.W.Frag} {F : Hp} : ∀ {ds : List PyData} {xs : List Vd} {vs : List V}, Qks ds xs → DqAll K F vs ds → VAll K F xs vs
  | _, _, _, .nil, h => by
    cases h
    exact .nil
  | _, _, _, .cons k ks, h => by
    cases h with
    | cons h1 h2 => exact .cons (k.ok h1) (Qks.ok ks h2)
section
variable {K : PySem.W.Frag} {μ : Cells} {Q : Vd → Cells → Prop} {X : Cx} {δ : Dl} {D : Dn}
theorem wb_frzM {p : Addr} {ds : List PyData} {sts : List Stmt} (i j : Nat) (hi : μ[i]? = some (p, (ds : Cont))) (hj : δ[j]? = some (some (.a p))) (h : WB X sts (δ.set j (some (.m p false ds))) (μ.eraseIdx i) D) : WB X sts δ μ D := fun F H σ R De b => by
  have pm : μ.Perm ((p, (ds : Cont)) :: μ.eraseIdx i) := by
    obtain ⟨hl, e⟩ := List.getElem?_eq_some_iff.mp hi
    rw [← e]
    exact perm_erase hl
  have R1 := R.perm pm
  obtain ⟨fp, vs, hp, hd⟩ := R1.m.cel p ds List.mem_cons_self
  obtain ⟨out, nd⟩ := List.nodup_cons.mp R1.m.nd
  have sf : Same F (upd F p (.lst vs)) := same_new fp
  have m2 : RpM X.K (upd F p (.lst vs)) H (μ.eraseIdx i) := ⟨fun b x q => by
      by_cases hb : b = p
      · subst hb
        rw [upd_same] at q
        rw [hp]
        exact q
      · rw [upd_ne hb] at q
        exact R1.m.ex b x q, nd, fun b es m => by
      obtain ⟨f', g⟩ := R1.m.cel b es (List.mem_cons_of_mem _ m)
      have nb : b ≠ p := fun z => out (z ▸ List.mem_map.mpr ⟨_, m, rfl⟩)
      exact ⟨by rw [upd_ne nb]; exact f', g.to sf fun _ e => e⟩⟩
  have w : Fw (ks ((p, (ds : Cont)) :: μ.eraseIdx i)) (ks (μ.eraseIdx i)) F H (upd F p (.lst vs)) H := ⟨sf, fun _ _ e _ => e, fun b f hb nb => by
      rw [upd_ne]
      · exact f
      · intro z
        subst z
        exact nb List.mem_cons_self, fun b hb => .inl (List.mem_cons_of_mem _ hb)⟩
  obtain ⟨v, e1, e2⟩ := R.env j _ hj
  have ev : v = .ref p := e2
  subst ev
  have R2 : Rp X.K (upd F p (.lst vs)) H σ (δ.set j (some (.m p false ds))) (μ.eraseIdx i) := by
    have := (R1.to sf m2).put (x := .m p false ds) (v := .ref p) j ⟨rfl, vs, upd_same, dqs_up sf _ _ hd⟩
    have es : σ.set j (some (.ref p)) = σ := by
      refine List.ext_getElem? fun k => ?_
      by_cases hk : j = k
      · subst hk
        rw [e1, List.getElem?_set_self (List.getElem?_eq_some_iff.mp e1).1]
      · rw [List.getElem?_set_ne hk]
    rw [es] at this
    exact this
  exact h _ H σ R2 De (b.next (w.sub (fun x m => (pm.map Prod.fst).mem_iff.mpr m) fun x m => .inl m))
theorem ow_ixM {p : Addr} {b : Bool} {i : Int} {d : PyData} {x : Vd} {ds : List PyData} (ha : atI ds i = some d) (k : Qk d x) (h : Q x μ) : OpW K (rIx K) (.m p b ds) (.d (.int i)) μ Q := fun F H v u m o1 o2 QV c => by
  have get : ∀ {vs : List V}, DqAll K F vs ds → ∃ w, atI vs i = some w ∧ Dq K F w d := fun {vs} hd => by
    unfold atI at ha ⊢
    rw [dqs_len hd]
    cases q : ixN ds.length i with
    | none =>
      rw [q] at ha
      cases ha
    | some j =>
      rw [q] at ha
      exact dqs_get hd ha
  cases b with
  | true =>
    obtain ⟨rfl, vs, o, e, n, hd⟩ := o1
    obtain ⟨w, hw, ow⟩ := get hd
    exact .inr (.inl ⟨p, vs, i, w, rfl, dp_int o2, .inl (.inr ⟨_, m.ex _ _ e⟩), hw, c x w F H μ Fw.refl m (k.ok ow) h⟩)
  | false =>
    obtain ⟨rfl, vs, e, hd⟩ := o1
    obtain ⟨w, hw, ow⟩ := get hd
    exact .inl ⟨p, vs, i, w, rfl, dp_int o2, .of (m.ex _ _ e), hw, c x w F H μ Fw.refl m (k.ok ow) h⟩
variable {is : List Nat} {Gq : Dl → Cells → Prop} {pos p2 : Pos} {e a b tg : Expr}
end
end Ec
set_option Elab.async false
set_option linter.all false
set_option maxRecDepth 100000
set_option maxHeartbeats 4000000
namespace Ec
open PySem PySem.Spec PyProof.Rows L2
section
variable {P : Program} {w : World} {A : Around} {Er : Value → Shared → Prop} {K : PySem.W.Frag} {x C dx f : Addr}
theorem dec_int (b : Int) (u : Tok) : Meets (Builtin.«int.__eq__» ⟨[.int b u, .ref x], []⟩) (fun _ R s => s.heap.get? x = some (PySem.W.instObj C dx) ∧ R (.ok (.ret .notImplemented)) s) :=
  .of_wp fun prog w A R s h => by obtain ⟨hp, g, d, tk, os⟩ := s; obtain ⟨hl, h⟩ := h; wp_walk using PySem.AutoSeq1.wpAny_loadPart' hl, wpAny_load hl; exact ⟨_, rfl, h⟩
theorem dec_str (b : Str) (u : Tok) : Meets (Builtin.«str.__eq__» ⟨[.str b u, .ref x], []⟩) (fun _ R s => s.heap.get? x = some (PySem.W.instObj C dx) ∧ R (.ok (.ret .notImplemented)) s) :=
  .of_wp fun prog w A R s h => by obtain ⟨hp, g, d, tk, os⟩ := s; obtain ⟨hl, h⟩ := h; wp_walk using PySem.AutoSeq1.wpAny_loadPart' hl, wpAny_load hl; exact ⟨_, rfl, h⟩
theorem dec_list {l : Addr} {items : Array Value} {n : Nat} {dd : Option Addr} {sl : Array (Option Value)} {st : Shared} {Q : Value → Shared → Prop} (hl : st.heap.get? l = some { cls := .type "list", dict := dd, data := .seq items n, slots := sl })
    (hs : PySem.W.Looks (model P w) st.heap (isInstance (.ref x) (.type "list")) false) (q : Q .notImplemented st) : wpAny (model P w) A (call (.builtin "list.__eq__") [.ref l, .ref x]) Q Er st := by
  have ht : st.TypeIs (.ref l) "list" := ⟨_, hl, rfl⟩
  refine wpAny_call (codeAny_call_builtin PySem.F.slot_list_eq.plain PySem.F.entry_list_eq (PySem.F.slot_list_eq.check _ _ _ _ _ _ _ _ ht (PySem.F.args_list_eq_2 _ _) ?_))
  unfold Builtin.«list.__eq__»
  repeat (first | with_reducible refine PySem.AutoSeq1.wpAny_loadPart' hl ?_ | (refine wpAny_bind (m := isInstance (.ref x) (.type "list")) (hs.here ?_)) | wp_step)
  exact q
theorem dec_tup {l : Addr} {items : Array Value} {n : Nat} {dd : Option Addr} {sl : Array (Option Value)} {st : Shared} {Q : Value → Shared → Prop} (hl : st.heap.get? l = some { cls := .type "tuple", dict := dd, data := .seq items n, slots := sl })
    (hs : PySem.W.Looks (model P w) st.heap (isInstance (.ref x) (.type "tuple")) false) (q : Q .notImplemented st) : wpAny (model P w) A (call (.builtin "tuple.__eq__") [.ref l, .ref x]) Q Er st := by
  have ht : st.TypeIs (.ref l) "tuple" := ⟨_, hl, rfl⟩
  refine wpAny_call (codeAny_call_builtin PySem.F.slot_tuple_eq.plain PySem.F.entry_tuple_eq (PySem.F.slot_tuple_eq.check _ _ _ _ _ _ _ _ ht (PySem.F.args_tuple_eq_2 _ _) ?_))
  unfold Builtin.«tuple.__eq__»
  repeat (first | with_reducible refine PySem.AutoSeq1.wpAny_loadPart' hl ?_ | (refine wpAny_bind (m := isInstance (.ref x) (.type "tuple")) (hs.here ?_)) | wp_step)
  exact q
theorem rc_right {T id : String} {a : Value} {L : Addr} {m : Str → Option Value} {h₀ : Heap} {st : Shared} {ox : Obj} {od : Option Obj} {Q : Value → Shared → Prop} (ha : st.TypeIs a T) (hu : A.units < cLine) (fr : Fr h₀ L st.heap m) (kin₀ : K.In h₀) (J : PySem.W.InstAt st.heap x ox C od)
    (hT : PySem.W.mroIn K C (.type T) = some false) (h1 : Slot T "__eq__" id) (hc : ∀ Q' : Value → Shared → Prop, Q' .notImplemented st → wpAny (model P w) A (call (.builtin id) [a, .ref x]) Q' Er st)
    (he : PySem.W.findIn K (.ref C) "__eq__" = some (some (.ref f))) (hfn : PySem.W.isFn K (.ref f) = true) (k : wpAny (model P w) A (call (.ref f) [.ref x, a]) (PySem.W.CmpBack Q) Er st) : wpAny (model P w) A (richCompare .Eq a (.ref x)) Q Er st := by
  have kin := kin₀.keeps fr.keep
  have two : wpAny (model P w) A (tryCompare (.ref x) "__eq__" a) (fun r s' => ∃ v, r = some v ∧ Q v s') Er st := by
    unfold tryCompare
    refine wpAny_bind (PySem.W.ifBound_K kin J he hfn (wpAny_mono k (fun v s' hv => ?_) fun _ _ e => e))
    cases v <;> first | exact hv.elim | exact wpAny_pure ⟨_, rfl, hv⟩
  unfold richCompare
  simp only [ha.oneThing_none]
  refine wpAny_holding (wpAny_bind (wpAny_cRoomFor hu ?_))
  rw [show cmpInfo CmpOp.Eq = ("==", ("__eq__" : Str), ("__eq__" : Str)) from rfl]
  dsimp only
  refine wpAny_bind (wpAny_typeOf ha (wpAny_bind (J.type.here ?_)))
  rw [show (Value.type T != Value.ref C) = true from rfl]
  simp only [if_true]
  refine wpAny_bind ((PySem.W.looks_mroIn kin hT).here ?_)
  simp only [Bool.false_eq_true, if_false, Bool.not_false, if_true]
  refine wpAny_bind (m := tryCompare a _ (.ref x)) (wpAny_tryCompare_declines ha h1 (hc _ ⟨rfl, ?_⟩))
  refine wpAny_bind (m := tryCompare (.ref x) _ a) (wpAny_mono two (fun r s' hr => ?_) fun _ _ e => e)
  obtain ⟨v, rfl, q⟩ := hr
  exact wpAny_pure q
theorem ne_entryD {b : Value} {ox : Obj} {od : Option Obj} {st : Shared} {R : Fin → Shared → Prop} (kin : K.In st.heap) (J : PySem.W.InstAt st.heap x ox C od) (he : PySem.W.findIn K (.ref C) "__eq__" = some (some (.ref f))) (hfn : PySem.W.isFn K (.ref f) = true) (hu : A.units < cLine)
    (k : wpAny (model P w) A (call (.ref f) [.ref x, b]) (fun v s' => ∃ b : Bool, v = .bool b ∧ R (.done (.ret (.bool (!b)))) s') Er st) : wpAny (model P w) A (Builtin.«object.__ne__» ⟨[.ref x, b], []⟩) R Er st := by
  unfold Builtin.«object.__ne__»
  repeat (first
    | with_reducible refine wpAny_cRoomFor hu ?_
    | (refine wpAny_bind (m := callSpecialIfBound? (.ref x) (Str.ofString "__eq__") [b]) (PySem.W.ifBound_K kin J he hfn (wpAny_mono k (fun v s' hv => by
        obtain ⟨b, rfl, q⟩ := hv
        repeat (first | exact q | exact wpAny_pure q | exact wpAny_truthy_bool q | (refine wpAny_bind (m := truthy (.bool _)) (wpAny_truthy_bool ?_)) | wp_step)) fun _ _ e => e)))
    | wp_step)
theorem ne_KD {b : Value} {T : String} {ox : Obj} {od : Option Obj} {st : Shared} {L : Addr} {m : Str → Option Value} {h₀ : Heap} {R : Value → Shared → Prop} (hu : A.units + 1 < cLine) (fr : Fr h₀ L st.heap m) (kin₀ : K.In h₀) (J : PySem.W.InstAt st.heap x ox C od) (hb : st.TypeIs b T) (hT : PySem.W.subIn K (.type T) (.ref C) = some false)
    (hn : PySem.W.findIn K (.ref C) "__ne__" = some (some (.builtin "object.__ne__"))) (hm : PySem.W.mroIn K C (.type "object") = some true) (he : PySem.W.findIn K (.ref C) "__eq__" = some (some (.ref f))) (hfn : PySem.W.isFn K (.ref f) = true)
    (k : wpAny (model P w) A.in1 (call (.ref f) [.ref x, b]) (fun v s' => ∃ b : Bool, v = .bool b ∧ R (.bool (!b)) s') Er st) : wpAny (model P w) A (richCompare .NotEq (.ref x) b) R Er st := by
  have kin := kin₀.keeps fr.keep
  have one : wpAny (model P w) A (tryCompare (.ref x) "__ne__" b) (fun r s' => ∃ v, r = some v ∧ R v s') Er st := by
    unfold tryCompare
    refine wpAny_bind (bound_blt kin J hn ne_slot.bind ?_)
    refine wpAny_call (codeAny_call_builtin ne_slot.plain F.cmpEntry_ne (PySem.W.check_slot F.cmpKind_ne F.cmpSplit_ne (J.type.andThen (PySem.W.looks_mroIn kin hm)) (F.cmpArgs_ne _ _) ?_))
    refine ne_entryD kin J he hfn (by show A.units + 1 < cLine; exact hu) (wpAny_mono k (fun v s' hv => ?_) fun _ _ e => e)
    obtain ⟨b, rfl, q⟩ := hv
    exact ⟨b, rfl, wpAny_pure ⟨_, rfl, q⟩⟩
  unfold richCompare
  simp only [oneThing_ref]
  refine wpAny_holding (wpAny_bind (wpAny_cRoomFor (Nat.lt_of_succ_lt hu) ?_))
  rw [cmpInfo_NotEq]
  dsimp only
  refine wpAny_bind (J.type.here (wpAny_bind (wpAny_typeOf hb ?_)))
  rw [show (Value.ref C != Value.type T) = true from rfl]
  simp only [if_true]
  refine wpAny_bind ((PySem.W.looks_subIn kin hT).here ?_)
  simp only [Bool.false_eq_true, if_false]
  refine wpAny_bind (wpAny_mono one (fun r s' hr => ?_) fun _ _ e => e)
  obtain ⟨v, rfl, q⟩ := hr
  first | exact wpAny_pure q | exact wpAny_pure (wpAny_pure q)
end
structure OKi (K : PySem.W.Frag) (C : Addr) : Prop where
  mo : ∀ T ∈ ["NoneType", "int", "str", "list", "tuple"], PySem.W.mroIn K C (.type T) = some false
  ty : PySem.W.typeIn K (.ref C) = some (.type "type")
  cl : (PySem.W.clsIn K C).isSome = true
def kinD : PyData → Bool
  | .bool _ => false
  | .dict _ => false
  | _ => true
theorem sub_kin {K : PySem.W.Frag} {C : Addr} {T : String} (h : T ∈ ["NoneType", "int", "str", "list", "tuple"]) : PySem.W.subIn K (.type T) (.ref C) = some false := by
  simp only [List.mem_cons, List.not_mem_nil, or_false] at h
  rcases h with rfl | rfl | rfl | rfl | rfl <;> rfl
theorem kin_of {X : Cx} {pins : List (Addr × Obj)} {σ : L2.St} {H : Hp} {s : Shared} {d : PyData} {y : V} {u : Value} {x C dx : Addr} {ox : Obj} {od : Option Obj} (I : Inv X pins σ H s) (hd : De X.K H y d) (ry : RelV y u) (hk : kinD d = true) (o : OKi X.K C) (hx : s.heap.get? x = some (PySem.W.instObj C dx)) (J : PySem.W.InstAt s.heap x ox C od) :
    ∃ T id, T ∈ ["NoneType", "int", "str", "list", "tuple"] ∧ s.TypeIs u T ∧ (∀ M : Model, PySem.W.Looks M s.heap (typeOf u) (.type T)) ∧ Slot T "__eq__" id ∧ ∀ (A : Around) (Er : Value → Shared → Prop) (Q' : Value → Shared → Prop), Q' .notImplemented s → wpAny (model X.prog X.w) A (call (.builtin id) [u, .ref x]) Q' Er s := by
  cases hd with
  | non =>
    cases (show u = Value.none from ry)
    exact ⟨"NoneType", _, by simp, rfl, fun M => .of_pure rfl, PySem.F.slot_NoneType_eq, fun A Er Q' q => call_gives PySem.F.slot_NoneType_eq rfl PySem.F.entry_NoneType_eq (PySem.F.args_NoneType_eq_2 _ _) (PySem.SeqAt.NoneType___eq___none_ref_0 x) q⟩
  | bl b => cases hk
  | int i =>
    obtain ⟨t, rfl⟩ := (show ∃ t, u = Value.int i t from ry)
    exact ⟨"int", _, by simp, typeIs_int s i t, fun M => .of_pure rfl, PySem.F.slot_int_eq, fun A Er Q' q => call_meets PySem.F.slot_int_eq (typeIs_int s i t) PySem.F.entry_int_eq (PySem.F.args_int_eq_2 _ _) (dec_int (C := C) (dx := dx) i t) ⟨hx, q⟩⟩
  | str z =>
    obtain ⟨t, rfl⟩ := (show ∃ t, u = Value.str z t from ry)
    exact ⟨"str", _, by simp, typeIs_str s z t, fun M => .of_pure rfl, PySem.F.slot_str_eq, fun A Er Q' q => call_meets PySem.F.slot_str_eq (typeIs_str s z t) PySem.F.entry_str_eq (PySem.F.args_str_eq_2 _ _) (dec_str (C := C) (dx := dx) z t) ⟨hx, q⟩⟩
  | lst h1 h2 =>
    rename_i a vs ds
    cases (show u = Value.ref a from ry)
    obtain ⟨z, its, n, r, hl, e⟩ := I.lstM h1
    exact ⟨"list", _, by simp, ⟨_, e, rfl⟩, fun M => (PySem.W.Looks.ld e).andThen .now, PySem.F.slot_list_eq, fun A Er Q' q => dec_list e (J.type.andThen (PySem.W.looks_mroIn I.kIn (o.mo "list" (by simp)))) q⟩
  | tup h1 h2 h3 =>
    rename_i a vs ds ob
    cases (show u = Value.ref a from ry)
    obtain ⟨its, rv, ⟨o2, e, hc, n, hdt⟩, hz⟩ := I.tuple (.inl (.inr ⟨ob, h1⟩))
    obtain ⟨oc, odi, oda, osl⟩ := o2
    simp only at hc hdt
    subst hc hdt
    exact ⟨"tuple", _, by simp, ⟨_, e, rfl⟩, fun M => (PySem.W.Looks.ld e).andThen .now, PySem.F.slot_tuple_eq, fun A Er Q' q => dec_tup e (J.type.andThen (PySem.W.looks_mroIn I.kIn (o.mo "tuple" (by simp)))) q⟩
def rEqOD (K : PySem.W.Frag) (C : Addr) (sp : Sp) : R2 := fun x y H Q => ∃ (a dx : Addr) (fs : List (Str × V)) (d : PyData), x = .ref a ∧ H a = some (.ins C dx fs) ∧ De K H y d ∧ kinD d = true ∧ sp [.ref a, y] H (fun v H2 => ∃ k : Bool, v = .bl k ∧ Q (.bl k) H2) E0
def rEqDO (K : PySem.W.Frag) (C : Addr) (sp : Sp) : R2 := fun y x H Q => ∃ (a dx : Addr) (fs : List (Str × V)) (d : PyData), x = .ref a ∧ H a = some (.ins C dx fs) ∧ De K H y d ∧ kinD d = true ∧ sp [.ref a, y] H (fun v H2 => ∃ k : Bool, v = .bl k ∧ Q (.bl k) H2) E0
def rNeOD (K : PySem.W.Frag) (C : Addr) (sp : Sp) : R2 := fun x y H Q => ∃ (a dx : Addr) (fs : List (Str × V)) (d : PyData), x = .ref a ∧ H a = some (.ins C dx fs) ∧ De K H y d ∧ kinD d = true ∧ sp [.ref a, y] H (fun v H2 => ∃ k : Bool, v = .bl k ∧ Q (.bl (!k)) H2) E0
section
variable {X : Cx} {P : Program} {w : World} {K : PySem.W.Frag} {mg : Str → Option Value} {base : Heap} {k : Nat} {C : Addr} {T : TrD}
theorem op_eqOD (c : CalM P w K mg base k C "__eq__" T) (o : OKi K C) (hr : Room k X.A) (hgd : X.A.guards = some []) (hX : (X.prog, X.w, X.K, X.mg, X.base) = (P, w, K, mg, base)) : OpR X (compareOp .Eq) (rEqOD K C (spW K T)) := by
  obtain ⟨f, fd, ps, ok, hm, hb⟩ := c
  cases hX
  intro pins s σ H x y v u Q I rx ry h
  obtain ⟨a, dx, fs, d, rfl, ea, hd, hk, h⟩ := h
  obtain rfl : v = Value.ref a := rx
  obtain ⟨m, hfr⟩ := I.fr
  obtain ⟨mA, O, _, _, _, _⟩ := ins_get I.hok ea
  obtain ⟨od, J, _⟩ := O.look
  obtain ⟨Tn, id, hT, ht, lk, _, _⟩ := kin_of I hd ry hk o O.obj J
  have hb2 := hb s [.ref a, u] I.kIn (by rw [List.append_nil]; exact ok.len _ _ _ _ h)
  rw [List.append_nil] at hb2
  show wpAny _ _ (richCompare .Eq (.ref a) u) _ _ _
  refine PySem.W.cmp_K (tb := .type Tn) (Nat.lt_of_le_of_lt (Nat.le_add_right _ 64) hr.units) hfr I.ok.mod.kin J (lk _) (by unfold PySem.W.notFirst; rw [sub_kin hT]; simp) hm.at_ hm.fn (wpAny_mono (run_g (us := [.ref a, u]) (vs := [.ref a, y]) ok hr hgd hb2 (fun pins H s e s' I h => pass0 pins σ H s e s' I h) I (.cons rfl (.cons ry .nil)) h) (fun v s' hv => ?_) fun _ _ z => z)
  obtain ⟨y2, H2, I2, ry2, n, rfl, q⟩ := hv
  obtain rfl : v = Value.bool n := ry2
  exact ⟨.bl n, H2, I2, rfl, q⟩
theorem op_eqDO (c : CalM P w K mg base k C "__eq__" T) (o : OKi K C) (hr : Room k X.A) (hgd : X.A.guards = some []) (hX : (X.prog, X.w, X.K, X.mg, X.base) = (P, w, K, mg, base)) : OpR X (compareOp .Eq) (rEqDO K C (spW K T)) := by
  obtain ⟨f, fd, ps, ok, hm, hb⟩ := c
  cases hX
  intro pins s σ H y x u v Q I ry rx h
  obtain ⟨a, dx, fs, d, rfl, ea, hd, hk, h⟩ := h
  obtain rfl : v = Value.ref a := rx
  obtain ⟨m, hfr⟩ := I.fr
  obtain ⟨mA, O, _, _, _, _⟩ := ins_get I.hok ea
  obtain ⟨od, J, _⟩ := O.look
  obtain ⟨Tn, id, hT, ht, lk, sl, dec⟩ := kin_of I hd ry hk o O.obj J
  have hb2 := hb s [.ref a, u] I.kIn (by rw [List.append_nil]; exact ok.len _ _ _ _ h)
  rw [List.append_nil] at hb2
  show wpAny _ _ (richCompare .Eq u (.ref a)) _ _ _
  refine rc_right ht (Nat.lt_of_le_of_lt (Nat.le_add_right _ 64) hr.units) hfr I.ok.mod.kin J (o.mo Tn hT) sl (dec _ _) hm.at_ hm.fn (wpAny_mono (run_g (us := [.ref a, u]) (vs := [.ref a, y]) ok hr hgd hb2 (fun pins H s e s' I h => pass0 pins σ H s e s' I h) I (.cons rfl (.cons ry .nil)) h) (fun v s' hv => ?_) fun _ _ z => z)
  obtain ⟨y2, H2, I2, ry2, n, rfl, q⟩ := hv
  obtain rfl : v = Value.bool n := ry2
  exact ⟨.bl n, H2, I2, rfl, q⟩
theorem op_neOD (c : CalM P w K mg base k C "__eq__" T) (o : OKi K C) (o2 : ONe K C) (hr : Room (k + 1) X.A) (hgd : X.A.guards = some []) (hX : (X.prog, X.w, X.K, X.mg, X.base) = (P, w, K, mg, base)) : OpR X (compareOp .NotEq) (rNeOD K C (spW K T)) := by
  obtain ⟨f, fd, ps, ok, hm, hb⟩ := c
  cases hX
  intro pins s σ H x y v u Q I rx ry h
  obtain ⟨a, dx, fs, d, rfl, ea, hd, hk, h⟩ := h
  obtain rfl : v = Value.ref a := rx
  obtain ⟨m, hfr⟩ := I.fr
  obtain ⟨mA, O, _, _, _, _⟩ := ins_get I.hok ea
  obtain ⟨od, J, _⟩ := O.look
  obtain ⟨Tn, id, hT, ht, lk, _, _⟩ := kin_of I hd ry hk o O.obj J
  show wpAny _ _ (richCompare .NotEq (.ref a) u) _ _ _
  refine ne_KD (Nat.lt_of_le_of_lt (Nat.add_le_add_left (by decide : 1 ≤ 64) _) hr.units) hfr I.ok.mod.kin J ht (sub_kin hT) o2.ne o2.mo hm.at_ hm.fn (wpAny_mono (run_in1 (us := [.ref a, u]) (vs := [.ref a, y]) ok hr hgd hb I (.cons rfl (.cons ry .nil)) h (E := X.xe)) (fun v s' hv => ?_) fun _ _ z => z)
  obtain ⟨y2, H2, I2, ry2, n, rfl, q⟩ := hv
  obtain rfl : v = Value.bool n := ry2
  exact ⟨n, rfl, .bl (!n), H2, I2, rfl, q⟩
theorem kit_OD {T : String} (o : OKi K C) (h : T ∈ tys) : PySem.W.kitOne K (.type T) (.ref C) = some false := by
  unfold PySem.W.kitOne PySem.W.kitCls
  rw [if_neg (by simp)]
  dsimp only
  rw [o.cl, o.ty]
  simp only [Bool.true_and, beq_self_eq_true, if_true]
  unfold tys at h
  simp only [List.mem_cons, List.not_mem_nil, or_false] at h
  rcases h with rfl | rfl | rfl | rfl | rfl | rfl <;> rfl
theorem we_isOD {X : Cx} {δ : Dl} {μ : Cells} {Q : Vd → Cells → Prop} {K : PySem.W.Frag} {mg : Str → Option Value} {e c : Expr} {p pos : Pos} {C : Addr} (B : Bl mg) (hg : Gl X "isinstance") (ok : OKi K C) (hcl : ClsN X c (.ref C) (.ref C))
    (h : WE X e δ μ fun x μ1 => ∃ d, x = .d d ∧ Q (.d (.bool false)) μ1) (hK : (X.K, X.mg) = (K, mg) := by rfl)
    (s1 : starEach [e, c] X.env = (false, eval e X.env) :: starEach [c] X.env := by rfl) (s3 : starEach [c] X.env = (false, eval c X.env) :: starEach [] X.env := by rfl) (s2 : (backTo pos (starEach [c] X.env)).any (·.1) = false := by rfl) :
    WE X (.Call (.Name "isinstance" p) [e, c] [] pos) δ μ Q := fun F H σ R QV kk => by
  cases hK
  refine toE (pe_callB call_isi hg B.isi PyProof.Rows.boot_isinstance (pa_cons (pcE X e) (pa_cons hcl.pe pa_nil s3) s1) (by decide) (by decide) s1 s2) (h F H σ R _ fun v x F1 H1 μ1 w1 R1 o1 q => ?_)
  obtain ⟨d, rfl, q⟩ := q
  obtain ⟨t1, t2⟩ := ty_dp (dp_up R1.m.ex _ _ o1)
  exact ⟨v, V.ref C, _, .ref C, false, rfl, .own C, t1, kit_OD ok t2, kk (.bl false) (.d (.bool false)) F1 H1 μ1 w1 R1 (.bl false) q⟩
theorem ow_eqOD {μ : Cells} {x y : Vd} {Q : Vd → Cells → Prop} (js : List Nat) (h : ∃ a l r fs d, x = .a a ∧ y = .d d ∧ (a, Cont.o C fs) ∈ μ ∧ kinD d = true ∧ LentOk js μ l r ∧ T [.a a, .d d] l fun z μ' => ∃ n : Bool, z = .d (.bool n) ∧ Q (.d (.bool n)) (μ' ++ r)) : OpW K (rEqOD K C (spW K T)) x y μ Q := fun F H v u m o1 o2 QV kk => by
  obtain ⟨a, l, r, fs, d, rfl, rfl, h1, hk, hj, q⟩ := h
  obtain ⟨_, dx, us, e1, _⟩ := m.cel _ _ h1
  obtain rfl : v = V.ref a := o1
  have mp := m.perm hj.perm
  refine ⟨a, dx, us, d, rfl, e1, dp_up m.ex _ _ o2, hk, F, [.a a, .d d], l, _, mp.left, .cons rfl (.cons o2 .nil), q, fun v z F2 H2 μ2 w2 m2 o3 q2 => ?_⟩
  obtain ⟨n, rfl, q2⟩ := q2
  obtain ⟨m3, w3⟩ := mp.frame w2 m2
  exact ⟨n, by cases o3; rfl, kk (.d (.bool n)) (.bl n) F2 H2 _ (w3.sub (fun x m => (hj.perm.map Prod.fst).mem_iff.mpr m) fun x m => .inl m) m3 (.bl n) q2⟩
theorem ow_eqDO {μ : Cells} {x y : Vd} {Q : Vd → Cells → Prop} (js : List Nat) (h : ∃ a l r fs d, x = .a a ∧ y = .d d ∧ (a, Cont.o C fs) ∈ μ ∧ kinD d = true ∧ LentOk js μ l r ∧ T [.a a, .d d] l fun z μ' => ∃ n : Bool, z = .d (.bool n) ∧ Q (.d (.bool n)) (μ' ++ r)) : OpW K (rEqDO K C (spW K T)) y x μ Q := fun F H v u m o1 o2 QV kk => by
  obtain ⟨a, l, r, fs, d, rfl, rfl, h1, hk, hj, q⟩ := h
  obtain ⟨_, dx, us, e1, _⟩ := m.cel _ _ h1
  obtain rfl : u = V.ref a := o2
  have mp := m.perm hj.perm
  refine ⟨a, dx, us, d, rfl, e1, dp_up m.ex _ _ o1, hk, F, [.a a, .d d], l, _, mp.left, .cons rfl (.cons o1 .nil), q, fun v z F2 H2 μ2 w2 m2 o3 q2 => ?_⟩
  obtain ⟨n, rfl, q2⟩ := q2
  obtain ⟨m3, w3⟩ := mp.frame w2 m2
  exact ⟨n, by cases o3; rfl, kk (.d (.bool n)) (.bl n) F2 H2 _ (w3.sub (fun x m => (hj.perm.map Prod.fst).mem_iff.mpr m) fun x m => .inl m) m3 (.bl n) q2⟩
theorem ow_neOD {μ : Cells} {x y : Vd} {Q : Vd → Cells → Prop} (js : List Nat) (h : ∃ a l r fs d, x = .a a ∧ y = .d d ∧ (a, Cont.o C fs) ∈ μ ∧ kinD d = true ∧ LentOk js μ l r ∧ T [.a a, .d d] l fun z μ' => ∃ n : Bool, z = .d (.bool n) ∧ Q (.d (.bool (!n))) (μ' ++ r)) : OpW K (rNeOD K C (spW K T)) x y μ Q := fun F H v u m o1 o2 QV kk => by
  obtain ⟨a, l, r, fs, d, rfl, rfl, h1, hk, hj, q⟩ := h
  obtain ⟨_, dx, us, e1, _⟩ := m.cel _ _ h1
  obtain rfl : v = V.ref a := o1
  have mp := m.perm hj.perm
  refine ⟨a, dx, us, d, rfl, e1, dp_up m.ex _ _ o2, hk, F, [.a a, .d d], l, _, mp.left, .cons rfl (.cons o2 .nil), q, fun v z F2 H2 μ2 w2 m2 o3 q2 => ?_⟩
  obtain ⟨n, rfl, q2⟩ := q2
  obtain ⟨m3, w3⟩ := mp.frame w2 m2
  exact ⟨n, by cases o3; rfl, kk (.d (.bool (!n))) (.bl (!n)) F2 H2 _ (w3.sub (fun x m => (hj.perm.map Prod.fst).mem_iff.mpr m) fun x m => .inl m) m3 (.bl (!n)) q2⟩
end
theorem oki_of {K : PySem.W.Frag} {C : Addr} (h0 : PySem.W.mroIn K C (.type "NoneType") = some false) (h1 : PySem.W.mroIn K C (.type "int") = some false) (h2 : PySem.W.mroIn K C (.type "str") = some false) (h3 : PySem.W.mroIn K C (.type "list") = some false) (h4 : PySem.W.mroIn K C (.type "tuple") = some false) :
    ∀ T ∈ ["NoneType", "int", "str", "list", "tuple"], PySem.W.mroIn K C (.type T) = some false := fun T h => by
  simp only [List.mem_cons, List.not_mem_nil, or_false] at h
  rcases h with rfl | rfl | rfl | rfl | rfl <;> assumption
theorem ocd_of {K : PySem.W.Frag} {C : Addr} {b : Value} {r : Bool} (h : PySem.W.mroIn K C b = some r) : (PySem.W.clsIn K C).isSome = true := by
  unfold PySem.W.mroIn at h
  obtain ⟨cd, a, _⟩ := Option.bind_eq_some_iff.mp h
  rw [a]
  rfl
end Ec
set_option Elab.async false
set_option linter.all false
set_option maxRecDepth 100000
set_option maxHeartbeats 4000000
namespace Ec
open PySem PySem.Spec PyProof.Rows L2 RZ
def ivP : PyData → Vd
  | .dict [(.int p, .none)] => .a p.toNat
  | d => .d d
theorem ivP_d {d : PyData} (h : isP d = false) : ivP d = .d d := by
  cases d <;> first | rfl | cases h
def okP (d : PyData) : Prop := isP d = false ∨ ∃ p, d = ptr p
theorem ivP_ok {K : PySem.W.Frag} {F : Hp} {v : V} {d : PyData} (k : okP d) (h : Dq K F v d) : VOk K F (ivP d) v := by
  rcases k with k | ⟨p, rfl⟩
  · rw [ivP_d k]
    exact h.to k
  · exact dq_p h
section
variable {X : Cx} {δ : Dl} {μ : Cells} {Q : Vd → Cells → Prop} {e : Expr} {pos p p2 : Pos}
def WIp (X : Cx) (tg iter : Expr) (δ : Dl) (μ : Cells) (Q : List PyData → Cells → Prop) : Prop := ∀ F H σ, Rp X.K F H σ δ μ → ∀ R : It → Hp → Prop,
  (∀ J ds F' H' μ', Fw (ks μ) (ks μ') F H F' H' → Rp X.K F' H' σ δ μ' → Wk X.K J F' ivP ds → Q ds μ' → R J H') → cI X tg iter σ H R
theorem wk_listP {K : PySem.W.Frag} {F0 : Hp} {a : Addr} {vs : List V} {ds : List PyData} (h : SqL K F0 a vs) (hd : DqAll K F0 vs ds) (ok : ∀ d ∈ ds, okP d) : Wk K (Itl K a) F0 ivP ds where
  go := fun i F H hi f1 f2 => ⟨vs, vs[i]'(by rw [dqs_len hd]; exact hi), f2.seq (f1.seq h), List.getElem?_eq_getElem _⟩
  yld := fun i F H x H' d hi f1 f2 y => by
    obtain ⟨rfl, y⟩ := y
    obtain ⟨v, e1, e2⟩ := dqs_get hd hi
    have : v = x := Option.some.inj (e1.symm.trans (y vs (f2.seq (f1.seq h))))
    subst this
    exact ⟨F, Same.refl F, f2, Same.refl _, fun _ z _ => z, ivP_ok (ok d (List.mem_of_getElem? hi)) (e2.up f1)⟩
  stop := fun F H f1 f2 => ⟨vs, f2.seq (f1.seq h), Nat.le_of_eq (dqs_len hd)⟩
theorem wip_m {tg : Expr} {QI : List PyData → Cells → Prop} (h : WE X e δ μ fun x μ1 => ∃ p ds, x = .m p false ds ∧ (∀ d ∈ ds, okP d) ∧ QI ds μ1) : WIp X tg e δ μ QI := fun F H σ R RV c =>
  toI (pi_seqS (pcE X e)) (h F H σ R _ fun v x F1 H1 μ1 w1 R1 o1 q => by
    obtain ⟨p, ds, rfl, ok, q⟩ := q
    obtain ⟨rfl, vs, hs, hd⟩ := o1
    exact ⟨p, vs, rfl, .inl ⟨.of (R1.m.ex _ _ hs), c _ ds F1 H1 μ1 w1 R1 (wk_listP (.of hs) hd ok) q⟩⟩)
theorem we_slM {lo hi : Option Expr} (h : WE X e δ μ fun x μ1 => WO X lo δ μ1 fun l μ2 => WO X hi δ μ2 fun u μ3 => ∃ (q : Addr) (ds : List PyData), x = .m q false ds ∧ ∀ p, Q (.m p false (cutZ ds l u)) μ3) : WE X (.Subscript e (.Slice lo hi none p2) pos) δ μ Q := fun F H σ R QV c =>
  toE (pe_slice sl_list (pcE X e) (pcO lo) (pcO hi)) (h F H σ R _ fun v x F1 H1 μ1 w1 R1 o1 q => wo_run q R1 fun l F2 H2 μ2 w2 R2 q2 => wo_run q2 R2 fun u F3 H3 μ3 w3 R3 q3 => by
    obtain ⟨qa, ds, rfl, q3⟩ := q3
    obtain ⟨rfl, vs, hs, hd⟩ := (o1.up w2.f).up w3.f
    refine ⟨_, vs, rfl, .of (R3.m.ex _ _ hs), fun l' nl => ?_⟩
    obtain ⟨m4, w4⟩ := R3.m.new (o := .lst (cutV vs l u)) nl
    exact c _ (.m l' false _) _ _ _ (((w1.trans w2).trans w3).trans w4) (R3.to w4.f m4) ⟨rfl, _, upd_same, dqs_up w4.f _ _ (dqs_cutZ hd l u)⟩ (q3 l'))
def LcM (X : Cx) (scope : Scope) (own : List (Str × Nat)) (elt tg iter : Expr) (ifs : List Expr) (δ : Dl) (μ : Cells) (Q : Vd → Cells → Prop) : Prop :=
  WIp X tg iter δ μ fun ds μ1 => ∃ I : Nat → List PyData → Cells → Prop, I 0 [] μ1 ∧ ds.length ≤ 100000 ∧ (∀ i acc μ', I i acc μ' → acc.length ≤ i) ∧
      (∀ i d acc μ', ds[i]? = some d → I i acc μ' → Blk X scope fun Y => WGo Y (own.map (·.2)) tg (ivP d) (wipeD δ (own.map (·.2))) μ' fun δ2 μ2 => Blk X scope fun Y => WTs Y ifs δ2 μ2 fun k μ3 =>
        if k = true then Blk X scope fun Y => WE Y elt δ2 μ3 fun y μ4 => (∀ z, y ≠ .w z ∧ ∀ ns, y ≠ .s ns) ∧ I (i + 1) (acc ++ [toC y]) μ4 else I (i + 1) acc μ3) ∧
      ∀ acc μ', I ds.length acc μ' → ∀ p, Q (.a p) ((p, acc) :: μ')
theorem lc_readP {elt tg iter : Expr} {ifs : List Expr} {scope : Scope} {own : List (Str × Nat)} (h : LcM X scope own elt tg iter ifs δ μ Q) {F H : Hp} {σ : L2.St} (R : Rp X.K F H σ δ μ) {QV : VK}
    (c : ∀ v x F' H' μ', Fw (ks μ) (ks μ') F H F' H' → Rp X.K F' H' σ δ μ' → VOk X.K F' x v → Q x μ' → QV v H') : tLc (cI X tg iter) (gB X scope tg) (tB X scope ifs) (eB X scope elt) (own.map (·.2)) σ H QV := by
  refine h F H σ R _ fun J ds F1 H1 μ1 w1 R1 wk q => ?_
  obtain ⟨I, h0, hz, hacc, hturn, hend⟩ := q
  intro L nL
  obtain ⟨m0, w0⟩ := R1.m.cell (ds := []) (vs := []) nL .nil
  have pm : ∀ (μ' : Cells) (acc : List PyData), ((L, Cont.l acc) :: μ').Perm (μ' ++ [(L, Cont.l acc)]) := fun μ' acc => (List.perm_append_singleton (L, Cont.l acc) μ').symm
  refine ⟨fun i m H' => m = ds.length - i ∧ i ≤ ds.length ∧ ∃ F' μ' acc, Fw (ks μ1) (ks (μ' ++ [(L, Cont.l acc)])) F1 H1 F' H' ∧ Rp X.K F' H' σ δ (μ' ++ [(L, Cont.l acc)]) ∧ I i acc μ',
    ⟨_, rfl, Nat.zero_le _, F1, μ1, [], w0.perm (K := X.K) (pm μ1 []), (R1.to w0.f m0).perm (pm μ1 []), h0⟩, ?_⟩
  rintro i m H' ⟨rfl, hi, F', μ', acc, w', R', hI⟩
  by_cases hlt : i < ds.length
  · refine .inr ⟨wk.go i F' H' hlt w'.f R'.m.ex, _, fun _ z => z, fun x H2 y => ?_⟩
    obtain ⟨F2, f1, f2, f3, f4, f5⟩ := wk.yld i F' H' x H2 _ (List.getElem?_eq_getElem hlt) w'.f R'.m.ex y
    obtain ⟨m2, w2⟩ := R'.m.nil_up f1 f2 f3 f4
    have R2 : Rp X.K F2 H2 σ δ (μ' ++ [(L, Cont.l acc)]) := R'.to f1 m2
    have R2l : Rp X.K F2 H2 σ δ μ' := ⟨R2.m.left, R2.len, R2.env⟩
    intro s0 H0 C0 cl0 fp0
    refine hturn i _ acc μ' (List.getElem?_eq_getElem hlt) hI s0 H0 C0 cl0 fp0 F2 H2 _ (R2l.wiped (own.map (·.2))) x f5 _ fun F3 H3 σ3 δ3 μ3 w3 R3 y3 q3 => ⟨y3.wipe, ?_⟩
    obtain ⟨m3, w3'⟩ := R2.m.frame w3 R3.m
    have go : ∀ k F4 H4 μ4, Fw (ks μ3) (ks μ4) F3 H3 F4 H4 → Rp X.K F4 H4 σ3 δ3 μ4 → (if k = true then Blk X scope fun Y => WE Y elt δ3 μ4 fun y μ5 => (∀ z, y ≠ .w z ∧ ∀ ns, y ≠ .s ns) ∧ I (i + 1) (acc ++ [toC y]) μ5 else I (i + 1) acc μ4) →
        if k = true then (Blk X scope fun Y => cE Y elt σ3 H4 fun y H5 => ∃ acc, H5 L = some (.lst acc) ∧ acc.length < sizeLine ∧ (fun H' => ∃ m', m' < ds.length - i ∧ (m' = ds.length - (i + 1) ∧ i + 1 ≤ ds.length ∧ ∃ F' μ' acc, Fw (ks μ1) (ks (μ' ++ [(L, Cont.l acc)])) F1 H1 F' H' ∧ Rp X.K F' H' σ δ (μ' ++ [(L, Cont.l acc)]) ∧ I (i + 1) acc μ')) (upd H5 L (.lst (acc ++ [y])))) else
          (fun H' => ∃ m', m' < ds.length - i ∧ (m' = ds.length - (i + 1) ∧ i + 1 ≤ ds.length ∧ ∃ F' μ' acc, Fw (ks μ1) (ks (μ' ++ [(L, Cont.l acc)])) F1 H1 F' H' ∧ Rp X.K F' H' σ δ (μ' ++ [(L, Cont.l acc)]) ∧ I (i + 1) acc μ')) H4 := by
      intro k F4 H4 μ4 w4 R4 q4
      obtain ⟨m4, w4'⟩ := m3.frame w4 R4.m
      cases k with
      | false => exact ⟨_, by omega, rfl, hlt, F4, μ4, acc, ((w'.trans w2).trans w3').trans w4', (R2.to (w3.f.trans w4.f) m4), q4⟩
      | true =>
        intro s5 H5' C5 cl5 fp5
        refine q4 s5 H5' C5 cl5 fp5 F4 H4 σ3 R4 _ fun v yv F5 H5 μ5 w5 R5 o5 q5' => ?_
        obtain ⟨nw5, q5⟩ := q5'
        obtain ⟨m5, w5'⟩ := m4.frame w5 R5.m
        obtain ⟨fL, vs, hL, gL⟩ := m5.cel L (.l acc) (List.mem_append_right _ List.mem_cons_self)
        have il : (μ5 ++ [(L, Cont.l acc)])[μ5.length]? = some (L, Cont.l acc) := by simp
        obtain ⟨m6, w6⟩ := m5.setCQ (es := acc ++ [toC yv]) il (dqs_app gL (.cons (VOk.toC nw5 o5) .nil))
        have es : (μ5 ++ [(L, Cont.l acc)]).set μ5.length (L, Cont.l (acc ++ [toC yv])) = μ5 ++ [(L, Cont.l (acc ++ [toC yv]))] := by
          rw [List.set_append_right _ _ (Nat.le_refl _), Nat.sub_self]
          rfl
        rw [es] at m6 w6
        refine ⟨vs, hL, ?_, _, by omega, rfl, hlt, F5, μ5, acc ++ [toC yv], ((((w'.trans w2).trans w3').trans w4').trans w5').trans w6, R2.to ((w3.f.trans w4.f).trans w5.f) m6, q5⟩
        rw [dqs_len gL]
        exact Nat.lt_of_le_of_lt (Nat.le_trans (hacc i acc μ' hI) (Nat.le_trans hi hz)) (by decide)
    match ifs, q3 with
    | [], q3 => exact go true F3 H3 μ3 Fw.refl R3 (q3 s0 H0 C0 cl0 fp0)
    | [cnd], q3 => exact fun s4 H4' C4 cl4 fp4 => q3 s4 H4' C4 cl4 fp4 F3 H3 σ3 R3 _ fun k F4 H4 μ4 w4 R4 q4 => go k F4 H4 μ4 w4 R4 q4
    | _ :: _ :: _, q3 => exact (q3 s0 H0 C0 cl0 fp0).elim
  · have e : i = ds.length := by omega
    subst e
    refine .inl ⟨wk.stop F' H' w'.f R'.m.ex, ?_⟩
    have pm' := (pm μ' acc).symm
    exact c _ (.a L) F' H' _ (w1.trans (w'.perm (K := X.K) pm')) (R'.perm pm') rfl (hend acc μ' hI L)
theorem we_lcM {elt tg iter : Expr} {ifs : List Expr} {scope : Scope} (own : List (Str × Nat)) (hc : X.calm = true) (hN : X.N.Nodup) (ok : BlkOk X.N X.env.scope scope own) (h : LcM X scope own elt tg iter ifs δ μ Q)
    (hs : ∀ x, foldedSetIterable iter X.env x = pure x := by intro _; rfl) : WE X (.ListComp elt [⟨tg, iter, ifs, 0⟩] scope pos) δ μ Q := fun F H σ R QV c =>
  toE (pe_lc hc hN (pcI X tg iter) ok (pgB scope tg) (ptB scope ifs) (peB scope elt) hs) (lc_readP h R c)
theorem ws_setLcM (i : Nat) {y : Str} {py spos : Pos} {elt tg iter : Expr} {ifs : List Expr} {scope : Scope} {D : Dn} (own : List (Str × Nat)) (hc : X.calm = true) (hN : X.N.Nodup) (hy : X.N[i]? = some y) (hyl : X.env.scope.names.lookup y = some .local)
    (hsw : swapsWith (.ListComp elt [⟨tg, iter, ifs, 0⟩] scope pos) (some (.Name y py)) spos.line X.env = pure true) (ok : BlkOk X.N X.env.scope scope own) (h : LcM X scope own elt tg iter ifs δ μ fun v μ1 => D.nx (δ.set i (some v)) μ1)
    (hs : ∀ x, foldedSetIterable iter X.env x = pure x := by intro _; rfl) : WS X (.Assign [.Name y py] (.ListComp elt [⟨tg, iter, ifs, 0⟩] scope pos) spos) δ μ D := fun F H σ R De b =>
  toS (ps_setLc hc hN hy hyl hsw (pcI X tg iter) ok (pgB scope tg) (ptB scope ifs) (peB scope elt) hs) (lc_readP h R fun v x F1 H1 μ1 w1 R1 o1 q => b.nx F1 H1 _ _ μ1 w1 (R1.put i o1) q)
theorem we_ordQ (h : WE X e δ μ fun x μ1 => ∃ μ2, μ1.Perm μ2 ∧ Q x μ2) : WE X e δ μ Q := fun F H σ R QV c => h F H σ R QV fun v x F' H' μ' w R' o q => by
  obtain ⟨μ2, pm, q⟩ := q
  exact c v x F' H' μ2 (w.perm (K := X.K) pm) (R'.perm pm) o q
theorem wb_at2 {sts : List Stmt} {D : Dn} {δ δ2 : Dl} (e : δ = δ2) (h : WB X sts δ2 μ D) : WB X sts δ μ D := e ▸ h
theorem lent_perm {js : List Nat} {μ l : Cells} (h : LentOk js μ l []) : μ.Perm l := by
  have := h.perm
  rw [List.append_nil] at this
  exact this
end
end Ec
set_option Elab.async false
set_option linter.all false
set_option maxRecDepth 100000
set_option maxHeartbeats 4000000
namespace Ec
open PySem PySem.Spec PyProof.Rows L2
theorem rev_ints (l : List Int) : (intsD l).reverse = intsD l.reverse := List.map_reverse.symm
theorem we_revK {X : Cx} {δ : Dl} {μ : Cells} {Q : Vd → Cells → Prop} {e : Expr} {p1 p2 p3 : Pos} {pos : Pos} {k : Nat} (h : WE X e δ μ fun x μ1 => ∃ ds, x = .d (.list ds) ∧ ∀ p, Q (.a p) ((p, Cont.l ds.reverse) :: μ1)) : WE X (.Subscript e (.Slice none none (some (.UnaryOp .USub (.Constant (.int 1) k p1) p2)) p3) pos) δ μ Q := fun F H σ R QV c =>
  toE (pe_revL (pcE X e)) (h F H σ R _ fun v x F1 H1 μ1 w1 R1 o1 q => by
    obtain ⟨ds, rfl, q3⟩ := q
    obtain ⟨qa, vs, rfl, hs, hd⟩ := dp_lstX o1
    refine ⟨qa, vs, rfl, .of (R1.m.ex _ _ hs), fun l' nl => ?_⟩
    obtain ⟨m4, w4⟩ := R1.m.cellQ nl (dqs_rev (.of hd))
    exact c _ (.a l') _ _ _ (w1.trans w4) (R1.to w4.f m4) rfl (q3 l'))
theorem wt_ia {X : Cx} {δ : Dl} {μ : Cells} {e : Expr} {T : Bool → Cells → Prop} (b : Bool) (h : WT X e δ μ fun k μ' => if k = true then b = true ∧ μ' = μ else b = false ∧ μ' = μ) (k : T b μ) : WT X e δ μ T := h.mono fun x μ' q => by
  cases x with
  | true =>
    obtain ⟨rfl, rfl⟩ := (show b = true ∧ μ' = μ from q)
    exact k
  | false =>
    obtain ⟨rfl, rfl⟩ := (show b = false ∧ μ' = μ from q)
    exact k
theorem we_ia {X : Cx} {δ : Dl} {μ : Cells} {Q : Vd → Cells → Prop} {e : Expr} (v : Vd) (h : WE X e δ μ fun x μ' => x = v ∧ μ' = μ) (k : Q v μ) : WE X e δ μ Q := h.mono fun x μ' q => by
  obtain ⟨rfl, rfl⟩ := q
  exact k
def Wd42 (w : Str) : Prop := w ∈ (["come", "come_all", "meet", "add_person", "set_need"] : List Str)
abbrev T_led42 (C : Addr) : TrD := fun xs μ R => ∃ (b : Addr) (bs : List PyData) (m : Nat) (p a l : Addr) (S : List (Co × List Int)) (c : Co) (r : List Int) (L : List (Str × Str)), xs = [.a b, .a p] ∧ μ = ([(b, (bs : Cont))] : Cells) ++ Hall C p a l (S ++ [(c, r)]) L ∧ BoxOk m bs ∧ Good c r ∧ c.length ≤ 15 ∧ S.length ≤ 100 ∧ L.length ≤ 500 ∧ m + 100 ≤ 1000000000000 ∧
  ∀ c2 r2 w bs', Good c2 r2 → c2.length ≤ 15 → Wd42 w → BoxOk (m + 100) bs' → R (.d (.str w)) (([(b, (bs' : Cont))] : Cells) ++ Hall C p a l ((S ++ [(c, r)]) ++ [(c2, r2)]) (L ++ lgs w))
theorem log42 {q : Int} (h0 : 0 ≤ q) (h1 : q < 100) : q.natAbs.log2 < 1920 := log_near (by omega) h1
theorem rev_next {c : Co} {r : List Int} : (latA c r (nexts c r).reverse).1 = 0 :=
  latA_list ((List.reverse_perm _).nodup_iff.mpr (nexts_nodup9 c r)) fun x hx => nexts_mem9 (List.mem_reverse.mp hx)
theorem Good.come {c : Co} {r : List Int} {q : Int} (g : Good c r) (h : lat c r q = 0) : Good c (r ++ [q]) := ⟨g.w, lat_pord g.p h, g.l⟩
theorem Good.call {c : Co} {r ps : List Int} (g : Good c r) (h : (latA c r ps).1 = 0) : Good c (r ++ ps) := ⟨g.w, latA_pord g.p h, g.l⟩
theorem Good.meet {c : Co} {r : List Int} (g : Good c r) : Good c (r ++ nexts c r) := ⟨g.w, meet_pord g.p, g.l⟩
theorem Good.add {c : Co} {r fs : List Int} {n : Int} (g : Good c r) (hu : fs.Pairwise (· < ·)) (hf : ∀ q ∈ fs, 0 ≤ q ∧ q < c.length) (h0 : 0 ≤ n) (h1 : n ≤ 1000) (hl : c.length < 20) : Good (c ++ [(fs, n)]) r :=
  ⟨adp_cow (e := (fs, n)) g.w hu hf h0 h1, adp_pord g.w g.p, by rw [List.length_append, List.length_singleton]; omega⟩
theorem Good.set {c : Co} {r : List Int} {q n : Int} (g : Good c r) (hq : 0 ≤ q ∧ q < c.length) (hr : q ∉ r) (h0 : 0 ≤ n) (h1 : n ≤ 1000) : Good (wn c q n) r :=
  ⟨wn_cow hq.1 hq.2 h0 h1 g.w, wn_pord hq.1 hq.2 hr g.p, by rw [wn_len]; exact g.l⟩
theorem Good.co {c : Co} {r : List Int} (g : Good c r) : CoD (coD c) c := coD_ok' (by have := g.l; omega) (g.w.frs (by have := g.l; omega))
theorem wtg_mem {c : Co} {r : List Int} {q : Int} (h : q ∈ wtg c r) : (0 ≤ q ∧ q < c.length) ∧ q ∉ r := by
  unfold wtg at h
  obtain ⟨h1, h2⟩ := List.mem_filter.mp h
  exact ⟨mem_rng.mp h1, by simpa using h2⟩
theorem Good.fit {c : Co} {r : List Int} (g : Good c r) (n : Nat) : fits 4 (.list (seenL n c r)) = true := seenL_fits g.co (by have := g.l; omega) (by have := g.l; have := g.p.len; omega)
theorem wd_ok {w : Str} (h : Wd42 w) : SeqAt.shaped (.str w) = true := by
  unfold Wd42 at h
  simp only [List.mem_cons, List.not_mem_nil, or_false] at h
  rcases h with rfl | rfl | rfl | rfl | rfl <;> decide +kernel
abbrev T_cr42 (C : Addr) : TrD := fun xs μ R => ∃ (b : Addr) (bs : List PyData) (m : Nat) (p a l : Addr) (S : List (Co × List Int)) (c : Co) (r : List Int) (L : List (Str × Str)) (p2 a2 l2 : Addr) (S2 : List (Co × List Int)) (c2 : Co) (r2 : List Int) (dah : PyData),
  xs = [.a b, .a p, .a p2, .d (.list (seenL S2.length c2 r2)), .d dah] ∧ μ = ([(b, (bs : Cont))] : Cells) ++ Hall C p a l (S ++ [(c, r)]) L ++ Hall C p2 a2 l2 (S2 ++ [(c2, r2)]) [] ∧ BoxOk m bs ∧ Good c r ∧ S.length ≤ 100 ∧ L.length ≤ 400 ∧ LogOk L ∧ Good c2 r2 ∧ c2.length ≤ 15 ∧ S2.length ≤ 90 ∧ m + 100 ≤ 1000000000000 ∧
  (dah = .none ∨ ∃ S0 c0 r0, S2 = S0 ++ [(c0, r0)] ∧ dah = .list (seenL S0.length c0 r0) ∧ Good c0 r0) ∧ ∀ bs', BoxOk (m + 100) bs' → R (.d (.bool true)) (([(b, (bs' : Cont))] : Cells) ++ Hall C p a l (S ++ [(c, r)]) L)
theorem keep_bac {A B C : Cells} {Φ : Cells → Prop} (h : Φ (B ++ A)) : Keep (A ++ (B ++ C)) Φ := ⟨C, B ++ A, by
  rw [← List.append_assoc]
  exact List.perm_append_comm.trans (List.Perm.append_left C List.perm_append_comm), h⟩
theorem LogOk.fit4 {L : List (Str × Str)} (h : LogOk L) (hl : L.length ≤ 1000) : Ec.fits 4 (.list (L.map lgD)) = true := fits_mono (h.fits hl)
abbrev T_heq42 (C : Addr) : TrD := fun xs μ R => (∃ p a l S x L p2 a2 l2 S2 x2 L2, xs = [.a p, .a p2] ∧ μ = Hall C p a l (S ++ [x]) L ++ Hall C p2 a2 l2 (S2 ++ [x2]) L2 ∧ CoD (coD x.1) x.1 ∧ CoD (coD x2.1) x2.1 ∧ x.2.length ≤ 1000 ∧ x2.2.length ≤ 1000 ∧ x.1.length < 64 ∧ x2.1.length < 64 ∧ R (.d (.bool (decide (x = x2)))) μ) ∨ ∃ p a l S L d, xs = [.a p, .d d] ∧ μ = Hall C p a l S L ∧ R (.d (.bool false)) μ
abbrev T_er42 (C : Addr) : TrD := fun xs μ R => ∃ (p a l : Addr) (S : List (Co × List Int)) (c : Co) (r : List Int) (L : List (Str × Str)), xs = [.a p] ∧ μ = Hall C p a l (S ++ [(c, r)]) L ∧ Good c r ∧ c.length ≤ 15 ∧ S.length ≤ 200 ∧ L.length ≤ 500 ∧ R (.d (.bool true)) μ
theorem nd_zero {c : Co} {n : Nat} (h : c[n]? = some ([], 0)) (r : List Int) : comes c r (n : Int) = true := by
  have : nd c (n : Int) = 0 := by
    unfold nd
    rw [Int.toNat_natCast, List.getD_eq_getElem?_getD, h]
    rfl
  unfold comes
  rw [this]
  exact decide_eq_true (by unfold cnt; omega)
theorem er_lat {c : Co} {r : List Int} {n : Nat} (hr : ∀ x ∈ r, x < (n : Int)) (h1 : c[n]? = some ([], 0)) (h2 : c[n + 1]? = some ([], 0)) (hl : c.length = n + 2) : (latA c r [(n : Int), (n : Int) + 1]).1 = 0 ∧ (latA c r [(n : Int) + 1, (n : Int)]).1 = 0 := by
  have e1 := nd_zero h1 r
  have e2 := nd_zero h2 r
  rw [show (((n + 1 : Nat) : Nat) : Int) = (n : Int) + 1 from by omega] at e2
  have k1 : (n : Int) ∉ r := fun z => by have := hr _ z; omega
  have k2 : (n : Int) + 1 ∉ r := fun z => by have := hr _ z; omega
  have r1 : (0 : Int) ≤ (n : Int) ∧ (n : Int) < c.length := by omega
  have r2 : (0 : Int) ≤ (n : Int) + 1 ∧ (n : Int) + 1 < c.length := by omega
  have nd1 : ((n : Int)) ≠ (n : Int) + 1 := by omega
  constructor
  · refine latA_list (List.nodup_cons.mpr ⟨fun z => by have := List.mem_singleton.mp z; omega, List.nodup_cons.mpr ⟨List.not_mem_nil, List.nodup_nil⟩⟩) fun x hx => ?_
    simp only [List.mem_cons, List.not_mem_nil, or_false] at hx
    rcases hx with rfl | rfl
    · exact ⟨r1, k1, e1⟩
    · exact ⟨r2, k2, e2⟩
  · refine latA_list (List.nodup_cons.mpr ⟨fun z => by have := List.mem_singleton.mp z; omega, List.nodup_cons.mpr ⟨List.not_mem_nil, List.nodup_nil⟩⟩) fun x hx => ?_
    simp only [List.mem_cons, List.not_mem_nil, or_false] at hx
    rcases hx with rfl | rfl
    · exact ⟨r2, k2, e2⟩
    · exact ⟨r1, k1, e1⟩
structure Er (c : Co) (r : List Int) : Prop where
  g1 : Good (c ++ [([], 0)]) r
  g2 : Good ((c ++ [([], 0)]) ++ [([], 0)]) r
  l1 : (latA ((c ++ [([], 0)]) ++ [([], 0)]) r [(c.length : Int), (c.length : Int) + 1]).1 = 0
  l2 : (latA ((c ++ [([], 0)]) ++ [([], 0)]) r [(c.length : Int) + 1, (c.length : Int)]).1 = 0
  lo : ∀ x ∈ [(c.length : Int), (c.length : Int) + 1], x.natAbs.log2 < 1920
  lp : ∀ x ∈ [(c.length : Int) + 1, (c.length : Int)], x.natAbs.log2 < 1920
theorem er_of {c : Co} {r : List Int} (g : Good c r) (h : c.length ≤ 15) : Er c r := by
  have hh := g.p.rg
  have g1 : Good (c ++ [([], 0)]) r := g.add List.Pairwise.nil (fun _ z => by cases z) (by decide) (by decide) (by omega)
  have hc1 : (c ++ [(([] : List Int), (0 : Int))]).length = c.length + 1 := by simp
  have g2 : Good ((c ++ [([], 0)]) ++ [([], 0)]) r := g1.add List.Pairwise.nil (fun _ z => by cases z) (by decide) (by decide) (by omega)
  have ll := er_lat (c := (c ++ [([], 0)]) ++ [([], 0)]) (r := r) (n := c.length) (fun x m => (hh x m).2) (by simp) (by simp) (by simp)
  refine ⟨g1, g2, ll.1, ll.2, fun x m => ?_, fun x m => ?_⟩
  · simp only [List.mem_cons, List.not_mem_nil, or_false] at m
    exact log42 (by omega) (by omega)
  · simp only [List.mem_cons, List.not_mem_nil, or_false] at m
    exact log42 (by omega) (by omega)
theorem er_ne1 {c : Co} {r : List Int} {x : List Int × Int} : (decide ((c ++ [x], r) = (c, r))) = false := decide_eq_false fun z => by
  have := congrArg (fun q => q.1.length) z
  simp at this
theorem er_ne2 {c : Co} {r : List Int} {n : Int} : (decide ((c, r ++ [n, n + 1]) = (c, r ++ [n + 1, n]))) = false := decide_eq_false fun z => by
  have := List.append_cancel_left (congrArg Prod.snd z)
  simp only [List.cons.injEq] at this
  omega
theorem er_ne3 {c : Co} {r s : List Int} {n : Int} : (decide ((c, ([] : List Int)) = (c, r ++ n :: s))) = false := decide_eq_false fun z => by
  have := congrArg (fun q => q.2.length) z
  simp at this
theorem er_eq {x : Co × List Int} : decide (x = x) = true := decide_eq_true rfl
theorem any_no {α : Type} (l : List α) : (l.any fun _ => false) = false := by simp
theorem Good.cos {c : Co} {r : List Int} (g : Good c r) : SeqAt.shaped (coD c) = true := fits_shaped (coD_fits (by have := g.l; omega) (g.w.frs (by have := g.l; omega)))
theorem undo_t3 {S : List (Co × List Int)} {y : Co × List Int} : decide (decide (0 < (((S ++ [y]).length : Nat) : Int)) = true) = true := by
  have := undo_t2 (S := S) (y := y)
  simpa using this
theorem keep_mid {A B C : Cells} {Φ : Cells → Prop} (h : Φ B) : Keep (A ++ (B ++ C)) Φ := ⟨C ++ A, B, by
  have h1 : (A ++ (B ++ C)).Perm ((B ++ C) ++ A) := List.perm_append_comm
  have h2 : ((B ++ C) ++ A).Perm ((C ++ A) ++ B) := by
    rw [List.append_assoc]
    exact List.perm_append_comm
  exact h1.trans h2, h⟩
def seeT (T : List (Co × List Int)) : List PyData := T.zipIdx.map fun q => .list (seenL q.2 q.1.1 q.1.2)
theorem seeT_len (T : List (Co × List Int)) : (seeT T).length = T.length := by simp [seeT]
theorem seeT_snoc (T : List (Co × List Int)) (x : Co × List Int) : seeT (T ++ [x]) = seeT T ++ [.list (seenL T.length x.1 x.2)] := by
  unfold seeT
  rw [List.zipIdx_append, List.map_append]
  simp
theorem seeT_get {T : List (Co × List Int)} {i : Nat} {x : Co × List Int} (h : T[i]? = some x) : (seeT T)[i]? = some (.list (seenL i x.1 x.2)) := by
  unfold seeT
  rw [List.getElem?_map, List.getElem?_zipIdx, h]
  simp
def gd (x : Co × List Int) : Prop := Good x.1 x.2 ∧ x.1.length ≤ 15
def Gd (T : List (Co × List Int)) : Prop := ∀ x ∈ T, gd x
theorem Gd.snoc {T : List (Co × List Int)} {c : Co} {r : List Int} (h : Gd T) (g : Good c r) (l : c.length ≤ 15) : Gd (T ++ [(c, r)]) := fun x m => (List.mem_append.mp m).elim (h x) fun z => by
  cases List.mem_singleton.mp z
  exact ⟨g, l⟩
theorem Gd.lastG {T : List (Co × List Int)} {c : Co} {r : List Int} (h : Gd (T ++ [(c, r)])) : Good c r := (h _ (List.mem_append_right _ (List.mem_singleton.mpr rfl))).1
theorem Gd.lastL {T : List (Co × List Int)} {c : Co} {r : List Int} (h : Gd (T ++ [(c, r)])) : c.length ≤ 15 := (h (c, r) (List.mem_append_right _ (List.mem_singleton.mpr rfl))).2
theorem Gd.init {T : List (Co × List Int)} {x : Co × List Int} (h : Gd (T ++ [x])) : Gd T := fun y m => h y (List.mem_append_left _ m)
theorem take_pick {T : List (Co × List Int)} {k : Nat} (h : k < T.length) : ∃ S c r, T.take (k + 1) = S ++ [(c, r)] ∧ S.length = k ∧ T[k]? = some (c, r) := by
  refine ⟨T.take k, (T[k]).1, (T[k]).2, ?_, by rw [List.length_take]; omega, List.getElem?_eq_getElem h⟩
  rw [List.take_succ, List.getElem?_eq_getElem h]
  rfl
structure Ar (S1 : List (Co × List Int)) (c1 : Co) (r1 : List Int) (i : Nat) (Sa : List (Co × List Int)) (ca : Co) (ra : List Int) (La : List (Str × Str)) (Sb : List (Co × List Int)) (cb : Co) (rb : List Int) (Lb : List (Str × Str)) (Sc : List (Co × List Int)) (cc : Co) (rc : List Int) (Lc : List (Str × Str)) : Prop where
  a : Gd (Sa ++ [(ca, ra)])
  b : Gd (Sb ++ [(cb, rb)])
  c : Gd (Sc ++ [(cc, rc)])
  na : Sa.length ≤ 50 + i
  nb : Sb.length ≤ 50 + i
  nc : Sc.length ≤ 50 + i
  ma : La.length ≤ 450 + 2 * i
  mb : Lb.length ≤ 450 + 2 * i
  mc : Lc.length ≤ 450 + 2 * i
  b0 : i ≤ 2 → Sb = S1 ∧ cb = c1 ∧ rb = r1
  b1 : 3 ≤ i → Sb = S1 ++ [(c1, r1)]
section
variable {S1 Sa Sb Sc : List (Co × List Int)} {c1 ca cb cc c2 : Co} {r1 ra rb rc r2 : List Int} {La Lb Lc : List (Str × Str)} {i : Nat} {w : Str}
theorem Ar.stepA (h : Ar S1 c1 r1 i Sa ca ra La Sb cb rb Lb Sc cc rc Lc) (g : Good c2 r2) (l : c2.length ≤ 15) (hi : i < 2) : Ar S1 c1 r1 (i + 1) (Sa ++ [(ca, ra)]) c2 r2 (La ++ lgs w) Sb cb rb Lb Sc cc rc Lc where
  a := h.a.snoc g l
  b := h.b
  c := h.c
  na := by have := h.na; simp only [List.length_append, List.length_singleton]; omega
  nb := by have := h.nb; omega
  nc := by have := h.nc; omega
  ma := by have := h.ma; rw [List.length_append, lgs_len]; omega
  mb := by have := h.mb; omega
  mc := by have := h.mc; omega
  b0 := fun z => h.b0 (by omega)
  b1 := fun z => by omega
theorem Ar.stepC (h : Ar S1 c1 r1 i Sa ca ra La Sb cb rb Lb Sc cc rc Lc) (g : Good c2 r2) (l : c2.length ≤ 15) (hi : i < 2) : Ar S1 c1 r1 (i + 1) Sa ca ra La Sb cb rb Lb (Sc ++ [(cc, rc)]) c2 r2 (Lc ++ lgs w) where
  a := h.a
  b := h.b
  c := h.c.snoc g l
  na := by have := h.na; omega
  nb := by have := h.nb; omega
  nc := by have := h.nc; simp only [List.length_append, List.length_singleton]; omega
  ma := by have := h.ma; omega
  mb := by have := h.mb; omega
  mc := by have := h.mc; rw [List.length_append, lgs_len]; omega
  b0 := fun z => h.b0 (by omega)
  b1 := fun z => by omega
theorem Ar.stepB (h : Ar S1 c1 r1 2 Sa ca ra La Sb cb rb Lb Sc cc rc Lc) (g : Good c2 r2) (l : c2.length ≤ 15) : Ar S1 c1 r1 3 Sa ca ra La (Sb ++ [(cb, rb)]) c2 r2 (Lb ++ lgs w) Sc cc rc Lc where
  a := h.a
  b := h.b.snoc g l
  c := h.c
  na := by have := h.na; omega
  nb := by have := h.nb; simp only [List.length_append, List.length_singleton]; omega
  nc := by have := h.nc; omega
  ma := by have := h.ma; omega
  mb := by have := h.mb; rw [List.length_append, lgs_len]; omega
  mc := by have := h.mc; omega
  b0 := fun z => by omega
  b1 := fun z => by
    obtain ⟨rfl, rfl, rfl⟩ := h.b0 (by omega)
    rfl
end
theorem fit_of {ds : List PyData} (hl : ds.length ≤ 1000) (h : ∀ d ∈ ds, Ec.fits 4 d = true) : Ec.fits 5 (.list ds) = true := fits_lst (n := 4) hl h
abbrev T_ar42 (C : Addr) : TrD := fun xs μ R => ∃ (b : Addr) (bs : List PyData) (m : Nat) (p a l : Addr) (S : List (Co × List Int)) (c : Co) (r : List Int) (L : List (Str × Str)), xs = [.a b, .a p, .d (.list (seeT (S ++ [(c, r)])))] ∧ μ = ([(b, (bs : Cont))] : Cells) ++ Hall C p a l (S ++ [(c, r)]) L ∧ BoxOk m bs ∧ Gd (S ++ [(c, r)]) ∧ S.length ≤ 40 ∧ L.length ≤ 400 ∧ m + 1000 ≤ 1000000000000 ∧ ∀ bs', BoxOk (m + 1000) bs' → R (.d (.bool true)) ([(b, (bs' : Cont))] : Cells)
theorem atI_last9 {ds : List PyData} {d : PyData} {n : Nat} (h : ds[n]? = some d) (hl : ds.length = n + 1) : atI ds (-1) = some d := by
  unfold atI
  rw [hl, show ixN (n + 1) (-1) = some n from by
    unfold ixN
    rw [if_neg (by decide), if_pos (by omega)]
    congr 1
    omega]
  exact h
theorem fit3 {a b c : PyData} (h1 : Ec.fits 4 a = true) (h2 : Ec.fits 4 b = true) (h3 : Ec.fits 4 c = true) : Ec.fits 5 (.list [a, b, c]) = true := fit_of (by simp) fun d m => by
  simp only [List.mem_cons, List.not_mem_nil, or_false] at m
  rcases m with rfl | rfl | rfl <;> assumption
theorem fit2 {a b : PyData} (h1 : Ec.fits 4 a = true) (h2 : Ec.fits 4 b = true) : Ec.fits 5 (.list [a, b]) = true := fit_of (by simp) fun d m => by
  simp only [List.mem_cons, List.not_mem_nil, or_false] at m
  rcases m with rfl | rfl <;> assumption
theorem snoc_cases {α : Type} : ∀ S : List α, S = [] ∨ ∃ S' x, S = S' ++ [x]
  | [] => .inl rfl
  | a :: S => .inr (by
    rcases snoc_cases S with rfl | ⟨S', x, rfl⟩
    · exact ⟨[], a, rfl⟩
    · exact ⟨a :: S', x, rfl⟩)
theorem take_in {α : Type} (S : List α) (x y : α) : ((S ++ [x]) ++ [y]).take (S.length + 1) = S ++ [x] := by
  rw [List.take_append_of_le_length (by simp), List.take_of_length_le (by simp)]
theorem take_first {α : Type} {T S l : List α} {k : Nat} {x y : α} (h : T.take (k + 1) = S ++ [x]) (h0 : T.take (0 + 1) = [] ++ [y]) : ((S ++ [x]) ++ l).take (0 + 1) = [] ++ [y] := by
  rw [List.take_append_of_le_length (by simp), ← h, List.take_take, ← h0]
  congr 1
theorem seeT_pl (T : List (Co × List Int)) : plS (seeT T) := fun d m => by
  obtain ⟨q, _, rfl⟩ := List.mem_map.mp m
  rfl
theorem prev_of {T S1 : List (Co × List Int)} {i : Nat} {c1 : Co} {r1 : List Int} (hG : Gd T) (hT : T.take (i + 1) = S1 ++ [(c1, r1)]) (hl : S1.length = i) :
    ∃ dah, (i = 0 ∧ dah = .none ∨ 0 < i ∧ (seeT T)[i - 1]? = some dah) ∧ (dah = .none ∨ ∃ S0 c0 r0, S1 = S0 ++ [(c0, r0)] ∧ dah = .list (seenL S0.length c0 r0) ∧ Good c0 r0) := by
  rcases snoc_cases S1 with rfl | ⟨S0, ⟨c0, r0⟩, rfl⟩
  · exact ⟨.none, .inl ⟨hl.symm, rfl⟩, .inl rfl⟩
  · rw [List.length_append, List.length_singleton] at hl
    have hx : T[i - 1]? = some (c0, r0) := by
      have h2 : (T.take (i + 1))[i - 1]? = some (c0, r0) := by
        rw [hT, List.append_assoc, List.getElem?_append_right (by omega), show i - 1 - S0.length = 0 from by omega]
        rfl
      rw [List.getElem?_take] at h2
      rw [if_pos (by omega)] at h2
      exact h2
    refine ⟨.list (seenL (i - 1) c0 r0), .inr ⟨by omega, seeT_get hx⟩, .inr ⟨S0, c0, r0, rfl, by rw [show i - 1 = S0.length from by omega], (hG _ (List.mem_of_getElem? hx)).1⟩⟩
theorem eqv_sl42 (c1 c : Co) (r1 r : List Int) : PyData.eqv (.list [coD c1, .tuple (intsD r1)]) (.list [coD c, .tuple (intsD r)]) = decide ((c1, r1) = (c, r)) := by
  have := eqv_st (c1, r1) (c, r)
  exact this
theorem st_shp42 {c : Co} {r : List Int} (g : Good c r) : SeqAt.shaped (.list [coD c, .tuple (intsD r)]) = true := shaped_lst' (n := 3) fun d m => by
  simp only [List.mem_cons, List.not_mem_nil, or_false] at m
  rcases m with rfl | rfl
  · exact coD_fits (by have := g.l; omega) (g.w.frs (by have := g.l; omega))
  · exact fits_mono (fits_ints 0 r (by have := g.l; have := g.p.len; omega)).2 (by decide)
theorem fit4l {a b c d : PyData} (h1 : Ec.fits 4 a = true) (h2 : Ec.fits 4 b = true) (h3 : Ec.fits 4 c = true) (h4 : Ec.fits 4 d = true) : Ec.fits 5 (.list [a, b, c, d]) = true := fit_of (by simp) fun d m => by
  simp only [List.mem_cons, List.not_mem_nil, or_false] at m
  rcases m with rfl | rfl | rfl | rfl <;> assumption
end Ec
set_option Elab.async false
set_option linter.all false
set_option autoImplicit false
set_option maxRecDepth 100000
set_option maxHeartbeats 4000000
set_option pp.maxSteps 60
namespace Lw
open PySem PySem.Spec PyProof.Rows L2 Ec
def topS (i : Nat) : Stmt := PySem.Challenge.pw_enoughcame_k42_copies_of_a_gathering.main.body.getD i (.Pass ⟨0, 0, 0, 0⟩)
abbrev s_iNoPerson : Stmt := clsS (topS 1) 0
theorem sc_iNoPerson : FnScope ["self", "person"] ["self", "person"] (defScope s_iNoPerson) := ⟨rfl, rfl, rfl, by decide +kernel, rfl, by decide +kernel, by decide +kernel⟩
theorem ini_NoPerson {P : Program} {w : World} {K : PySem.W.Frag} {mg : Str → Option Value} {base : Heap} {f C : Addr} {fd : FuncData} (F : Fun K "__init__" "NoPerson.__init__" s_iNoPerson f fd) (T : Oxg K C "LookupError.__new__" [.type "LookupError", .type "Exception", .type "BaseException", .type "object"])
    (hno : PySem.W.findIn K (.ref C) "person" = some none) (hm : mg "LookupError" = none) (vV : PySem.W.findCls K (.type "LookupError") (.type "type") "__init__" = some (.val (.builtin "LookupError.__init__"))) :
    FnOk P w K mg base CX0 1 f fd ["self", "person"] (spIni C "person" (Fm K)) :=
  ini_fn F sc_iNoPerson bas_LE T hno hm (by kernel_rfl) vV (by decide +kernel) (by decide +kernel) (by decide) (by decide) (by with_unfolding_all rfl) (by with_unfolding_all rfl) (by with_unfolding_all rfl) (by decide) (by decide)
    (fun X h => by unfold Gl; unfold Env.kindOf; rw [h]; with_unfolding_all rfl) _ (fun X h => by with_unfolding_all rfl) (fun X hr hN h => ⟨_, (.cons (txt_c 100 (by decide +kernel)) (.cons (txt_v hr hN (h ▸ .inl (by with_unfolding_all rfl)) (by decide) (by decide)) .nil)), by decide⟩) (fun X h => by with_unfolding_all rfl) (fun X h => by with_unfolding_all rfl)
abbrev s_iNoOperation : Stmt := clsS (topS 2) 0
theorem sc_iNoOperation : FnScope ["self", "many"] ["self", "many"] (defScope s_iNoOperation) := ⟨rfl, rfl, rfl, by decide +kernel, rfl, by decide +kernel, by decide +kernel⟩
theorem ini_NoOperation {P : Program} {w : World} {K : PySem.W.Frag} {mg : Str → Option Value} {base : Heap} {f C : Addr} {fd : FuncData} (F : Fun K "__init__" "NoOperation.__init__" s_iNoOperation f fd) (T : Oxg K C "LookupError.__new__" [.type "LookupError", .type "Exception", .type "BaseException", .type "object"])
    (hno : PySem.W.findIn K (.ref C) "many" = some none) (hm : mg "LookupError" = none) (vV : PySem.W.findCls K (.type "LookupError") (.type "type") "__init__" = some (.val (.builtin "LookupError.__init__"))) :
    FnOk P w K mg base CX0 1 f fd ["self", "many"] (spIni C "many" (Fm K)) :=
  ini_fn F sc_iNoOperation bas_LE T hno hm (by kernel_rfl) vV (by decide +kernel) (by decide +kernel) (by decide) (by decide) (by with_unfolding_all rfl) (by with_unfolding_all rfl) (by with_unfolding_all rfl) (by decide) (by decide)
    (fun X h => by unfold Gl; unfold Env.kindOf; rw [h]; with_unfolding_all rfl) _ (fun X h => by with_unfolding_all rfl) (fun X hr hN h => ⟨_, (.cons (txt_c 100 (by decide +kernel)) (.cons (txt_v hr hN (h ▸ .inl (by with_unfolding_all rfl)) (by decide) (by decide)) (.cons (txt_c 100 (by decide +kernel)) .nil))), by decide⟩) (fun X h => by with_unfolding_all rfl) (fun X h => by with_unfolding_all rfl)
abbrev s_iEarly : Stmt := clsS (topS 3) 0
theorem sc_iEarly : FnScope ["self", "person"] ["self", "person"] (defScope s_iEarly) := ⟨rfl, rfl, rfl, by decide +kernel, rfl, by decide +kernel, by decide +kernel⟩
theorem ini_Early {P : Program} {w : World} {K : PySem.W.Frag} {mg : Str → Option Value} {base : Heap} {f C : Addr} {fd : FuncData} (F : Fun K "__init__" "Early.__init__" s_iEarly f fd) (T : Oxg K C "RuntimeError.__new__" [.type "RuntimeError", .type "Exception", .type "BaseException", .type "object"])
    (hno : PySem.W.findIn K (.ref C) "person" = some none) (hm : mg "RuntimeError" = none) (vV : PySem.W.findCls K (.type "RuntimeError") (.type "type") "__init__" = some (.val (.builtin "RuntimeError.__init__"))) :
    FnOk P w K mg base CX0 1 f fd ["self", "person"] (spIni C "person" (Fm K)) :=
  ini_fn F sc_iEarly bas_RE T hno hm (by kernel_rfl) vV (by decide +kernel) (by decide +kernel) (by decide) (by decide) (by with_unfolding_all rfl) (by with_unfolding_all rfl) (by with_unfolding_all rfl) (by decide) (by decide)
    (fun X h => by unfold Gl; unfold Env.kindOf; rw [h]; with_unfolding_all rfl) _ (fun X h => by with_unfolding_all rfl) (fun X hr hN h => ⟨_, (.cons (txt_c 100 (by decide +kernel)) (.cons (txt_v hr hN (h ▸ .inl (by with_unfolding_all rfl)) (by decide) (by decide)) (.cons (txt_c 100 (by decide +kernel)) .nil))), by decide⟩) (fun X h => by with_unfolding_all rfl) (fun X h => by with_unfolding_all rfl)
abbrev s_iHere : Stmt := clsS (topS 4) 0
theorem sc_iHere : FnScope ["self", "person"] ["self", "person"] (defScope s_iHere) := ⟨rfl, rfl, rfl, by decide +kernel, rfl, by decide +kernel, by decide +kernel⟩
theorem ini_Here {P : Program} {w : World} {K : PySem.W.Frag} {mg : Str → Option Value} {base : Heap} {f C : Addr} {fd : FuncData} (F : Fun K "__init__" "Here.__init__" s_iHere f fd) (T : Oxg K C "RuntimeError.__new__" [.type "RuntimeError", .type "Exception", .type "BaseException", .type "object"])
    (hno : PySem.W.findIn K (.ref C) "person" = some none) (hm : mg "RuntimeError" = none) (vV : PySem.W.findCls K (.type "RuntimeError") (.type "type") "__init__" = some (.val (.builtin "RuntimeError.__init__"))) :
    FnOk P w K mg base CX0 1 f fd ["self", "person"] (spIni C "person" (Fm K)) :=
  ini_fn F sc_iHere bas_RE T hno hm (by kernel_rfl) vV (by decide +kernel) (by decide +kernel) (by decide) (by decide) (by with_unfolding_all rfl) (by with_unfolding_all rfl) (by with_unfolding_all rfl) (by decide) (by decide)
    (fun X h => by unfold Gl; unfold Env.kindOf; rw [h]; with_unfolding_all rfl) _ (fun X h => by with_unfolding_all rfl) (fun X hr hN h => ⟨_, (.cons (txt_c 100 (by decide +kernel)) (.cons (txt_v hr hN (h ▸ .inl (by with_unfolding_all rfl)) (by decide) (by decide)) (.cons (txt_c 100 (by decide +kernel)) .nil))), by decide⟩) (fun X h => by with_unfolding_all rfl) (fun X h => by with_unfolding_all rfl)
abbrev s_iFull : Stmt := clsS (topS 5) 0
theorem sc_iFull : FnScope ["self", "many"] ["self", "many"] (defScope s_iFull) := ⟨rfl, rfl, rfl, by decide +kernel, rfl, by decide +kernel, by decide +kernel⟩
theorem ini_Full {P : Program} {w : World} {K : PySem.W.Frag} {mg : Str → Option Value} {base : Heap} {f C : Addr} {fd : FuncData} (F : Fun K "__init__" "Full.__init__" s_iFull f fd) (T : Oxg K C "OverflowError.__new__" [.type "OverflowError", .type "ArithmeticError", .type "Exception", .type "BaseException", .type "object"])
    (hno : PySem.W.findIn K (.ref C) "many" = some none) (hm : mg "OverflowError" = none) (vV : PySem.W.findCls K (.type "OverflowError") (.type "type") "__init__" = some (.val (.builtin "OverflowError.__init__"))) :
    FnOk P w K mg base CX0 1 f fd ["self", "many"] (spIni C "many" (Fm K)) :=
  ini_fn F sc_iFull bas_OE T hno hm (by kernel_rfl) vV (by decide +kernel) (by decide +kernel) (by decide) (by decide) (by with_unfolding_all rfl) (by with_unfolding_all rfl) (by with_unfolding_all rfl) (by decide) (by decide)
    (fun X h => by unfold Gl; unfold Env.kindOf; rw [h]; with_unfolding_all rfl) _ (fun X h => by with_unfolding_all rfl) (fun X hr hN h => ⟨_, (.cons (txt_c 100 (by decide +kernel)) (.cons (txt_v hr hN (h ▸ .inl (by with_unfolding_all rfl)) (by decide) (by decide)) (.cons (txt_c 100 (by decide +kernel)) .nil))), by decide⟩) (fun X h => by with_unfolding_all rfl) (fun X h => by with_unfolding_all rfl)
abbrev s_plain : Stmt := topS 7
theorem sc_plain : FnScope ["company", "friends", "need"] ["company"] (defScope s_plain) := ⟨rfl, rfl, rfl, by decide +kernel, rfl, by decide +kernel, by decide +kernel⟩
abbrev s_look_person : Stmt := topS 8
theorem sc_look_person : FnScope ["company", "person"] ["company", "person"] (defScope s_look_person) := ⟨rfl, rfl, rfl, by decide +kernel, rfl, by decide +kernel, by decide +kernel⟩
abbrev s_with_need : Stmt := topS 9
theorem sc_with_need : FnScope ["company", "person", "need", "found"] ["company", "person", "need"] (defScope s_with_need) := ⟨rfl, rfl, rfl, by decide +kernel, rfl, by decide +kernel, by decide +kernel⟩
abbrev s_count_there : Stmt := topS 11
theorem sc_count_there : FnScope ["company", "person", "there", "friend"] ["company", "person", "there"] (defScope s_count_there) := ⟨rfl, rfl, rfl, by decide +kernel, rfl, by decide +kernel, by decide +kernel⟩
abbrev s_can_come : Stmt := topS 12
theorem sc_can_come : FnScope ["company", "person", "there"] ["company", "person", "there"] (defScope s_can_come) := ⟨rfl, rfl, rfl, by decide +kernel, rfl, by decide +kernel, by decide +kernel⟩
abbrev s_next_people : Stmt := topS 13
theorem sc_next_people : FnScope ["company", "people", "others", "person"] ["company", "people"] (defScope s_next_people) := ⟨rfl, rfl, rfl, by decide +kernel, rfl, by decide +kernel, by decide +kernel⟩
abbrev s_all_rounds : Stmt := topS 15
theorem sc_all_rounds : FnScope ["company", "begin", "barred", "there", "found", "some", "person"] ["company", "begin", "barred"] (defScope s_all_rounds) := ⟨rfl, rfl, rfl, by decide +kernel, rfl, by decide +kernel, by decide +kernel⟩
abbrev s_closure : Stmt := topS 16
theorem sc_closure : FnScope ["company", "begin", "barred", "found", "some"] ["company", "begin", "barred"] (defScope s_closure) := ⟨rfl, rfl, rfl, by decide +kernel, rfl, by decide +kernel, by decide +kernel⟩
abbrev s_came_later : Stmt := topS 19
theorem sc_came_later : FnScope ["company", "came", "person"] ["company", "came", "person"] (defScope s_came_later) := ⟨rfl, rfl, rfl, by decide +kernel, rfl, by decide +kernel, by decide +kernel⟩
abbrev s_m___init__ : Stmt := clsS (topS 20) 0
theorem sc_m___init__ : FnScope ["self", "company"] ["self", "company"] (defScope s_m___init__) := ⟨rfl, rfl, rfl, by decide +kernel, rfl, by decide +kernel, by decide +kernel⟩
abbrev s_m_company : Stmt := clsS (topS 20) 1
theorem sc_m_company : FnScope ["self"] ["self"] (defScope s_m_company) := ⟨rfl, rfl, rfl, by decide +kernel, rfl, by decide +kernel, by decide +kernel⟩
abbrev s_m_came : Stmt := clsS (topS 20) 2
theorem sc_m_came : FnScope ["self"] ["self"] (defScope s_m_came) := ⟨rfl, rfl, rfl, by decide +kernel, rfl, by decide +kernel, by decide +kernel⟩
abbrev s_m_come : Stmt := clsS (topS 20) 3
theorem sc_m_come : FnScope ["self", "person"] ["self", "person"] (defScope s_m_come) := ⟨rfl, rfl, rfl, by decide +kernel, rfl, by decide +kernel, by decide +kernel⟩
abbrev s_m_come_all : Stmt := clsS (topS 20) 4
theorem sc_m_come_all : FnScope ["self", "people", "later", "person"] ["self", "people"] (defScope s_m_come_all) := ⟨rfl, rfl, rfl, by decide +kernel, rfl, by decide +kernel, by decide +kernel⟩
abbrev s_m_meet : Stmt := clsS (topS 20) 5
theorem sc_m_meet : FnScope ["self", "found"] ["self"] (defScope s_m_meet) := ⟨rfl, rfl, rfl, by decide +kernel, rfl, by decide +kernel, by decide +kernel⟩
abbrev s_m_add_person : Stmt := clsS (topS 20) 6
theorem sc_m_add_person : FnScope ["self", "friends", "need", "friend", "person"] ["self", "friends", "need"] (defScope s_m_add_person) := ⟨rfl, rfl, rfl, by decide +kernel, rfl, by decide +kernel, by decide +kernel⟩
abbrev s_m_set_need : Stmt := clsS (topS 20) 7
theorem sc_m_set_need : FnScope ["self", "person", "need", "before"] ["self", "person", "need"] (defScope s_m_set_need) := ⟨rfl, rfl, rfl, by decide +kernel, rfl, by decide +kernel, by decide +kernel⟩
abbrev s_m_undo : Stmt := clsS (topS 20) 8
theorem sc_m_undo : FnScope ["self", "found"] ["self"] (defScope s_m_undo) := ⟨rfl, rfl, rfl, by decide +kernel, rfl, by decide +kernel, by decide +kernel⟩
abbrev s_m_waiting : Stmt := clsS (topS 20) 9
theorem sc_m_waiting : FnScope ["self", "person"] ["self"] (defScope s_m_waiting) := ⟨rfl, rfl, rfl, by decide +kernel, rfl, by decide +kernel, by decide +kernel⟩
abbrev s_m_next_people : Stmt := clsS (topS 20) 10
theorem sc_m_next_people : FnScope ["self"] ["self"] (defScope s_m_next_people) := ⟨rfl, rfl, rfl, by decide +kernel, rfl, by decide +kernel, by decide +kernel⟩
abbrev s_m_will_never : Stmt := clsS (topS 20) 11
theorem sc_m_will_never : FnScope ["self", "there", "person"] ["self"] (defScope s_m_will_never) := ⟨rfl, rfl, rfl, by decide +kernel, rfl, by decide +kernel, by decide +kernel⟩
abbrev s_m_operations : Stmt := clsS (topS 20) 12
theorem sc_m_operations : FnScope ["self"] ["self"] (defScope s_m_operations) := ⟨rfl, rfl, rfl, by decide +kernel, rfl, by decide +kernel, by decide +kernel⟩
abbrev s_m_as_of : Stmt := clsS (topS 20) 13
theorem sc_m_as_of : FnScope ["self", "many", "found"] ["self", "many"] (defScope s_m_as_of) := ⟨rfl, rfl, rfl, by decide +kernel, rfl, by decide +kernel, by decide +kernel⟩
abbrev s_m_twin : Stmt := clsS (topS 20) 14
theorem sc_m_twin : FnScope ["self"] ["self"] (defScope s_m_twin) := ⟨rfl, rfl, rfl, by decide +kernel, rfl, by decide +kernel, by decide +kernel⟩
abbrev s_m_log : Stmt := clsS (topS 20) 15
theorem sc_m_log : FnScope ["self"] ["self"] (defScope s_m_log) := ⟨rfl, rfl, rfl, by decide +kernel, rfl, by decide +kernel, by decide +kernel⟩
abbrev s_m___eq__ : Stmt := clsS (topS 20) 16
theorem sc_m___eq__ : FnScope ["self", "other"] ["self", "other"] (defScope s_m___eq__) := ⟨rfl, rfl, rfl, by decide +kernel, rfl, by decide +kernel, by decide +kernel⟩
abbrev s_m___len__ : Stmt := clsS (topS 20) 17
theorem sc_m___len__ : FnScope ["self"] ["self"] (defScope s_m___len__) := ⟨rfl, rfl, rfl, by decide +kernel, rfl, by decide +kernel, by decide +kernel⟩
abbrev s_m___repr__ : Stmt := clsS (topS 20) 18
theorem sc_m___repr__ : FnScope ["self"] ["self"] (defScope s_m___repr__) := ⟨rfl, rfl, rfl, by decide +kernel, rfl, by decide +kernel, by decide +kernel⟩
abbrev s_cell_at_l : Stmt := topS 22
theorem sc_cell_at_l : FnScope ["_law_script", "_law_k"] ["_law_script", "_law_k"] (defScope s_cell_at_l) := ⟨rfl, rfl, rfl, by decide +kernel, rfl, by decide +kernel, by decide +kernel⟩
abbrev s_box_l : Stmt := topS 23
theorem sc_box_l : FnScope ["_law_script", "_law_k", "_law_core"] ["_law_script", "_law_k"] (defScope s_box_l) := ⟨rfl, rfl, rfl, by decide +kernel, rfl, by decide +kernel, by decide +kernel⟩
abbrev s_take_l : Stmt := topS 24
theorem sc_take_l : FnScope ["_law_box_here", "_law_below", "_law_found", "_law_once", "_law_twice"] ["_law_box_here", "_law_below"] (defScope s_take_l) := ⟨rfl, rfl, rfl, by decide +kernel, rfl, by decide +kernel, by decide +kernel⟩
abbrev s_of_l : Stmt := topS 25
theorem sc_of_l : FnScope ["_law_box_here", "_law_some"] ["_law_box_here", "_law_some"] (defScope s_of_l) := ⟨rfl, rfl, rfl, by decide +kernel, rfl, by decide +kernel, by decide +kernel⟩
abbrev s_same_l : Stmt := topS 26
theorem sc_same_l : FnScope ["_law_found", "_law_due", "_law_a", "_law_b"] ["_law_found", "_law_due"] (defScope s_same_l) := ⟨rfl, rfl, rfl, by decide +kernel, rfl, by decide +kernel, by decide +kernel⟩
abbrev s_crowd_of_l : Stmt := topS 27
theorem sc_crowd_of_l : FnScope ["_law_box_here", "_law_count", "_law_found", "_law_dense", "_law_soul", "_law_pals", "_law_kind", "_law_due", "_law_its"] ["_law_box_here", "_law_count"] (defScope s_crowd_of_l) := ⟨rfl, rfl, rfl, by decide +kernel, rfl, by decide +kernel, by decide +kernel⟩
abbrev s_crowd_l : Stmt := topS 28
theorem sc_crowd_l : FnScope ["_law_box_here", "_law_most"] ["_law_box_here", "_law_most"] (defScope s_crowd_l) := ⟨rfl, rfl, rfl, by decide +kernel, rfl, by decide +kernel, by decide +kernel⟩
abbrev s_seen_of_l : Stmt := topS 29
theorem sc_seen_of_l : FnScope ["_law_hall", "_law_found"] ["_law_hall"] (defScope s_seen_of_l) := ⟨rfl, rfl, rfl, by decide +kernel, rfl, by decide +kernel, by decide +kernel⟩
abbrev s_led_l : Stmt := topS 30
theorem sc_led_l : FnScope ["_law_box_here", "_law_hall", "_law_sort", "_law_ready", "_law_size", "_law_soul"] ["_law_box_here", "_law_hall"] (defScope s_led_l) := ⟨rfl, rfl, rfl, by decide +kernel, rfl, by decide +kernel, by decide +kernel⟩
abbrev s_copy_right_l : Stmt := topS 31
theorem sc_copy_right_l : FnScope ["_law_box_here", "_law_hall", "_law_copy", "_law_due", "_law_ahead", "_law_kept", "_law_log", "_law_word"] ["_law_box_here", "_law_hall", "_law_copy", "_law_due", "_law_ahead"] (defScope s_copy_right_l) := ⟨rfl, rfl, rfl, by decide +kernel, rfl, by decide +kernel, by decide +kernel⟩
abbrev s_apart_right_l : Stmt := topS 32
theorem sc_apart_right_l : FnScope ["_law_box_here", "_law_hall", "_law_seen", "_law_count", "_law_halls", "_law_due", "_law_at", "_law_turn", "_law_mate", "_law_told", "_law_some"] ["_law_box_here", "_law_hall", "_law_seen"] (defScope s_apart_right_l) := ⟨rfl, rfl, rfl, by decide +kernel, rfl, by decide +kernel, by decide +kernel⟩
abbrev s_equal_right_l : Stmt := topS 33
theorem sc_equal_right_l : FnScope ["_law_hall", "_law_twin", "_law_size", "_law_other_twin", "_law_others", "_law_some"] ["_law_hall"] (defScope s_equal_right_l) := ⟨rfl, rfl, rfl, by decide +kernel, rfl, by decide +kernel, by decide +kernel⟩
abbrev s_right_l : Stmt := topS 34
theorem sc_right_l : FnScope ["_law_box_here", "_law_hall", "_law_seen", "_law_turn", "_law_at", "_law_due", "_law_log", "_law_copy"] ["_law_box_here"] (defScope s_right_l) := ⟨rfl, rfl, rfl, by decide +kernel, rfl, by decide +kernel, by decide +kernel⟩
abbrev s_law : Stmt := topS 35
theorem sc_law : FnScope ["_law_script", "_law_k"] ["_law_script"] (defScope s_law) := ⟨rfl, rfl, rfl, by decide +kernel, rfl, by decide +kernel, by decide +kernel⟩
local macro_rules | `(tactic| walk_at "vis") => `(tactic| with_unfolding_all first | exact Or.inl rfl | exact Or.inr (Or.inl rfl) | exact Or.inr (Or.inr rfl))
local macro_rules | `(tactic| walk_at "loc") => `(tactic| with_unfolding_all first | exact Or.inl rfl | exact Or.inr rfl)
local macro_rules | `(tactic| walk_at "nm") => `(tactic| with_reducible assumption)
local macro_rules | `(tactic| walk_at "rfl") => `(tactic| with_unfolding_all rfl)
local macro_rules | `(tactic| walk_at "room") => `(tactic| first | assumption | exact Room.mono (by assumption) (by decide))
local macro_rules | `(tactic| walk_at "ct") => `(tactic| with_unfolding_all first | exact Ct.l _ | exact Ct.t _ | exact Ct.c 0 rfl | exact Ct.c 1 rfl | exact Ct.c 2 rfl | exact Ct.c 3 rfl | exact Ct.c 4 rfl)
local macro_rules | `(tactic| walk_at "vw") => `(tactic| with_unfolding_all first | exact Vw.d _ | exact Vw.c 0 rfl | exact Vw.c 1 rfl | exact Vw.c 2 rfl | exact Vw.c 3 rfl | exact Vw.c 4 rfl)
local macro_rules | `(tactic| walk_at "e") => `(tactic| with_reducible first
  | refine we_name _ (by assumption) (by walk_at "vis") (by walk_at "rfl") ?_
  | refine we_int ?_
  | refine we_bl ?_
  | refine we_non ?_
  | refine we_str ?_
  | refine we_ix ix_seq (by with_unfolding_all exact fun _ _ => rfl) ?_
  | refine we_cmp (op := .Lt) op_lt (nomark _) ?_
  | refine we_cmp (op := .LtE) op_le (nomark _) ?_
  | refine we_cmp (op := .Gt) op_gt (nomark _) ?_
  | refine we_cmp (op := .GtE) op_ge (nomark _) ?_
  | refine we_bin (op := .Add) o_add ?_
  | refine we_bin (op := .Sub) op_sub ?_
  | refine we_bin (op := .Mult) o_mul ?_
  | refine we_bin (op := .Mod) op_mod ?_
  | refine we_bin (op := .FloorDiv) op_fdiv ?_
  | refine we_bin (op := .Pow) op_pow ?_
  | refine we_un (op := .USub) un_neg ?_
  | refine we_cmp (op := .In) op_in_seq (by walk_at "rfl") ?_
  | refine we_cmp (op := .NotIn) op_notIn_seq (by walk_at "rfl") ?_)
local macro_rules | `(tactic| walk_at "eq") => `(tactic| with_reducible first
  | refine we_cmp (op := .Eq) (op_eqD (Room.units (k := 0) (by with_unfolding_all exact Room.mono (by assumption) (Nat.zero_le _)))) (nomark _) ?_
  | refine we_cmp (op := .NotEq) (op_neD (Room.units (k := 0) (by with_unfolding_all exact Room.mono (by assumption) (Nat.zero_le _)))) (nomark _) ?_
  | refine we_cmp (op := .Is) op_isN (nomark _) ?_
  | refine we_cmp (op := .IsNot) op_notN (nomark _) ?_)
local macro_rules | `(tactic| walk_at "t") => `(tactic| with_reducible first
  | refine wt_cmp (op := .Lt) op_lt (nomark _) ?_
  | refine wt_cmp (op := .LtE) op_le (nomark _) ?_
  | refine wt_cmp (op := .Gt) op_gt (nomark _) ?_
  | refine wt_cmp (op := .GtE) op_ge (nomark _) ?_
  | refine wt_cmp (op := .In) op_in_seq (by walk_at "rfl") ?_
  | refine wt_cmp (op := .NotIn) op_notIn_seq (by walk_at "rfl") ?_
  | refine wt_cmp (op := .Eq) (op_eqD (Room.units (k := 0) (by with_unfolding_all exact Room.mono (by assumption) (Nat.zero_le _)))) (nomark _) ?_
  | refine wt_cmp (op := .NotEq) (op_neD (Room.units (k := 0) (by with_unfolding_all exact Room.mono (by assumption) (Nat.zero_le _)))) (nomark _) ?_
  | refine wt_cmp (op := .Is) op_isN (nomark _) ?_
  | refine wt_cmp (op := .IsNot) op_notN (nomark _) ?_
  | refine wt_not ?_
  | refine wt_w (ww_and ?_)
  | refine wt_w (ww_or ?_)
  | refine ww_and ?_
  | refine ww_or ?_
  | refine ww_and1 ?_
  | refine ww_or1 ?_
  | refine wt_val ?_ (by with_unfolding_all exact fun _ => rfl))
local macro_rules | `(tactic| walk_at "go1") => `(tactic| with_reducible first
  | walk_at "e"
  | refine ow_add ?_
  | refine ow_sub ?_
  | refine ow_cmp ?_
  | refine uw_neg ?_
  | refine wa_cons ?_ (by walk_at "rfl")
  | refine wa_nil ?_)
local macro_rules | `(tactic| walk_at "go") => `(tactic| repeat (walk_at "go1"))
local macro_rules | `(tactic| walk_at "so") => `(tactic| first | assumption | omega | (exact rfl) | decide | (simp only [List.length_map, List.length_append, List.length_cons, List.length_nil]; omega))
local macro_rules | `(tactic| walk_at "pl") => `(tactic| repeat' first | exact plS_nil | exact plS_map (fun _ => rfl) | refine plS_app ?_ ?_ | refine plS_cons rfl ?_ | assumption)
local macro_rules | `(tactic| walk_at "shp") => `(tactic| first | exact shaped_lst _ | exact shaped_tup _ | exact prs_shaped _ | exact tups_shaped _ | exact natsD_shaped _ | rfl | exact fits_shaped (by assumption))
local macro_rules | `(tactic| walk_at "lk") => `(tactic| with_unfolding_all first | exact Lk.d _ | exact Lk.c 0 rfl | exact Lk.c 1 rfl | exact Lk.c 2 rfl)
local macro_rules | `(tactic| walk_at "len") => `(tactic| first | omega | (simp only [List.length_append, List.length_cons, List.length_nil, List.length_map]; omega) | (simp; done) | (simp; omega) | (simp only [List.length_append, List.length_cons, List.length_nil, lgs_len]; omega))
local macro_rules | `(tactic| walk_at "txt") => `(tactic| first | omega | assumption | (decide +kernel))
section
variable {P : Program} {w : World} {K : PySem.W.Frag} {mg : Str → Option Value} {base : Heap} {c_BadText c_BadLine c_Contradiction c_Stuck c_Misfit c_NoInvitation c_NoPerson c_NoPlace c_NoNumber c_NoOperation c_Blocked c_Early c_Here c_TooMany c_Full c_Gathering : Addr}
theorem ok_plain {f : Addr} {fd : FuncData} (F : Fun K "plain" "plain" s_plain f fd) (B : Bl mg) : FnG P w K mg base CX0 1 f fd ["company"] (spW K T_plain2) := by
  refine fn_w F sc_plain (by decide) (fun xs μ R h => ?_) fun cdv A outer s H E hr hgd xs μ R hT => ?_
  · rcases h with ⟨dc, c, rfl, _⟩ | ⟨rfl, _⟩ <;> rfl
  · rcases hT with hT | ⟨rfl, hR⟩
    · obtain ⟨dc, c, rfl, hc, hR⟩ := hT
      refine wb_names (N := ["company", "friends", "need"]) rfl fun hn => ?_
      have n0 := hn 0 _ rfl
      have n1 := hn 1 _ rfl
      have n2 := hn 2 _ rfl
      obtain ⟨ds, sq, al⟩ := hc.sq
      obtain ⟨z1, z2, z3⟩ := allD_zip al
      have hzl : (ds.zip c).length ≤ 1000 := by
        have h1 := congrArg List.length z2
        rw [List.length_map] at h1
        rw [h1]
        exact hc.len
      refine wb_one (ws_ret ?_)
      refine we_tuple B rfl ?_
      refine we_lc [("friends", 1), ("need", 2)] rfl sc_plain.nd (blkOk_by (N := ["company", "friends", "need"]) (sc := defScope s_plain) (by decide +kernel)) (lcP (Prod.fst : PyData × (List Int × Int) → PyData) (fun _ => true) (fun z => enD z.2) ?_)
      refine wi_seq ?_
      walk_at "e"
      refine ⟨_, seqd_sq sq, ds.zip c, z1.symm, by omega, fun z hz => ?_, fun q => ?_⟩
      · obtain ⟨df, q1, q2⟩ := z3 z hz
        have hfr := hc.frs z.2 (by
          rw [← z2]
          exact List.mem_map_of_mem hz)
        intro s1 H1 C cl fp
        refine wg_sq (ds := [_, _]) q1 rfl ?_
        refine wgs_cons ?_
        refine wg_name 1 sc_plain.nd n1 (by walk_at "loc") (by first | exact .inl rfl | exact .inr rfl) (by decide) ?_
        refine wgs_cons ?_
        refine wg_name 2 sc_plain.nd n2 (by walk_at "loc") (by first | exact .inl rfl | exact .inr rfl) (by decide) ?_
        refine wgs_nil ?_
        intro s1 H1 C cl fp
        refine wts_nil ⟨rfl, itT rfl ?_⟩
        intro s1 H1 C cl fp
        refine we_tup ?_
        refine wa_cons ?_
        refine we_tuple B rfl ?_
        walk_at "e"
        refine ⟨_, ct_sq q2, ?_⟩
        refine wa_one ?_
        walk_at "e"
        exact ⟨_, rfl, by simp, rfl, rfl⟩
      rw [filt_all]
      have e : (ds.zip c).map (fun z => enD z.2) = c.map enD := by
        conv => rhs; rw [← z2]
        rw [List.map_map]
        rfl
      rw [e]
      refine ⟨_, .c 0 rfl, ?_⟩
      exact keep_drop (keep hR)
    · skip
      refine wb_names (N := ["company", "friends", "need"]) rfl fun hn => ?_
      have n0 := hn 0 _ rfl
      have n1 := hn 1 _ rfl
      have n2 := hn 2 _ rfl
      refine wb_one (ws_ret ?_)
      refine we_tuple B rfl ?_
      refine we_fz ?_
      refine we_lc [("friends", 1), ("need", 2)] rfl sc_plain.nd (blkOk_by (N := ["company", "friends", "need"]) (sc := defScope s_plain) (by decide +kernel)) (lcP (fun _ : Int => PyData.none) (fun _ => true) (fun _ => PyData.none) ?_)
      refine wi_w ?_
      walk_at "e"
      refine ⟨[], rfl, [], rfl, by simp, fun x hx => (by cases hx), fun zq => ?_⟩
      refine ⟨zq, _, _, rfl, rfl, plS_map fun _ => rfl, ?_⟩
      refine ⟨_, .l _, ?_⟩
      exact keep hR
theorem ok_look_person {f : Addr} {fd : FuncData} (F : Fun K "look_person" "look_person" s_look_person f fd) (B : Bl mg) : FnG P w K mg base CX0 1 f fd ["company", "person"] (spW K T_lookp) := by
  refine fn_w F sc_look_person (by decide) (fun xs μ R h => ?_) fun cdv A outer s H E hr hgd xs μ R hT => ?_
  · obtain ⟨dc, c, p, rfl, _⟩ := h
    rfl
  · obtain ⟨dc, c, p, rfl, hc, h0, h1, hR⟩ := hT
    refine wb_names (N := ["company", "person"]) rfl fun hn => ?_
    have n0 := hn 0 _ rfl
    have n1 := hn 1 _ rfl
    obtain ⟨ds, sq, al⟩ := hc.sq
    have hlen := allD_len al
    refine wb_one (ws_if ?_)
    refine wt_not ?_
    refine wt_chain op_le op_lt ?_
    walk_at "go"
    refine ⟨_, rfl, itT (decide_eq_true h0) fun y' ey => ?_⟩
    subst ey
    refine we_len B rfl ?_
    walk_at "e"
    refine ⟨ds, ct_sq sq, ?_⟩
    refine ow_cmp ⟨_, rfl, ?_⟩
    rw [decide_eq_true (show p < ((ds.length : Nat) : Int) by omega)]
    refine itF rfl ?_
    exact wb_nil (keep hR)
theorem okx_look_person {f : Addr} {fd : FuncData} (F : Fun K "look_person" "look_person" s_look_person f fd) (B : Bl mg) (m1 : ExcM P w K mg base 1 "NoPerson" "person" c_NoPerson) : FnG P w K mg base (L2.CX P w) 3 f fd ["company", "person"] (spX K (T_lookpX c_NoPerson)) := by
  refine fn_wx F sc_look_person (by decide) (fun xs μ R RE h => ?_) fun cdv A outer s H E hr hgd xs μ R RE hT => ?_
  · obtain ⟨dc, c, p, rfl, _⟩ := h
    rfl
  · obtain ⟨dc, c, p, rfl, hc, hl, hp, hf, hR⟩ := hT
    refine wbx_names (N := ["company", "person"]) rfl fun hn => ?_
    have n0 := hn 0 _ rfl
    have n1 := hn 1 _ rfl
    obtain ⟨ds, sq, al⟩ := hc.sq
    have hlen := allD_len al
    refine wbx_one (wsx_if ?_)
    refine wt_not ?_
    refine wt_chain op_le op_lt ?_
    walk_at "go"
    by_cases h0 : 0 ≤ p
    · refine ⟨_, rfl, itT (decide_eq_true h0) fun y' ey => ?_⟩
      subst ey
      refine we_len B rfl ?_
      walk_at "e"
      refine ⟨ds, ct_sq sq, ?_⟩
      refine ow_cmp ⟨_, rfl, ?_⟩
      rw [decide_eq_false (show ¬ p < ((ds.length : Nat) : Int) by omega)]
      refine itT rfl ?_
      refine wbx_one (wsx_raise m1 bXx_takes rfl (by walk_at "room") rfl ?_)
      walk_at "e"
      exact ⟨_, rfl, hf, keep hR⟩
    · refine ⟨_, rfl, itF (decide_eq_false h0) ?_⟩
      refine itT rfl ?_
      refine wbx_one (wsx_raise m1 bXx_takes rfl (by walk_at "room") rfl ?_)
      walk_at "e"
      exact ⟨_, rfl, hf, keep hR⟩
theorem ok_with_need {f : Addr} {fd : FuncData} (F : Fun K "with_need" "with_need" s_with_need f fd) (B : Bl mg) (c1 : Cal P w K mg base 1 "look_person" T_lookp) (c2 : Cal P w K mg base 1 "plain" T_plain) : FnG P w K mg base CX0 2 f fd ["company", "person", "need"] (spW K T_withn) := by
  refine fn_w F sc_with_need (by decide) (fun xs μ R h => ?_) fun cdv A outer s H E hr hgd xs μ R hT => ?_
  · obtain ⟨dc, c, p, v, rfl, _⟩ := h
    rfl
  · obtain ⟨dc, c, p, v, rfl, hc, h0, h1, hR⟩ := hT
    refine wb_names (N := ["company", "person", "need", "found"]) rfl fun hn => ?_
    have n0 := hn 0 _ rfl
    have n1 := hn 1 _ rfl
    have n2 := hn 2 _ rfl
    have n3 := hn 3 _ rfl
    obtain ⟨k, rfl⟩ := Int.eq_ofNat_of_zero_le h0
    have hk : k < c.length := by omega
    refine wb_cons (ws_expr ?_)
    refine we_callP c1 (by walk_at "room") rfl ?_
    refine wa_cons ?_
    walk_at "e"
    refine wa_one ?_
    walk_at "e"
    refine ⟨_, _, _, rfl, hc, h0, h1, ?_⟩
    refine wb_cons ?_
    refine ws_set 3 sc_with_need.nd n3 (by walk_at "loc") (by first | exact .inl rfl | exact .inr rfl) ?_
    refine we_list B rfl ?_
    refine we_callP c2 (by walk_at "room") rfl ?_
    refine wa_one ?_
    walk_at "e"
    have hl := hc.len
    refine ⟨_, c, rfl, hc, ?_⟩
    refine ⟨_, .t _, fun q => ?_⟩
    refine wb_cons ?_
    refine ws_asg [] ?_
    refine we_tup ?_
    refine wa_cons ?_
    walk_at "e"
    walk_at "e"
    walk_at "e"
    walk_at "e"
    refine ow_ixC 0 rfl (atI_enD hk) (.inl ⟨rfl, ?_⟩)
    walk_at "e"
    refine ow_ix (.t _) (atI_nat (j := 0) rfl) ?_
    refine wa_one ?_
    walk_at "e"
    refine ⟨[.tuple (intsD (c.getD k ([], 0)).1), .int v], rfl, by simp, ?_⟩
    refine wg_setL ?_
    walk_at "e"
    walk_at "e"
    refine ⟨q, _, k, 0, rfl, rfl, rfl, by rw [List.length_map]; exact hk, ?_⟩
    rw [coD_wn hk]
    refine wb_one (ws_ret (we_tuple B rfl ?_))
    walk_at "e"
    refine ⟨_, .c 0 rfl, ?_⟩
    exact keep_drop (keep hR)
theorem ok_count_there {f : Addr} {fd : FuncData} (F : Fun K "count_there" "count_there" s_count_there f fd) (B : Bl mg) : FnG P w K mg base CX0 1 f fd ["company", "person", "there"] (spW K T_cnt) := by
  refine fn_w F sc_count_there (by decide) (fun xs μ R h => ?_) fun cdv A outer s H E hr hgd xs μ R hT => ?_
  · obtain ⟨dc, c, p, dt, t, rfl, _⟩ := h
    rfl
  · obtain ⟨dc, c, p, dt, t, rfl, hc, h0, h1, ht, hR⟩ := hT
    refine wb_names (N := ["company", "person", "there", "friend"]) rfl fun hn => ?_
    have n0 := hn 0 _ rfl
    have n1 := hn 1 _ rfl
    have n2 := hn 2 _ rfl
    have n3 := hn 3 _ rfl
    obtain ⟨ds, de, sq, ha, df, hde, hdf⟩ := co_at hc h0 h1
    refine wb_one (ws_ret (we_len B rfl ?_))
    refine we_lc [("friend", 3)] rfl sc_count_there.nd (blkOk_by (N := ["company", "person", "there", "friend"]) (sc := defScope s_count_there) (by decide +kernel)) (lcP PyData.int (fun x => decide (x ∈ t)) PyData.int ?_)
    refine wi_seq ?_
    walk_at "e"
    walk_at "e"
    walk_at "e"
    walk_at "e"
    refine ow_ix (ct_sq sq) ha ?_
    walk_at "e"
    refine ow_ix (ct_sq hde) (atI_nat (j := 0) rfl) ?_
    refine ⟨_, seqd_sq hdf, _, rfl, ?_, fun x _ => ?_, fun q => ⟨_, .c 0 rfl, ?_⟩⟩
    · exact Nat.le_trans (fr_len hc) (by decide)
    · intro s1 H1 C cl fp
      refine wg_name 3 (X := _) sc_count_there.nd n3 (.inl rfl) (.inr rfl) (List.mem_singleton.mpr rfl) ?_
      intro s1 H1 C cl fp
      show WT _ _ _ _ _
      walk_at "t"
      walk_at "e"
      walk_at "e"
      refine ow_in (ct_sq ht) rfl (flat_ints t) ⟨_, rfl, inD_int x t, ?_⟩
      split
      · intro s1 H1 C cl fp
        walk_at "e"
        exact ⟨rfl, rfl⟩
      · rfl
    · rw [List.length_map]
      exact keep_drop (keep hR)
theorem ok_can_come {f : Addr} {fd : FuncData} (F : Fun K "can_come" "can_come" s_can_come f fd) (B : Bl mg) (c1 : Cal P w K mg base 1 "count_there" T_cnt) : FnG P w K mg base CX0 2 f fd ["company", "person", "there"] (spW K T_can) := by
  refine fn_w F sc_can_come (by decide) (fun xs μ R h => ?_) fun cdv A outer s H E hr hgd xs μ R hT => ?_
  · obtain ⟨dc, c, p, dt, t, rfl, _⟩ := h
    rfl
  · obtain ⟨dc, c, p, dt, t, rfl, hc, h0, h1, ht, hR⟩ := hT
    refine wb_names (N := ["company", "person", "there"]) rfl fun hn => ?_
    have n0 := hn 0 _ rfl
    have n1 := hn 1 _ rfl
    have n2 := hn 2 _ rfl
    obtain ⟨ds, de, sq, ha, df, hde, hdf⟩ := co_at hc h0 h1
    refine wb_one (ws_ret ?_)
    walk_at "e"
    refine we_callP c1 hr rfl ?_
    refine wa_cons ?_
    walk_at "e"
    refine wa_cons ?_
    walk_at "e"
    refine wa_cons ?_
    walk_at "e"
    refine wa_nil ?_
    refine ⟨dc, c, p, dt, t, rfl, hc, h0, h1, ht, ?_⟩
    walk_at "e"
    walk_at "e"
    walk_at "e"
    walk_at "e"
    refine ow_ix (ct_sq sq) ha ?_
    walk_at "e"
    refine ow_ix (ct_sq hde) (atI_nat (j := 1) rfl) ?_
    refine ow_cmp ?_
    exact keep hR
theorem ok_next_people {f : Addr} {fd : FuncData} (F : Fun K "next_people" "next_people" s_next_people f fd) (B : Bl mg) (c1 : Cal P w K mg base 2 "can_come" T_can) : FnG P w K mg base CX0 3 f fd ["company", "people"] (spW K T_next) := by
  refine fn_w F sc_next_people (by decide) (fun xs μ R h => ?_) fun cdv A outer s H E hr hgd xs μ R hT => ?_
  · obtain ⟨dc, c, dt, t, rfl, _⟩ := h
    rfl
  · obtain ⟨dc, c, dt, t, rfl, hc, ht, hR⟩ := hT
    refine wb_names (N := ["company", "people", "others", "person"]) rfl fun hn => ?_
    have n0 := hn 0 _ rfl
    have n1 := hn 1 _ rfl
    have n2 := hn 2 _ rfl
    have n3 := hn 3 _ rfl
    obtain ⟨ds, sq, al⟩ := hc.sq
    have hl := hc.len
    have hlen := allD_len al
    refine wb_cons ?_
    refine ws_setLc 2 [("person", 3)] rfl sc_next_people.nd n2 rfl (sw_true rfl rfl rfl (by decide +kernel)) (blkOk_by (N := ["company", "people", "others", "person"]) (sc := defScope s_next_people) (by decide +kernel)) (lcP PyData.int (fun p => !decide (p ∈ t)) PyData.int ?_)
    refine wi_range1 rfl B.range ?_
    refine wa_one (we_len B rfl ?_)
    walk_at "e"
    refine ⟨ds, ct_sq sq, _, rfl, by omega, by omega, rng ds.length, ?_, by rw [rng_len]; omega, fun x _ => ?_, fun q => ?_⟩
    · rw [Int.toNat_natCast, rangeD_eq]
    · intro s1 H1 C cl fp
      refine wg_name 3 sc_next_people.nd n3 (.inl rfl) (.inr rfl) (List.mem_singleton.mpr rfl) ?_
      intro s1 H1 C cl fp
      show WT _ _ _ _ _
      walk_at "t"
      walk_at "go"
      refine ow_ni (ct_sq ht) rfl (flat_ints t) ⟨_, rfl, by rw [inD_int x t], ?_⟩
      split
      · intro s1 H1 C cl fp
        walk_at "e"
        exact ⟨rfl, rfl⟩
      · rfl
    · refine wb_frz 0 [2] rfl (fun j hj => by cases List.mem_singleton.mp hj; rfl) ?_
      refine wb_one (ws_ret ?_)
      refine we_lc [("person", 3)] rfl sc_next_people.nd (blkOk_by (N := ["company", "people", "others", "person"]) (sc := defScope s_next_people) (by decide +kernel)) (lcP PyData.int (comes c t) PyData.int ?_)
      refine wi_seq ?_
      walk_at "e"
      refine ⟨_, .l _, _, rfl, ?_, fun x hx => ?_, fun q => ?_⟩
      · refine Nat.le_trans (List.length_filter_le _ _) ?_
        rw [rng_len]
        omega
      · have hx' := mem_rng.mp (List.mem_filter.mp hx).1
        intro s1 H1 C cl fp
        refine wg_name 3 sc_next_people.nd n3 (.inl rfl) (.inr rfl) (List.mem_singleton.mpr rfl) ?_
        intro s1 H1 C cl fp
        show WT _ _ _ _ _
        walk_at "t"
        refine we_callP c1 hr rfl ?_
        walk_at "go"
        refine ⟨dc, c, x, dt, t, rfl, hc, hx'.1, by omega, ht, _, rfl, rfl, ?_⟩
        split
        · intro s1 H1 C cl fp
          walk_at "e"
          exact ⟨rfl, rfl⟩
        · rfl
      · refine keep ?_
        have := hR q
        unfold nexts at this
        rw [← hlen] at this
        exact this
theorem ok_all_rounds {f : Addr} {fd : FuncData} (F : Fun K "all_rounds" "all_rounds" s_all_rounds f fd) (B : Bl mg) (c1 : Cal P w K mg base 3 "next_people_coming" T_next) : FnG P w K mg base CX0 4 f fd ["company", "begin", "barred"] (spW K T_rounds) := by
  refine fn_w F sc_all_rounds (by decide) (fun xs μ R h => ?_) fun cdv A outer s H E hr hgd xs μ R hT => ?_
  · obtain ⟨dc, c, dt, t, db, b, rfl, _⟩ := h
    rfl
  · obtain ⟨dc, c, dt, t, db, b, rfl, hc, ht, hb, htl, hR⟩ := hT
    refine wb_names (N := ["company", "begin", "barred", "there", "found", "some", "person"]) rfl fun hn => ?_
    have n0 := hn 0 _ rfl
    have n1 := hn 1 _ rfl
    have n2 := hn 2 _ rfl
    have n3 := hn 3 _ rfl
    have n4 := hn 4 _ rfl
    have n5 := hn 5 _ rfl
    have n6 := hn 6 _ rfl
    have hl := hc.len
    refine wb_cons ?_
    refine ws_par 3 4 rfl sc_all_rounds.nd n3 n4 (by decide) rfl rfl ?_ (by rfl)
    refine we_list B rfl ?_
    walk_at "e"
    refine ⟨_, ct_sq ht, fun p1 => ?_⟩
    refine we_lst (wa_nil ⟨[], rfl, by decide, fun p2 => ?_⟩)
    refine wb_one ?_
    refine ws_while PassesOwn.never (fun m δ' μ' => ∃ t' acc x5, δ' = [some (.d dc), some (.d dt), some (.d db), some (.a p1), some (.a p2), x5, none] ∧ μ' = ((p2, tups acc) :: (p1, intsD t') :: μ : Cells) ∧
      AR c t b = acc ++ rnds (m + 1) c t' b ∧ und c t' ≤ m ∧ acc.length + m ≤ 1000 ∧ t'.length + und c t' ≤ 2000) ⟨c.length, t, [], none, rfl, ?_, rfl, und_le c t, by simp; omega, by have := und_le c t; omega⟩ ?_
    · rfl
    · rintro m δ' μ' ⟨t', acc, x5, rfl, rfl, hA, hu, hm, hs⟩
      refine wt_val (we_bl ⟨true, rfl, ?_⟩)
      rw [if_pos rfl]
      refine wb_cons ?_
      refine ws_setLc 5 [("person", 6)] rfl sc_all_rounds.nd n5 rfl (sw_true rfl rfl rfl (by decide +kernel)) (blkOk_by (N := ["company", "begin", "barred", "there", "found", "some", "person"]) (sc := defScope s_all_rounds) (by decide +kernel)) (lcP PyData.int (fun p => !decide (p ∈ b)) PyData.int ?_)
      refine wi_seq (we_fz (we_callZ 1 c1 hr rfl ?_))
      walk_at "go"
      refine ⟨p1, _, _, rfl, plS_map (fun _ => rfl), .keep (.lend .nil), dc, c, _, t', rfl, hc, .inl rfl, fun q => ⟨rfl, fun y hy => ?_, q, _, _, rfl, rfl, plS_map (fun _ => rfl), _, .l _, _, rfl, ?_, fun x _ => ?_, fun q3 => ?_⟩⟩
      · cases List.mem_singleton.mp hy
        exact noLs_ints _
      · refine Nat.le_trans (List.length_filter_le _ _) (Nat.le_trans (List.length_filter_le _ _) ?_)
        rw [rng_len]
        omega
      · intro s1 H1 C cl fp
        refine wg_name 6 sc_all_rounds.nd n6 (.inl rfl) (.inr rfl) (List.mem_singleton.mpr rfl) ?_
        intro s1 H1 C cl fp
        show WT _ _ _ _ _
        walk_at "t"
        walk_at "go"
        refine ow_ni (ct_sq hb) rfl (flat_ints b) ⟨_, rfl, by rw [inD_int x b], ?_⟩
        split
        · intro s1 H1 C cl fp
          walk_at "e"
          exact ⟨rfl, rfl⟩
        · rfl
      ·
        have es : ((nexts c t').filter fun p => !decide (p ∈ b)).map PyData.int = intsD (stp c t' b) := rfl
        have sl := stp_sum c t' b
        rw [es]
        refine wb_cons (ws_if ?_)
        walk_at "t"
        refine we_len B rfl ?_
        walk_at "e"
        refine ⟨_, .c 0 rfl, ?_⟩
        walk_at "e"
        refine ow_eq (.d _) (.d _) rfl rfl ⟨_, rfl, ?_⟩
        have e0 : PyData.eqv (.int ((intsD (stp c t' b)).length : Nat)) (.int 0) = decide (stp c t' b = []) := by
          simp only [PyData.eqv, List.length_map]
          cases stp c t' b <;> simp <;> omega
        rw [e0]
        unfold rnds at hA
        split
        · rename_i e1
          have e2 := of_decide_eq_true e1
          rw [if_pos e2, List.append_nil] at hA
          refine wb_one (ws_ret ?_)
          walk_at "e"
          refine keep_drop (keep_perm (List.Perm.swap _ _ _) (keep_drop (keep ?_)))
          rw [← hA]
          exact hR p2
        · rename_i e1
          have e2 : stp c t' b ≠ [] := fun z => e1 (decide_eq_true z)
          rw [if_neg e2] at hA
          have lt := stp_lt e2
          refine wb_nil ?_
          refine wb_cons (ws_expr ?_)
          refine we_append ?_
          walk_at "e"
          refine ⟨p2, _, ⟨1, rfl⟩, rfl, ?_⟩
          refine we_tuple B rfl ?_
          walk_at "e"
          refine ⟨_, .c 0 rfl, _, _, 1, rfl, rfl, by rw [List.length_map]; omega, ?_⟩
          refine wb_cons (ws_expr ?_)
          refine we_extend ?_
          walk_at "e"
          refine ⟨p1, _, ⟨2, rfl⟩, rfl, ?_⟩
          walk_at "e"
          refine ⟨_, _, _, 2, 0, rfl, rfl, rfl, by rw [List.length_map, List.length_map]; omega, ?_⟩
          refine wb_nilK (keep_drop (keep ⟨m - 1, by omega, t' ++ stp c t' b, acc ++ [stp c t' b], some (.a q3), rfl, ?_, ?_, by omega, by rw [List.length_append, List.length_singleton]; omega, by rw [List.length_append]; omega⟩))
          · simp [tups, intsD]
          · rw [hA, List.append_assoc]
            have : m - 1 + 1 = m := by omega
            rw [this]
            rfl
theorem ok_closure {f : Addr} {fd : FuncData} (F : Fun K "closure" "closure" s_closure f fd) (B : Bl mg) (c1 : Cal P w K mg base 4 "all_rounds" T_rounds) : FnG P w K mg base CX0 5 f fd ["company", "begin", "barred"] (spW K T_closure) := by
  refine fn_w F sc_closure (by decide) (fun xs μ R h => ?_) fun cdv A outer s H E hr hgd xs μ R hT => ?_
  · obtain ⟨dc, c, dt, t, db, b, rfl, _⟩ := h
    rfl
  · obtain ⟨dc, c, dt, t, db, b, rfl, hc, ht, hb, htl, hR⟩ := hT
    refine wb_names (N := ["company", "begin", "barred", "found", "some"]) rfl fun hn => ?_
    have n0 := hn 0 _ rfl
    have n1 := hn 1 _ rfl
    have n2 := hn 2 _ rfl
    have n3 := hn 3 _ rfl
    have n4 := hn 4 _ rfl
    have hl := hc.len
    have hfl := cl_len c t b
    refine wb_cons ?_
    refine ws_set 3 sc_closure.nd n3 (.inl rfl) (.inl rfl) ?_
    refine we_list B rfl ?_
    walk_at "e"
    refine ⟨_, ct_sq ht, fun p1 => ?_⟩
    refine wb_cons ?_
    refine ws_for [4] PassesOwn.never rfl ?_
    refine wi_seq (we_fz (we_callP c1 hr rfl ?_))
    walk_at "go"
    refine ⟨dc, c, dt, t, db, b, rfl, hc, ht, hb, by omega, fun q => ⟨q, _, _, rfl, rfl, plS_map (fun _ => rfl), _, .l _, ?_⟩⟩
    refine ⟨fun i δ' μ' => ∃ x4, δ' = [some (.d dc), some (.d dt), some (.d db), some (.a p1), x4] ∧ μ' = ((p1, intsD (t ++ ((AR c t b).take i).flatten)) :: μ : Cells), ⟨none, rfl, by simp⟩, fun i d δ' μ' hd hI => ?_, fun δ' μ' hI => ?_⟩
    · obtain ⟨x4, rfl, rfl⟩ := hI
      rw [List.getElem?_map] at hd
      cases hq : (AR c t b)[i]? with
      | none =>
        rw [hq] at hd
        cases hd
      | some r =>
        rw [hq] at hd
        cases hd
        refine wg_name 4 sc_closure.nd n4 (.inl rfl) (.inl rfl) (List.mem_singleton.mpr rfl) ?_
        refine wb_cons (ws_expr ?_)
        refine we_extendT ?_
        walk_at "e"
        refine ⟨p1, _, ⟨0, rfl⟩, rfl, ?_⟩
        walk_at "e"
        have lt := (List.getElem?_eq_some_iff.mp hq).1
        have e1 : ((AR c t b).take (i + 1)).flatten = ((AR c t b).take i).flatten ++ r := by rw [List.take_add_one, hq]; simp
        refine ⟨_, _, 0, rfl, rfl, ?_, ?_⟩
        · have : (((AR c t b).take (i + 1)).flatten).length ≤ ((AR c t b).flatten).length := by
            have e2 : (AR c t b).flatten = ((AR c t b).take (i + 1)).flatten ++ ((AR c t b).drop (i + 1)).flatten := by rw [← List.flatten_append, List.take_append_drop]
            rw [e2, List.length_append]
            omega
          rw [e1] at this
          simp only [List.length_append, List.length_map] at this hfl ⊢
          omega
        · refine wb_nil ⟨some (.d (.tuple (intsD r))), rfl, ?_⟩
          rw [e1]
          simp [intsD]
    · obtain ⟨x4, rfl, rfl⟩ := hI
      rw [List.length_map, List.take_length]
      refine wb_one (ws_ret ?_)
      refine we_tuple B rfl (we_sorted B rfl ?_)
      walk_at "e"
      refine ⟨_, .c 0 rfl, (fun _ z => by cases z), (by omega), fun q2 => ⟨_, .c 0 rfl, ?_⟩⟩
      exact keep_drop (keep_drop (keep hR))
theorem okx_came_later {f : Addr} {fd : FuncData} (F : Fun K "came_later" "came_later" s_came_later f fd) (B : Bl mg) (c1 : CalX P w K mg base 3 "look_person" (T_lookpE c_NoPerson)) (c2 : Cal P w K mg base 2 "can_come" T_can) (m2 : ExcM P w K mg base 1 "Here" "person" c_Here) (m3 : ExcM P w K mg base 1 "Early" "person" c_Early) : FnG P w K mg base (L2.CX P w) 4 f fd ["company", "came", "person"] (spX K (T_clater c_NoPerson c_Here c_Early)) := by
  refine fn_wx F sc_came_later (by decide) (fun xs μ R RE h => ?_) fun cdv A outer s H E hr hgd xs μ R RE hT => ?_
  · obtain ⟨c, r, q, rfl, _⟩ := h
    rfl
  · obtain ⟨c, r, q, rfl, hc, hlen, hr', hq, h0, h1, h2, h3⟩ := hT
    refine wbx_names (N := ["company", "came", "person"]) rfl fun hn => ?_
    have n0 := hn 0 _ rfl
    have n1 := hn 1 _ rfl
    have n2 := hn 2 _ rfl
    refine wbx_cons (wsx_expr ?_)
    refine wex_clP (wcx_pos c1 bXx_takes (by walk_at "room") rfl ?_)
    refine wa_cons ?_
    walk_at "e"
    refine wa_one ?_
    walk_at "e"
    by_cases hp : 0 ≤ q ∧ q < c.length
    · refine .inl ⟨_, _, _, rfl, hc, hp.1, hp.2, ?_⟩
      refine wbx_cons (wsx_if ?_)
      walk_at "t"
      walk_at "e"
      walk_at "e"
      refine ow_in (.t _) rfl (flat_ints _) ⟨_, rfl, ?_⟩
      rw [inD_int]
      by_cases hm : q ∈ r
      · refine itT (decide_eq_true hm) ?_
        refine wbx_one (wsx_raise m2 bXx_takes rfl (by walk_at "room") rfl ?_)
        walk_at "e"
        refine ⟨_, rfl, hq, keep (h2 ?_)⟩
        unfold lat
        rw [if_neg (by omega), if_pos hm]
      · refine itF (decide_eq_false hm) ?_
        refine wbx_nil ?_
        refine wbx_cons (wsx_if ?_)
        refine wt_not ?_
        refine wt_val ?_ (by with_unfolding_all exact fun _ => rfl)
        refine we_callP c2 (by walk_at "room") rfl ?_
        refine wa_cons ?_
        walk_at "e"
        refine wa_cons ?_
        walk_at "e"
        refine wa_one ?_
        walk_at "e"
        refine ⟨_, _, _, _, _, rfl, hc, hp.1, hp.2, .inr rfl, ?_⟩
        refine ⟨_, rfl, ?_⟩
        by_cases hk : comes c r q = true
        · rw [hk]
          refine itF rfl ?_
          refine wbx_nil ?_
          refine wbx_one (wsx_ret (wex_of ?_))
          walk_at "e"
          walk_at "e"
          refine we_tup ?_
          refine wa_one ?_
          walk_at "e"
          refine ⟨intsD [q], rfl, by simp, ?_⟩
          refine ow_catT (by simp; omega) ?_
          rw [← ints_app]
          exact keep (h0 (lat0 hp.1 hp.2 hm hk))
        · rw [Bool.eq_false_iff.mpr hk]
          refine itT rfl ?_
          refine wbx_one (wsx_raise m3 bXx_takes rfl (by walk_at "room") rfl ?_)
          walk_at "e"
          refine ⟨_, rfl, hq, keep (h3 ?_)⟩
          unfold lat
          rw [if_neg (by omega), if_neg hm, if_neg hk]
    · refine .inr ⟨_, _, _, rfl, hc, hlen, hp, hq, ?_⟩
      refine keep (h1 ?_)
      unfold lat
      rw [if_pos hp]
theorem ok_m___init__ {f : Addr} {fd : FuncData} {dV : Value} (F : FunV K "__init__" "Gathering.__init__" s_m___init__ dV f fd) (B : Bl mg) (c1 : Cal P w K mg base 1 "plain" T_plain2) (cl : L2.Cls K c_Gathering) (nS : NoAttr K c_Gathering "own_states") (nL : NoAttr K c_Gathering "own_log") : FnG P w K mg base CX0 2 f fd ["self", "company"] (spW K (T_init2 c_Gathering)) := by
  refine fn_wV F sc_m___init__ (by decide) (fun xs μ R h => ?_) fun cdv A outer s H E hr hgd xs μ R hT => ?_
  · rcases h with ⟨p, dc, c, rfl, _⟩ | ⟨p, rfl, _⟩ <;> rfl
  · rcases hT with ⟨p, dc, c, rfl, rfl, hc, hR⟩ | ⟨p, rfl, rfl, hR⟩
    · skip
      refine wb_names (N := ["self", "company"]) rfl fun hn => ?_
      have n0 := hn 0 _ rfl
      have n1 := hn 1 _ rfl
      refine wb_cons (ws_fldP ?_)
      refine we_lst ?_
      refine wa_one ?_
      refine we_tup ?_
      refine wa_cons ?_
      refine we_callP c1 (by walk_at "room") rfl ?_
      refine wa_one ?_
      walk_at "e"
      refine .inl ⟨dc, c, rfl, hc, ?_⟩
      refine wa_one ?_
      refine we_tup ?_
      refine wa_nil ?_
      refine ⟨[], rfl, by simp, ?_⟩
      refine ⟨[coD c, .tuple []], rfl, by simp, ?_⟩
      refine ⟨[stD (c, [])], rfl, by simp, fun a => ?_⟩
      walk_at "e"
      refine ⟨p, c_Gathering, a, [], 1, rfl, rfl, rfl, cl, nS, by decide, ?_⟩
      refine wb_cons (ws_fldP ?_)
      refine we_lst ?_
      refine wa_nil ?_
      refine ⟨[], rfl, by simp, fun l => ?_⟩
      walk_at "e"
      refine ⟨p, c_Gathering, l, _, 2, rfl, rfl, rfl, cl, nL, (by show ([_] : List (Str × PyData)).length < 1000; exact (by decide : 1 < 1000)), ?_⟩
      refine wb_mu (μ' := ([(l, Cont.l []), (a, Cont.l [stD (c, [])]), (p, Cont.o c_Gathering (hallF a l))] : Cells)) (by rw [← hall_put]; rfl) ?_
      refine wb_ord [2, 1, 0] (l := Hall c_Gathering p a l [(c, [])] []) (r := []) ⟨_, _, rfl, rfl, _, _, rfl, rfl, _, _, rfl, rfl, rfl, rfl⟩ ?_
      exact wb_nil (keep (hR a l))
    · skip
      refine wb_names (N := ["self", "company"]) rfl fun hn => ?_
      have n0 := hn 0 _ rfl
      have n1 := hn 1 _ rfl
      refine wb_cons (ws_fldP ?_)
      refine we_lst ?_
      refine wa_one ?_
      refine we_tup ?_
      refine wa_cons ?_
      refine we_callP c1 (by walk_at "room") rfl ?_
      refine wa_one ?_
      walk_at "e"
      refine .inr ⟨rfl, ?_⟩
      refine wa_one ?_
      refine we_tup ?_
      refine wa_nil ?_
      refine ⟨[], rfl, by simp, ?_⟩
      refine ⟨[coD [], .tuple []], rfl, by simp, ?_⟩
      refine ⟨[stD ([], [])], rfl, by simp, fun a => ?_⟩
      walk_at "e"
      refine ⟨p, c_Gathering, a, [], 1, rfl, rfl, rfl, cl, nS, by decide, ?_⟩
      refine wb_cons (ws_fldP ?_)
      refine we_lst ?_
      refine wa_nil ?_
      refine ⟨[], rfl, by simp, fun l => ?_⟩
      walk_at "e"
      refine ⟨p, c_Gathering, l, _, 2, rfl, rfl, rfl, cl, nL, (by show ([_] : List (Str × PyData)).length < 1000; exact (by decide : 1 < 1000)), ?_⟩
      refine wb_mu (μ' := ([(l, Cont.l []), (a, Cont.l [stD ([], [])]), (p, Cont.o c_Gathering (hallF a l))] : Cells)) (by rw [← hall_put]; rfl) ?_
      refine wb_ord [2, 1, 0] (l := Hall c_Gathering p a l [([], [])] []) (r := []) ⟨_, _, rfl, rfl, _, _, rfl, rfl, _, _, rfl, rfl, rfl, rfl⟩ ?_
      exact wb_nil (keep (hR a l))
theorem ok_m_company {f : Addr} {fd : FuncData} (F : Fun K "company" "Gathering.company" s_m_company f fd) (B : Bl mg) (cl : L2.Cls K c_Gathering) (nS : NoAttr K c_Gathering "own_states") : FnG P w K mg base CX0 1 f fd ["self"] (spW K (T_comp c_Gathering)) := by
  refine fn_w F sc_m_company (by decide) (fun xs μ R h => ?_) fun cdv A outer s H E hr hgd xs μ R hT => ?_
  · obtain ⟨p, a, l, S, c, r, L, rfl, _⟩ := h
    rfl
  · obtain ⟨p, a, l, S, c, r, L, rfl, rfl, hR⟩ := hT
    refine wb_names (N := ["self"]) rfl fun hn => ?_
    have n0 := hn 0 _ rfl
    refine wb_one (ws_ret ?_)
    walk_at "e"
    walk_at "e"
    refine we_fldP ?_
    walk_at "e"
    refine ⟨p, _, a, _, rfl, List.mem_cons_self, cl, nS, hall_st, ?_⟩
    walk_at "e"
    walk_at "e"
    refine uw_neg ?_
    refine ow_ixC 1 rfl (st_last S (c, r)) (.inl ⟨rfl, ?_⟩)
    walk_at "e"
    refine ow_ix (.t _) (atI_nat (j := 0) rfl) ?_
    exact keep hR
theorem ok_m_came {f : Addr} {fd : FuncData} (F : Fun K "came" "Gathering.came" s_m_came f fd) (B : Bl mg) (cl : L2.Cls K c_Gathering) (nS : NoAttr K c_Gathering "own_states") : FnG P w K mg base CX0 1 f fd ["self"] (spW K (T_came c_Gathering)) := by
  refine fn_w F sc_m_came (by decide) (fun xs μ R h => ?_) fun cdv A outer s H E hr hgd xs μ R hT => ?_
  · obtain ⟨p, a, l, S, c, r, L, rfl, _⟩ := h
    rfl
  · obtain ⟨p, a, l, S, c, r, L, rfl, rfl, hR⟩ := hT
    refine wb_names (N := ["self"]) rfl fun hn => ?_
    have n0 := hn 0 _ rfl
    refine wb_one (ws_ret ?_)
    walk_at "e"
    walk_at "e"
    refine we_fldP ?_
    walk_at "e"
    refine ⟨p, _, a, _, rfl, List.mem_cons_self, cl, nS, hall_st, ?_⟩
    walk_at "e"
    walk_at "e"
    refine uw_neg ?_
    refine ow_ixC 1 rfl (st_last S (c, r)) (.inl ⟨rfl, ?_⟩)
    walk_at "e"
    refine ow_ix (.t _) (atI_nat (j := 1) rfl) ?_
    exact keep hR
theorem okx_m_come {f : Addr} {fd : FuncData} (F : Fun K "come" "Gathering.come" s_m_come f fd) (B : Bl mg) (c1 : CalM P w K mg base 1 c_Gathering "company" (T_comp c_Gathering)) (c2 : CalM P w K mg base 1 c_Gathering "came" (T_came c_Gathering)) (c3 : CalX P w K mg base 4 "came_later" (T_clater c_NoPerson c_Here c_Early)) (c4 : CalM P w K mg base 2 c_Gathering "__len__" (T_hlen c_Gathering)) (cl : L2.Cls K c_Gathering) (nS : NoAttr K c_Gathering "own_states") (nL : NoAttr K c_Gathering "own_log") : FnG P w K mg base (L2.CX P w) 5 f fd ["self", "person"] (spX K (T_come c_Gathering c_NoPerson c_Here c_Early)) := by
  refine fn_wx F sc_m_come (by decide) (fun xs μ R RE h => ?_) fun cdv A outer s H E hr hgd xs μ R RE hT => ?_
  · obtain ⟨p, a, l, S, c, r, L, q, rfl, _⟩ := h
    rfl
  · obtain ⟨p, a, l, S, c, r, L, q, rfl, rfl, hc, hlen, hr', hq, hS, hL, h0, h1, h2, h3⟩ := hT
    refine wbx_names (N := ["self", "person"]) rfl fun hn => ?_
    have n0 := hn 0 _ rfl
    have n1 := hn 1 _ rfl
    refine wbx_cons (wsx_expr (wex_of ?_))
    refine we_append ?_
    refine we_fldP ?_
    walk_at "e"
    refine ⟨p, _, l, _, rfl, List.mem_cons_self, cl, nL, hall_lg, ?_⟩
    refine ⟨l, _, ⟨2, rfl⟩, rfl, ?_⟩
    refine we_tup ?_
    refine wa_cons ?_
    walk_at "e"
    refine wa_one ?_
    walk_at "e"
    refine ⟨[.str "in", .str "come"], rfl, by simp, ?_⟩
    refine ⟨_, _, 2, rfl, rfl, by rw [List.length_map]; omega, ?_⟩
    refine wbx_mu hall_grow ?_
    refine wbx_cons (wsx_fin rfl rfl rfl bXx_takes fun W' pn xe tk po => ?_)
    refine wbx_one (wsx_expr ?_)
    refine wex_append ?_
    refine we_fldP ?_
    walk_at "e"
    refine ⟨p, _, a, _, rfl, List.mem_cons_self, cl, nS, hall_st, ?_⟩
    refine ⟨a, _, ⟨1, rfl⟩, rfl, ?_⟩
    refine wex_tup ?_
    refine wax_cons (wex_of ?_)
    refine we_clS [0, 0, 0] (wc_mt0 c1 cl (by walk_at "room") ?_)
    walk_at "e"
    refine ⟨p, ⟨rfl, _, List.mem_cons_self, hall_no (by decide +kernel) (by decide +kernel)⟩, ?_⟩
    refine ⟨_, [], hall_lent [], ?_⟩
    refine ⟨p, a, l, S, c, r, _, rfl, rfl, ?_⟩
    refine wax_one ?_
    refine wex_clS [] (wcx_pos c3 tk (by walk_at "room") rfl ?_)
    refine wa_cons ?_
    refine we_clS [0, 0, 0] (wc_mt0 c1 cl (by walk_at "room") ?_)
    walk_at "e"
    refine ⟨p, ⟨rfl, _, List.mem_cons_self, hall_no (by decide +kernel) (by decide +kernel)⟩, ?_⟩
    refine ⟨_, [], hall_lent [], ?_⟩
    refine ⟨p, a, l, S, c, r, _, rfl, rfl, ?_⟩
    refine wa_cons ?_
    refine we_clS [0, 0, 0] (wc_mt0 c2 cl (by walk_at "room") ?_)
    walk_at "e"
    refine ⟨p, ⟨rfl, _, List.mem_cons_self, hall_no (by decide +kernel) (by decide +kernel)⟩, ?_⟩
    refine ⟨_, [], hall_lent [], ?_⟩
    refine ⟨p, a, l, S, c, r, _, rfl, rfl, ?_⟩
    refine wa_one ?_
    walk_at "e"
    refine ⟨[], _, ⟨rfl, rfl⟩, c, r, q, rfl, hc, hlen, hr', hq, fun e0 => ?_, fun e1 a' pn' => ?_, fun e1 a' pn' => ?_, fun e1 a' pn' => ?_⟩
    · refine ⟨[coD c, .tuple (intsD (r ++ [q]))], rfl, by simp, ?_⟩
      refine ⟨_, _, 1, rfl, rfl, by rw [List.length_map, List.length_append]; simp; omega, ?_⟩
      refine wb_mu hall_state ?_
      refine wb_one (ws_expr ?_)
      refine we_append ?_
      refine we_fldP ?_
      walk_at "e"
      refine ⟨p, _, l, _, rfl, List.mem_cons_self, cl, nL, hall_lg, ?_⟩
      refine ⟨l, _, ⟨2, rfl⟩, rfl, ?_⟩
      refine we_tup ?_
      refine wa_cons ?_
      walk_at "e"
      refine wa_one ?_
      walk_at "e"
      refine ⟨[.str "out", .str "come"], rfl, by simp, ?_⟩
      refine ⟨_, _, 2, rfl, rfl, by rw [List.length_map, List.length_append]; simp; omega, ?_⟩
      refine wbx_mu hall_grow ?_
      rw [lgs_two]
      refine wbx_one (wsx_ret (wex_of ?_))
      refine we_lenO [0, 0, 0] c4 B (by walk_at "room") rfl ?_
      walk_at "e"
      refine ⟨p, _, [], _, rfl, List.mem_cons_self, hall_lent [], p, a, l, S ++ [(c, r)], c, r ++ [q], _, rfl, rfl, _, rfl, ⟨by omega, by rw [List.length_append, List.length_singleton]; omega⟩, ?_⟩
      rw [show ((r ++ [q]).length : Nat) = r.length + 1 from by simp]
      exact keep (h0 e0)
    · refine wb_one (ws_expr ?_)
      refine we_append ?_
      refine we_fldP ?_
      walk_at "e"
      refine ⟨p, _, l, _, rfl, List.mem_cons_self, cl, nL, hall_lg, ?_⟩
      refine ⟨l, _, ⟨2, rfl⟩, rfl, ?_⟩
      refine we_tup ?_
      refine wa_cons ?_
      walk_at "e"
      refine wa_one ?_
      walk_at "e"
      refine ⟨[.str "out", .str "come"], rfl, by simp, ?_⟩
      refine ⟨_, _, 2, rfl, rfl, by rw [List.length_map, List.length_append]; simp; omega, ?_⟩
      exact keep (keep_mu (hall_grow.trans (by rw [lgs_two])) (h1 e1))
    · refine wb_one (ws_expr ?_)
      refine we_append ?_
      refine we_fldP ?_
      walk_at "e"
      refine ⟨p, _, l, _, rfl, List.mem_cons_self, cl, nL, hall_lg, ?_⟩
      refine ⟨l, _, ⟨2, rfl⟩, rfl, ?_⟩
      refine we_tup ?_
      refine wa_cons ?_
      walk_at "e"
      refine wa_one ?_
      walk_at "e"
      refine ⟨[.str "out", .str "come"], rfl, by simp, ?_⟩
      refine ⟨_, _, 2, rfl, rfl, by rw [List.length_map, List.length_append]; simp; omega, ?_⟩
      exact keep (keep_mu (hall_grow.trans (by rw [lgs_two])) (h2 e1))
    · refine wb_one (ws_expr ?_)
      refine we_append ?_
      refine we_fldP ?_
      walk_at "e"
      refine ⟨p, _, l, _, rfl, List.mem_cons_self, cl, nL, hall_lg, ?_⟩
      refine ⟨l, _, ⟨2, rfl⟩, rfl, ?_⟩
      refine we_tup ?_
      refine wa_cons ?_
      walk_at "e"
      refine wa_one ?_
      walk_at "e"
      refine ⟨[.str "out", .str "come"], rfl, by simp, ?_⟩
      refine ⟨_, _, 2, rfl, rfl, by rw [List.length_map, List.length_append]; simp; omega, ?_⟩
      exact keep (keep_mu (hall_grow.trans (by rw [lgs_two])) (h3 e1))
theorem okx_m_come_all {f : Addr} {fd : FuncData} (F : Fun K "come_all" "Gathering.come_all" s_m_come_all f fd) (B : Bl mg) (m_co : CalM P w K mg base 1 c_Gathering "company" (T_comp c_Gathering)) (m_ca : CalM P w K mg base 1 c_Gathering "came" (T_came c_Gathering)) (m_len : CalM P w K mg base 2 c_Gathering "__len__" (T_hlen c_Gathering)) (cl : L2.Cls K c_Gathering) (nS : NoAttr K c_Gathering "own_states") (nL : NoAttr K c_Gathering "own_log") (c3 : CalX P w K mg base 4 "came_later" (T_clater c_NoPerson c_Here c_Early)) : FnG P w K mg base (L2.CX P w) 5 f fd ["self", "people"] (spX K (T_call c_Gathering c_NoPerson c_Here c_Early)) := by
  refine fn_wx F sc_m_come_all (by decide) (fun xs μ R RE h => ?_) fun cdv A outer s H E hr hgd xs μ R RE hT => ?_
  · obtain ⟨p, a, l, S, c, r, L, dp, ps, rfl, _⟩ := h
    rfl
  · obtain ⟨p, a, l, S, c, r, L, dp, ps, rfl, rfl, hsq, hc, hl, hr', hq, hS, hL, h0, h1, h2, h3⟩ := hT
    refine wbx_names (N := ["self", "people", "later", "person"]) rfl fun hn => ?_
    have n0 := hn 0 _ rfl
    have n1 := hn 1 _ rfl
    have n2 := hn 2 _ rfl
    have n3 := hn 3 _ rfl
    refine wbx_cons (wsx_expr (wex_of ?_))
    refine we_append ?_
    refine we_fldP ?_
    walk_at "e"
    refine ⟨p, _, l, _, rfl, List.mem_cons_self, cl, nL, hall_lg, ?_⟩
    refine ⟨l, _, ⟨2, rfl⟩, rfl, ?_⟩
    refine we_tup ?_
    refine wa_cons ?_
    walk_at "e"
    refine wa_one ?_
    walk_at "e"
    refine ⟨[.str "in", .str "come_all"], rfl, by simp, ?_⟩
    refine ⟨_, _, 2, rfl, rfl, by rw [List.length_map]; omega, ?_⟩
    refine wbx_mu hall_grow ?_
    refine wbx_cons (wsx_fin rfl rfl rfl bXx_takes fun W' pn xe tk po => ?_)
    refine wbx_names (N := ["self", "people", "later", "person"]) rfl fun hn => ?_
    have n0 := hn 0 _ rfl
    have n1 := hn 1 _ rfl
    have n2 := hn 2 _ rfl
    have n3 := hn 3 _ rfl
    refine wbx_ws (ws_set 2 sc_m_come_all.nd n2 (by walk_at "loc") (by first | exact .inl rfl | exact .inr rfl) ?_)
    refine we_clS [0, 0, 0] (wc_mt0 m_ca cl (by walk_at "room") ?_)
    walk_at "e"
    refine ⟨p, ⟨rfl, _, List.mem_of_getElem? (i := 0) rfl, hall_no (by decide +kernel) (by decide +kernel)⟩, ?_⟩
    refine ⟨_, [], ⟨_, _, rfl, rfl, _, _, rfl, rfl, _, _, rfl, rfl, rfl, rfl⟩, ?_⟩
    refine ⟨p, a, l, S, c, r, _, rfl, rfl, ?_⟩
    refine wbx_cons (wsx_for [3] po rfl ?_)
    refine wi_seq ?_
    walk_at "e"
    refine ⟨_, seqd_sq hsq, fun i δ' μ' => ∃ x3, δ' = [some (.a p), some (.d dp), some (.d (.tuple (intsD (r ++ ps.take i)))), x3] ∧ μ' = (Hall c_Gathering p a l (S ++ [(c, r)]) (L ++ [(("in" : Str), ("come_all" : Str))])) ∧ (latA c r (ps.take i)).1 = 0, ⟨_, by rw [List.take_zero, List.append_nil]; rfl, rfl, rfl⟩, fun i d δ' μ' hd hI => ?_, fun δ' μ' hI => ?_⟩
    · obtain ⟨x3, rfl, rfl, h9⟩ := hI
      obtain ⟨q, hqi, rfl⟩ := map_item hd
      have hqm := List.mem_of_getElem? hqi
      have htl : (r ++ ps.take i).length ≤ 1000 := by rw [List.length_append, List.length_take]; omega
      refine wg_name 3 sc_m_come_all.nd n3 (by walk_at "loc") (by first | exact .inl rfl | exact .inr rfl) (by decide) ?_
      refine wbx_one (wsx_set 2 sc_m_come_all.nd n2 (by walk_at "loc") (by first | exact .inl rfl | exact .inr rfl) ?_)
      refine wex_clS [] (wcx_pos c3 tk (by walk_at "room") rfl ?_)
      refine wa_cons ?_
      refine we_clS [0, 0, 0] (wc_mt0 m_co cl (by walk_at "room") ?_)
      walk_at "e"
      refine ⟨p, ⟨rfl, _, List.mem_of_getElem? (i := 0) rfl, hall_no (by decide +kernel) (by decide +kernel)⟩, ?_⟩
      refine ⟨_, [], ⟨_, _, rfl, rfl, _, _, rfl, rfl, _, _, rfl, rfl, rfl, rfl⟩, ?_⟩
      refine ⟨p, a, l, S, c, r, _, rfl, rfl, ?_⟩
      refine wa_cons ?_
      walk_at "e"
      refine wa_one ?_
      walk_at "e"
      refine ⟨[], _, ⟨rfl, rfl⟩, c, r ++ ps.take i, q, rfl, hc, hl, htl, hq q hqm, fun e0 => ?_, fun e1 a' pn' => ?_, fun e1 a' pn' => ?_, fun e1 a' pn' => ?_⟩
      · exact ⟨_, by rw [List.take_add_one, hqi, ← List.append_assoc]; rfl, rfl, latA_next h9 hqi e0⟩
      · have e := latA_at h9 hqi e1 (by decide)
        rw [e] at h1
        refine wb_one (ws_expr ?_)
        refine we_append ?_
        refine we_fldP ?_
        walk_at "e"
        refine ⟨p, _, l, _, rfl, List.mem_cons_self, cl, nL, hall_lg, ?_⟩
        refine ⟨l, _, ⟨2, rfl⟩, rfl, ?_⟩
        refine we_tup ?_
        refine wa_cons ?_
        walk_at "e"
        refine wa_one ?_
        walk_at "e"
        refine ⟨[.str "out", .str "come_all"], rfl, by simp, ?_⟩
        refine ⟨_, _, 2, rfl, rfl, by rw [List.length_map, List.length_append]; simp; omega, ?_⟩
        exact keep (keep_mu (hall_grow.trans (by rw [lgs_two])) (h1 rfl))
      · have e := latA_at h9 hqi e1 (by decide)
        rw [e] at h2
        refine wb_one (ws_expr ?_)
        refine we_append ?_
        refine we_fldP ?_
        walk_at "e"
        refine ⟨p, _, l, _, rfl, List.mem_cons_self, cl, nL, hall_lg, ?_⟩
        refine ⟨l, _, ⟨2, rfl⟩, rfl, ?_⟩
        refine we_tup ?_
        refine wa_cons ?_
        walk_at "e"
        refine wa_one ?_
        walk_at "e"
        refine ⟨[.str "out", .str "come_all"], rfl, by simp, ?_⟩
        refine ⟨_, _, 2, rfl, rfl, by rw [List.length_map, List.length_append]; simp; omega, ?_⟩
        exact keep (keep_mu (hall_grow.trans (by rw [lgs_two])) (h2 rfl))
      · have e := latA_at h9 hqi e1 (by decide)
        rw [e] at h3
        refine wb_one (ws_expr ?_)
        refine we_append ?_
        refine we_fldP ?_
        walk_at "e"
        refine ⟨p, _, l, _, rfl, List.mem_cons_self, cl, nL, hall_lg, ?_⟩
        refine ⟨l, _, ⟨2, rfl⟩, rfl, ?_⟩
        refine we_tup ?_
        refine wa_cons ?_
        walk_at "e"
        refine wa_one ?_
        walk_at "e"
        refine ⟨[.str "out", .str "come_all"], rfl, by simp, ?_⟩
        refine ⟨_, _, 2, rfl, rfl, by rw [List.length_map, List.length_append]; simp; omega, ?_⟩
        exact keep (keep_mu (hall_grow.trans (by rw [lgs_two])) (h3 rfl))
    · obtain ⟨x3, rfl, rfl, h9⟩ := hI
      rw [List.length_map, List.take_length] at h9
      rw [List.length_map, List.take_length]
      refine wbx_one (wsx_expr (wex_of ?_))
      refine we_append ?_
      refine we_fldP ?_
      walk_at "e"
      refine ⟨p, _, a, _, rfl, List.mem_cons_self, cl, nS, hall_st, ?_⟩
      refine ⟨a, _, ⟨1, rfl⟩, rfl, ?_⟩
      refine we_tup ?_
      refine wa_cons ?_
      refine we_clS [0, 0, 0] (wc_mt0 m_co cl (by walk_at "room") ?_)
      walk_at "e"
      refine ⟨p, ⟨rfl, _, List.mem_of_getElem? (i := 0) rfl, hall_no (by decide +kernel) (by decide +kernel)⟩, ?_⟩
      refine ⟨_, [], ⟨_, _, rfl, rfl, _, _, rfl, rfl, _, _, rfl, rfl, rfl, rfl⟩, ?_⟩
      refine ⟨p, a, l, S, c, r, _, rfl, rfl, ?_⟩
      refine wa_one ?_
      walk_at "e"
      refine ⟨[coD c, .tuple (intsD (r ++ ps))], rfl, by simp, ?_⟩
      refine ⟨_, _, 1, rfl, rfl, by rw [List.length_map, List.length_append]; simp; omega, ?_⟩
      refine wb_mu hall_state ?_
      refine wb_one (ws_expr ?_)
      refine we_append ?_
      refine we_fldP ?_
      walk_at "e"
      refine ⟨p, _, l, _, rfl, List.mem_cons_self, cl, nL, hall_lg, ?_⟩
      refine ⟨l, _, ⟨2, rfl⟩, rfl, ?_⟩
      refine we_tup ?_
      refine wa_cons ?_
      walk_at "e"
      refine wa_one ?_
      walk_at "e"
      refine ⟨[.str "out", .str "come_all"], rfl, by simp, ?_⟩
      refine ⟨_, _, 2, rfl, rfl, by rw [List.length_map, List.length_append]; simp; omega, ?_⟩
      refine wbx_mu (hall_grow.trans (by rw [lgs_two])) ?_
      refine wbx_one (wsx_ret (wex_of ?_))
      refine we_lenO [0, 0, 0] m_len B (by walk_at "room") rfl ?_
      walk_at "e"
      refine ⟨p, _, [], _, rfl, List.mem_cons_self, hall_lent [], p, a, l, S ++ [(c, r)], c, r ++ ps, _, rfl, rfl, _, rfl, ⟨by omega, by rw [List.length_append]; omega⟩, ?_⟩
      exact keep (h0 h9)
theorem ok_m_meet {f : Addr} {fd : FuncData} (F : Fun K "meet" "Gathering.meet" s_m_meet f fd) (B : Bl mg) (m_co : CalM P w K mg base 1 c_Gathering "company" (T_comp c_Gathering)) (m_ca : CalM P w K mg base 1 c_Gathering "came" (T_came c_Gathering)) (m_nx : CalM P w K mg base 4 c_Gathering "next_people" (T_mnext c_Gathering)) (cl : L2.Cls K c_Gathering) (nS : NoAttr K c_Gathering "own_states") (nL : NoAttr K c_Gathering "own_log") : FnG P w K mg base CX0 5 f fd ["self"] (spW K (T_meet c_Gathering)) := by
  refine fn_w F sc_m_meet (by decide) (fun xs μ R h => ?_) fun cdv A outer s H E hr hgd xs μ R hT => ?_
  · obtain ⟨p, a, l, S, c, r, L, rfl, _⟩ := h
    rfl
  · obtain ⟨p, a, l, S, c, r, L, rfl, rfl, hc, hl, hr', hS, hL, hR⟩ := hT
    refine wb_names (N := ["self", "found"]) rfl fun hn => ?_
    have n0 := hn 0 _ rfl
    have n1 := hn 1 _ rfl
    have hnl := nexts_le9 c r
    refine wb_cons (ws_expr ?_)
    refine we_append ?_
    refine we_fldP ?_
    walk_at "e"
    refine ⟨p, _, l, _, rfl, List.mem_cons_self, cl, nL, hall_lg, ?_⟩
    refine ⟨l, _, ⟨2, rfl⟩, rfl, ?_⟩
    refine we_tup ?_
    refine wa_cons ?_
    walk_at "e"
    refine wa_one ?_
    walk_at "e"
    refine ⟨[.str "in", .str "meet"], rfl, by simp, ?_⟩
    refine ⟨_, _, 2, rfl, rfl, by rw [List.length_map]; omega, ?_⟩
    refine wb_mu hall_grow ?_
    refine wb_cons ?_
    refine ws_set 1 sc_m_meet.nd n1 (by walk_at "loc") (by first | exact .inl rfl | exact .inr rfl) ?_
    refine we_clS [0, 0, 0] (wc_mt0 m_nx cl (by walk_at "room") ?_)
    walk_at "e"
    refine ⟨p, ⟨rfl, _, List.mem_of_getElem? (i := 0) rfl, hall_no (by decide +kernel) (by decide +kernel)⟩, ?_⟩
    refine ⟨_, [], ⟨_, _, rfl, rfl, _, _, rfl, rfl, _, _, rfl, rfl, rfl, rfl⟩, ?_⟩
    refine ⟨p, a, l, S, c, r, _, rfl, rfl, hc, fun q => ?_⟩
    refine wb_ord [1, 1, 1] (l := Hall c_Gathering p a l (S ++ [(c, r)]) (L ++ [(("in" : Str), ("meet" : Str))])) ⟨_, _, rfl, rfl, _, _, rfl, rfl, _, _, rfl, rfl, rfl, rfl⟩ ?_
    refine wb_cons (ws_expr ?_)
    refine we_append ?_
    refine we_fldP ?_
    walk_at "e"
    refine ⟨p, _, a, _, rfl, List.mem_cons_self, cl, nS, hall_st, ?_⟩
    refine ⟨a, _, ⟨1, rfl⟩, rfl, ?_⟩
    refine we_tup ?_
    refine wa_cons ?_
    refine we_clS [0, 0, 0] (wc_mt0 m_co cl (by walk_at "room") ?_)
    walk_at "e"
    refine ⟨p, ⟨rfl, _, List.mem_of_getElem? (i := 0) rfl, hall_no (by decide +kernel) (by decide +kernel)⟩, ?_⟩
    refine ⟨_, [(q, (intsD (nexts c r) : Cont))], ⟨_, _, rfl, rfl, _, _, rfl, rfl, _, _, rfl, rfl, rfl, rfl⟩, ?_⟩
    refine ⟨p, a, l, S, c, r, _, rfl, rfl, ?_⟩
    refine wa_one ?_
    refine we_bin (op := .Add) o_add ?_
    refine we_clS [0, 0, 0] (wc_mt0 m_ca cl (by walk_at "room") ?_)
    walk_at "e"
    refine ⟨p, ⟨rfl, _, List.mem_of_getElem? (i := 0) rfl, hall_no (by decide +kernel) (by decide +kernel)⟩, ?_⟩
    refine ⟨_, [(q, (intsD (nexts c r) : Cont))], ⟨_, _, rfl, rfl, _, _, rfl, rfl, _, _, rfl, rfl, rfl, rfl⟩, ?_⟩
    refine ⟨p, a, l, S, c, r, _, rfl, rfl, ?_⟩
    refine we_tuple B rfl ?_
    walk_at "e"
    refine ⟨_, .c 3 rfl, ?_⟩
    refine ow_catT (by simp; omega) ?_
    rw [← ints_app]
    refine ⟨[coD c, .tuple (intsD (r ++ nexts c r))], rfl, by simp, ?_⟩
    refine ⟨_, _, 1, rfl, rfl, by rw [List.length_map, List.length_append]; simp; omega, ?_⟩
    refine wb_mu (μ' := Hall c_Gathering p a l ((S ++ [(c, r)]) ++ [(c, r ++ nexts c r)]) (L ++ [(("in" : Str), ("meet" : Str))]) ++ [(q, (intsD (nexts c r) : Cont))]) (congrArg (· ++ [(q, (intsD (nexts c r) : Cont))]) hall_state) ?_
    refine wb_cons (ws_expr ?_)
    refine we_append ?_
    refine we_fldP ?_
    walk_at "e"
    refine ⟨p, _, l, _, rfl, List.mem_cons_self, cl, nL, hall_lg, ?_⟩
    refine ⟨l, _, ⟨2, rfl⟩, rfl, ?_⟩
    refine we_tup ?_
    refine wa_cons ?_
    walk_at "e"
    refine wa_one ?_
    walk_at "e"
    refine ⟨[.str "out", .str "meet"], rfl, by simp, ?_⟩
    refine ⟨_, _, 2, rfl, rfl, by rw [List.length_map, List.length_append]; simp; omega, ?_⟩
    refine wb_mu (μ' := Hall c_Gathering p a l ((S ++ [(c, r)]) ++ [(c, r ++ nexts c r)]) (L ++ lgs "meet") ++ [(q, (intsD (nexts c r) : Cont))]) (congrArg (· ++ [(q, (intsD (nexts c r) : Cont))]) (hall_grow.trans (by rw [lgs_two]))) ?_
    refine wb_ord [3] (l := [(q, (intsD (nexts c r) : Cont))]) ⟨_, _, rfl, rfl, rfl, rfl⟩ ?_
    refine wb_one (ws_ret ?_)
    walk_at "e"
    exact keep (hR q)
theorem okx_m_add_person {f : Addr} {fd : FuncData} (F : Fun K "add_person" "Gathering.add_person" s_m_add_person f fd) (B : Bl mg) (m_co : CalM P w K mg base 1 c_Gathering "company" (T_comp c_Gathering)) (m_ca : CalM P w K mg base 1 c_Gathering "came" (T_came c_Gathering)) (cl : L2.Cls K c_Gathering) (nS : NoAttr K c_Gathering "own_states") (nL : NoAttr K c_Gathering "own_log") (c1 : CalX P w K mg base 3 "look_person" (T_lookpE c_NoPerson)) (m2 : ExcM P w K mg base 1 "Full" "many" c_Full) (i_MOST_THERE : ∃ t, mg "MOST_THERE" = some (.int 20 t)) : FnG P w K mg base (L2.CX P w) 4 f fd ["self", "friends", "need"] (spX K (T_addp c_Gathering c_NoPerson c_Full)) := by
  refine fn_wx F sc_m_add_person (by decide) (fun xs μ R RE h => ?_) fun cdv A outer s H E hr hgd xs μ R RE hT => ?_
  · obtain ⟨p, a, l, S, c, r, L, df, fs, v, rfl, _⟩ := h
    rfl
  · obtain ⟨p, a, l, S, c, r, L, df, fs, v, rfl, rfl, hsq, hc, hl, hfl, hq, hS, hL, h0, h1, h2⟩ := hT
    refine wbx_names (N := ["self", "friends", "need", "friend", "person"]) rfl fun hn => ?_
    have n0 := hn 0 _ rfl
    have n1 := hn 1 _ rfl
    have n2 := hn 2 _ rfl
    have n3 := hn 3 _ rfl
    have n4 := hn 4 _ rfl
    refine wbx_cons (wsx_expr (wex_of ?_))
    refine we_append ?_
    refine we_fldP ?_
    walk_at "e"
    refine ⟨p, _, l, _, rfl, List.mem_cons_self, cl, nL, hall_lg, ?_⟩
    refine ⟨l, _, ⟨2, rfl⟩, rfl, ?_⟩
    refine we_tup ?_
    refine wa_cons ?_
    walk_at "e"
    refine wa_one ?_
    walk_at "e"
    refine ⟨[.str "in", .str "add_person"], rfl, by simp, ?_⟩
    refine ⟨_, _, 2, rfl, rfl, by rw [List.length_map]; omega, ?_⟩
    refine wbx_mu hall_grow ?_
    refine wbx_cons (wsx_fin rfl rfl rfl bXx_takes fun W' pn xe tk po => ?_)
    refine wbx_names (N := ["self", "friends", "need", "friend", "person"]) rfl fun hn => ?_
    have n0 := hn 0 _ rfl
    have n1 := hn 1 _ rfl
    have n2 := hn 2 _ rfl
    have n3 := hn 3 _ rfl
    have n4 := hn 4 _ rfl
    refine wbx_cons (wsx_for [3] po rfl ?_)
    refine wi_seq ?_
    walk_at "e"
    refine ⟨_, seqd_sq hsq, fun i δ' μ' => ∃ x3, δ' = [some (.a p), some (.d df), some (.d (.int v)), x3, none] ∧ μ' = (Hall c_Gathering p a l (S ++ [(c, r)]) (L ++ [(("in" : Str), ("add_person" : Str))])) ∧ bad c (fs.take i) = none, ⟨_, rfl, rfl, rfl⟩, fun i d δ' μ' hd hI => ?_, fun δ' μ' hI => ?_⟩
    · obtain ⟨x3, rfl, rfl, h9⟩ := hI
      obtain ⟨q, hqi, rfl⟩ := map_item hd
      have hqm := List.mem_of_getElem? hqi
      refine wg_name 3 sc_m_add_person.nd n3 (by walk_at "loc") (by first | exact .inl rfl | exact .inr rfl) (by decide) ?_
      refine wbx_one (wsx_expr ?_)
      refine wex_clS [] (wcx_pos c1 tk (by walk_at "room") rfl ?_)
      refine wa_cons ?_
      refine we_clS [0, 0, 0] (wc_mt0 m_co cl (by walk_at "room") ?_)
      walk_at "e"
      refine ⟨p, ⟨rfl, _, List.mem_of_getElem? (i := 0) rfl, hall_no (by decide +kernel) (by decide +kernel)⟩, ?_⟩
      refine ⟨_, [], ⟨_, _, rfl, rfl, _, _, rfl, rfl, _, _, rfl, rfl, rfl, rfl⟩, ?_⟩
      refine ⟨p, a, l, S, c, r, _, rfl, rfl, ?_⟩
      refine wa_one ?_
      walk_at "e"
      refine ⟨[], _, ⟨rfl, rfl⟩, ?_⟩
      by_cases hp : 0 ≤ q ∧ q < c.length
      · exact .inl ⟨_, _, _, rfl, hc, hp.1, hp.2, ⟨_, rfl, rfl, bad_take h9 hqi hp⟩⟩
      · refine .inr ⟨_, _, _, rfl, hc, hl, hp, hq q hqm, fun a' pn' => ?_⟩
        refine wb_one (ws_expr ?_)
        refine we_append ?_
        refine we_fldP ?_
        walk_at "e"
        refine ⟨p, _, l, _, rfl, List.mem_cons_self, cl, nL, hall_lg, ?_⟩
        refine ⟨l, _, ⟨2, rfl⟩, rfl, ?_⟩
        refine we_tup ?_
        refine wa_cons ?_
        walk_at "e"
        refine wa_one ?_
        walk_at "e"
        refine ⟨[.str "out", .str "add_person"], rfl, by simp, ?_⟩
        refine ⟨_, _, 2, rfl, rfl, by rw [List.length_map, List.length_append]; simp; omega, ?_⟩
        exact keep (keep_mu (hall_grow.trans (by rw [lgs_two])) (h1 q (bad_at h9 hqi hp)))
    · obtain ⟨x3, rfl, rfl, h9⟩ := hI
      rw [List.length_map, List.take_length] at h9
      refine wbx_ws (ws_set 4 sc_m_add_person.nd n4 (by walk_at "loc") (by first | exact .inl rfl | exact .inr rfl) ?_)
      refine we_len B rfl ?_
      refine we_clS [0, 0, 0] (wc_mt0 m_co cl (by walk_at "room") ?_)
      walk_at "e"
      refine ⟨p, ⟨rfl, _, List.mem_of_getElem? (i := 0) rfl, hall_no (by decide +kernel) (by decide +kernel)⟩, ?_⟩
      refine ⟨_, [], ⟨_, _, rfl, rfl, _, _, rfl, rfl, _, _, rfl, rfl, rfl, rfl⟩, ?_⟩
      refine ⟨p, a, l, S, c, r, _, rfl, rfl, ?_⟩
      refine ⟨_, .t _, ?_⟩
      rw [List.length_map]
      refine wbx_cons (wsx_if ?_)
      walk_at "t"
      walk_at "e"
      refine we_gint rfl i_MOST_THERE ?_
      refine ow_cmp ⟨_, rfl, ?_⟩
      by_cases hf : 20 ≤ c.length
      · refine itT (decide_eq_true (by omega)) ?_
        refine wbx_one (wsx_raise m2 tk rfl (by walk_at "room") rfl ?_)
        walk_at "e"
        refine ⟨_, rfl, log_small (by omega) (by omega), fun a' pn' => ?_⟩
        refine wb_one (ws_expr ?_)
        refine we_append ?_
        refine we_fldP ?_
        walk_at "e"
        refine ⟨p, _, l, _, rfl, List.mem_cons_self, cl, nL, hall_lg, ?_⟩
        refine ⟨l, _, ⟨2, rfl⟩, rfl, ?_⟩
        refine we_tup ?_
        refine wa_cons ?_
        walk_at "e"
        refine wa_one ?_
        walk_at "e"
        refine ⟨[.str "out", .str "add_person"], rfl, by simp, ?_⟩
        refine ⟨_, _, 2, rfl, rfl, by rw [List.length_map, List.length_append]; simp; omega, ?_⟩
        exact keep (keep_mu (hall_grow.trans (by rw [lgs_two])) (h2 h9 hf))
      · refine itF (decide_eq_false (by omega)) ?_
        refine wbx_nil ?_
        refine wbx_one (wsx_expr (wex_of ?_))
        refine we_append ?_
        refine we_fldP ?_
        walk_at "e"
        refine ⟨p, _, a, _, rfl, List.mem_cons_self, cl, nS, hall_st, ?_⟩
        refine ⟨a, _, ⟨1, rfl⟩, rfl, ?_⟩
        refine we_tup ?_
        refine wa_cons ?_
        walk_at "e"
        refine we_clS [0, 0, 0] (wc_mt0 m_co cl (by walk_at "room") ?_)
        walk_at "e"
        refine ⟨p, ⟨rfl, _, List.mem_of_getElem? (i := 0) rfl, hall_no (by decide +kernel) (by decide +kernel)⟩, ?_⟩
        refine ⟨_, [], ⟨_, _, rfl, rfl, _, _, rfl, rfl, _, _, rfl, rfl, rfl, rfl⟩, ?_⟩
        refine ⟨p, a, l, S, c, r, _, rfl, rfl, ?_⟩
        refine we_tup ?_
        refine wa_one ?_
        refine we_tup ?_
        refine wa_cons ?_
        refine we_tuple B rfl ?_
        walk_at "e"
        refine ⟨_, ct_sq hsq, ?_⟩
        refine wa_one ?_
        walk_at "e"
        refine ⟨[.tuple (intsD fs), .int v], rfl, by simp, ?_⟩
        refine ⟨[enD (fs, v)], rfl, by simp, ?_⟩
        refine ow_catT (by simp; omega) ?_
        rw [show c.map enD ++ [enD (fs, v)] = (c ++ [(fs, v)]).map enD from by rw [List.map_append]; rfl]
        refine wa_one ?_
        refine we_clS [0, 0, 0] (wc_mt0 m_ca cl (by walk_at "room") ?_)
        walk_at "e"
        refine ⟨p, ⟨rfl, _, List.mem_of_getElem? (i := 0) rfl, hall_no (by decide +kernel) (by decide +kernel)⟩, ?_⟩
        refine ⟨_, [], ⟨_, _, rfl, rfl, _, _, rfl, rfl, _, _, rfl, rfl, rfl, rfl⟩, ?_⟩
        refine ⟨p, a, l, S, c, r, _, rfl, rfl, ?_⟩
        refine ⟨[coD (c ++ [(fs, v)]), .tuple (intsD r)], rfl, by simp, ?_⟩
        refine ⟨_, _, 1, rfl, rfl, by rw [List.length_map, List.length_append]; simp; omega, ?_⟩
        refine wb_mu hall_state ?_
        refine wb_one (ws_expr ?_)
        refine we_append ?_
        refine we_fldP ?_
        walk_at "e"
        refine ⟨p, _, l, _, rfl, List.mem_cons_self, cl, nL, hall_lg, ?_⟩
        refine ⟨l, _, ⟨2, rfl⟩, rfl, ?_⟩
        refine we_tup ?_
        refine wa_cons ?_
        walk_at "e"
        refine wa_one ?_
        walk_at "e"
        refine ⟨[.str "out", .str "add_person"], rfl, by simp, ?_⟩
        refine ⟨_, _, 2, rfl, rfl, by rw [List.length_map, List.length_append]; simp; omega, ?_⟩
        refine wbx_mu (hall_grow.trans (by rw [lgs_two])) ?_
        refine wbx_one (wsx_ret (wex_of ?_))
        walk_at "e"
        exact keep (h0 h9 (by omega))
theorem okx_m_set_need {f : Addr} {fd : FuncData} (F : Fun K "set_need" "Gathering.set_need" s_m_set_need f fd) (B : Bl mg) (m_co : CalM P w K mg base 1 c_Gathering "company" (T_comp c_Gathering)) (m_ca : CalM P w K mg base 1 c_Gathering "came" (T_came c_Gathering)) (cl : L2.Cls K c_Gathering) (nS : NoAttr K c_Gathering "own_states") (nL : NoAttr K c_Gathering "own_log") (c1 : CalX P w K mg base 3 "look_person" (T_lookpE c_NoPerson)) (m2 : ExcM P w K mg base 1 "Here" "person" c_Here) (c2 : Cal P w K mg base 2 "with_need" T_withn) : FnG P w K mg base (L2.CX P w) 5 f fd ["self", "person", "need"] (spX K (T_setn c_Gathering c_NoPerson c_Here)) := by
  refine fn_wx F sc_m_set_need (by decide) (fun xs μ R RE h => ?_) fun cdv A outer s H E hr hgd xs μ R RE hT => ?_
  · obtain ⟨p, a, l, S, c, r, L, q, v, rfl, _⟩ := h
    rfl
  · obtain ⟨p, a, l, S, c, r, L, q, v, rfl, rfl, hc, hl, hr', hq, hS, hL, h0, h1, h2⟩ := hT
    refine wbx_names (N := ["self", "person", "need", "before"]) rfl fun hn => ?_
    have n0 := hn 0 _ rfl
    have n1 := hn 1 _ rfl
    have n2 := hn 2 _ rfl
    have n3 := hn 3 _ rfl
    refine wbx_cons (wsx_expr (wex_of ?_))
    refine we_append ?_
    refine we_fldP ?_
    walk_at "e"
    refine ⟨p, _, l, _, rfl, List.mem_cons_self, cl, nL, hall_lg, ?_⟩
    refine ⟨l, _, ⟨2, rfl⟩, rfl, ?_⟩
    refine we_tup ?_
    refine wa_cons ?_
    walk_at "e"
    refine wa_one ?_
    walk_at "e"
    refine ⟨[.str "in", .str "set_need"], rfl, by simp, ?_⟩
    refine ⟨_, _, 2, rfl, rfl, by rw [List.length_map]; omega, ?_⟩
    refine wbx_mu hall_grow ?_
    refine wbx_cons (wsx_fin rfl rfl rfl bXx_takes fun W' pn xe tk po => ?_)
    refine wbx_names (N := ["self", "person", "need", "before"]) rfl fun hn => ?_
    have n0 := hn 0 _ rfl
    have n1 := hn 1 _ rfl
    have n2 := hn 2 _ rfl
    have n3 := hn 3 _ rfl
    refine wbx_cons (wsx_expr ?_)
    refine wex_clS [] (wcx_pos c1 tk (by walk_at "room") rfl ?_)
    refine wa_cons ?_
    refine we_clS [0, 0, 0] (wc_mt0 m_co cl (by walk_at "room") ?_)
    walk_at "e"
    refine ⟨p, ⟨rfl, _, List.mem_of_getElem? (i := 0) rfl, hall_no (by decide +kernel) (by decide +kernel)⟩, ?_⟩
    refine ⟨_, [], ⟨_, _, rfl, rfl, _, _, rfl, rfl, _, _, rfl, rfl, rfl, rfl⟩, ?_⟩
    refine ⟨p, a, l, S, c, r, _, rfl, rfl, ?_⟩
    refine wa_one ?_
    walk_at "e"
    refine ⟨[], _, ⟨rfl, rfl⟩, ?_⟩
    by_cases hp : 0 ≤ q ∧ q < c.length
    · refine .inl ⟨_, _, _, rfl, hc, hp.1, hp.2, ?_⟩
      obtain ⟨hp0, hp1⟩ := hp
      obtain ⟨s, rfl⟩ : ∃ s : Nat, q = s := ⟨q.toNat, by omega⟩
      have hs : s < c.length := by omega
      refine wbx_cons (wsx_if ?_)
      walk_at "t"
      walk_at "e"
      refine we_clS [0, 0, 0] (wc_mt0 m_ca cl (by walk_at "room") ?_)
      walk_at "e"
      refine ⟨p, ⟨rfl, _, List.mem_of_getElem? (i := 0) rfl, hall_no (by decide +kernel) (by decide +kernel)⟩, ?_⟩
      refine ⟨_, [], ⟨_, _, rfl, rfl, _, _, rfl, rfl, _, _, rfl, rfl, rfl, rfl⟩, ?_⟩
      refine ⟨p, a, l, S, c, r, _, rfl, rfl, ?_⟩
      refine ow_in (.t _) rfl (flat_ints _) ⟨_, rfl, ?_⟩
      rw [inD_int]
      by_cases hm : (s : Int) ∈ r
      · refine itT (decide_eq_true hm) ?_
        refine wbx_one (wsx_raise m2 tk rfl (by walk_at "room") rfl ?_)
        walk_at "e"
        refine ⟨_, rfl, hq, fun a' pn' => ?_⟩
        refine wb_one (ws_expr ?_)
        refine we_append ?_
        refine we_fldP ?_
        walk_at "e"
        refine ⟨p, _, l, _, rfl, List.mem_cons_self, cl, nL, hall_lg, ?_⟩
        refine ⟨l, _, ⟨2, rfl⟩, rfl, ?_⟩
        refine we_tup ?_
        refine wa_cons ?_
        walk_at "e"
        refine wa_one ?_
        walk_at "e"
        refine ⟨[.str "out", .str "set_need"], rfl, by simp, ?_⟩
        refine ⟨_, _, 2, rfl, rfl, by rw [List.length_map, List.length_append]; simp; omega, ?_⟩
        exact keep (keep_mu (hall_grow.trans (by rw [lgs_two])) (h2 hp0 hp1 hm))
      · refine itF (decide_eq_false hm) ?_
        refine wbx_nil ?_
        refine wbx_ws (ws_set 3 sc_m_set_need.nd n3 (by walk_at "loc") (by first | exact .inl rfl | exact .inr rfl) ?_)
        walk_at "e"
        walk_at "e"
        refine we_clS [0, 0, 0] (wc_mt0 m_co cl (by walk_at "room") ?_)
        walk_at "e"
        refine ⟨p, ⟨rfl, _, List.mem_of_getElem? (i := 0) rfl, hall_no (by decide +kernel) (by decide +kernel)⟩, ?_⟩
        refine ⟨_, [], ⟨_, _, rfl, rfl, _, _, rfl, rfl, _, _, rfl, rfl, rfl, rfl⟩, ?_⟩
        refine ⟨p, a, l, S, c, r, _, rfl, rfl, ?_⟩
        walk_at "e"
        refine ow_ix (.t _) (coi_at hs) ?_
        walk_at "e"
        refine ow_ix (.t _) (atI_nat (j := 1) rfl) ?_
        refine wbx_one (wsx_expr (wex_of ?_))
        refine we_append ?_
        refine we_fldP ?_
        walk_at "e"
        refine ⟨p, _, a, _, rfl, List.mem_cons_self, cl, nS, hall_st, ?_⟩
        refine ⟨a, _, ⟨1, rfl⟩, rfl, ?_⟩
        refine we_tup ?_
        refine wa_cons ?_
        refine we_callP c2 (by walk_at "room") rfl ?_
        refine wa_cons ?_
        refine we_clS [0, 0, 0] (wc_mt0 m_co cl (by walk_at "room") ?_)
        walk_at "e"
        refine ⟨p, ⟨rfl, _, List.mem_of_getElem? (i := 0) rfl, hall_no (by decide +kernel) (by decide +kernel)⟩, ?_⟩
        refine ⟨_, [], ⟨_, _, rfl, rfl, _, _, rfl, rfl, _, _, rfl, rfl, rfl, rfl⟩, ?_⟩
        refine ⟨p, a, l, S, c, r, _, rfl, rfl, ?_⟩
        refine wa_cons ?_
        walk_at "e"
        refine wa_one ?_
        walk_at "e"
        refine ⟨_, c, _, v, rfl, hc, hp0, hp1, ?_⟩
        refine wa_one ?_
        refine we_clS [0, 0, 0] (wc_mt0 m_ca cl (by walk_at "room") ?_)
        walk_at "e"
        refine ⟨p, ⟨rfl, _, List.mem_of_getElem? (i := 0) rfl, hall_no (by decide +kernel) (by decide +kernel)⟩, ?_⟩
        refine ⟨_, [], ⟨_, _, rfl, rfl, _, _, rfl, rfl, _, _, rfl, rfl, rfl, rfl⟩, ?_⟩
        refine ⟨p, a, l, S, c, r, _, rfl, rfl, ?_⟩
        refine ⟨[coD (wn c (s : Int) v), .tuple (intsD r)], rfl, by simp, ?_⟩
        refine ⟨_, _, 1, rfl, rfl, by rw [List.length_map, List.length_append]; simp; omega, ?_⟩
        refine wb_mu hall_state ?_
        refine wb_one (ws_expr ?_)
        refine we_append ?_
        refine we_fldP ?_
        walk_at "e"
        refine ⟨p, _, l, _, rfl, List.mem_cons_self, cl, nL, hall_lg, ?_⟩
        refine ⟨l, _, ⟨2, rfl⟩, rfl, ?_⟩
        refine we_tup ?_
        refine wa_cons ?_
        walk_at "e"
        refine wa_one ?_
        walk_at "e"
        refine ⟨[.str "out", .str "set_need"], rfl, by simp, ?_⟩
        refine ⟨_, _, 2, rfl, rfl, by rw [List.length_map, List.length_append]; simp; omega, ?_⟩
        refine wbx_mu (hall_grow.trans (by rw [lgs_two])) ?_
        refine wbx_one (wsx_ret (wex_of ?_))
        walk_at "e"
        exact keep (h0 hp0 hp1 hm)
    · refine .inr ⟨_, _, _, rfl, hc, hl, hp, hq, fun a' pn' => ?_⟩
      refine wb_one (ws_expr ?_)
      refine we_append ?_
      refine we_fldP ?_
      walk_at "e"
      refine ⟨p, _, l, _, rfl, List.mem_cons_self, cl, nL, hall_lg, ?_⟩
      refine ⟨l, _, ⟨2, rfl⟩, rfl, ?_⟩
      refine we_tup ?_
      refine wa_cons ?_
      walk_at "e"
      refine wa_one ?_
      walk_at "e"
      refine ⟨[.str "out", .str "set_need"], rfl, by simp, ?_⟩
      refine ⟨_, _, 2, rfl, rfl, by rw [List.length_map, List.length_append]; simp; omega, ?_⟩
      exact keep (keep_mu (hall_grow.trans (by rw [lgs_two])) (h1 hp))
theorem ok_m_undo {f : Addr} {fd : FuncData} (F : Fun K "undo" "Gathering.undo" s_m_undo f fd) (B : Bl mg) (m_op : CalM P w K mg base 1 c_Gathering "operations" (T_opers c_Gathering)) (cl : L2.Cls K c_Gathering) (nS : NoAttr K c_Gathering "own_states") (nL : NoAttr K c_Gathering "own_log") : FnG P w K mg base CX0 2 f fd ["self"] (spW K (T_undo c_Gathering)) := by
  refine fn_w F sc_m_undo (by decide) (fun xs μ R h => ?_) fun cdv A outer s H E hr hgd xs μ R hT => ?_
  · obtain ⟨p, a, l, S, x, L, rfl, _⟩ := h
    rfl
  · obtain ⟨p, a, l, S, x, L, rfl, rfl, hS, hL, hR⟩ := hT
    refine wb_names (N := ["self", "found"]) rfl fun hn => ?_
    have n0 := hn 0 _ rfl
    have n1 := hn 1 _ rfl
    refine wb_cons (ws_expr ?_)
    refine we_append ?_
    refine we_fldP ?_
    walk_at "e"
    refine ⟨p, _, l, _, rfl, List.mem_cons_self, cl, nL, hall_lg, ?_⟩
    refine ⟨l, _, ⟨2, rfl⟩, rfl, ?_⟩
    refine we_tup ?_
    refine wa_cons ?_
    walk_at "e"
    refine wa_one ?_
    walk_at "e"
    refine ⟨[.str "in", .str "undo"], rfl, by simp, ?_⟩
    refine ⟨_, _, 2, rfl, rfl, by rw [List.length_map]; omega, ?_⟩
    refine wb_mu hall_grow ?_
    refine wb_cons ?_
    refine ws_set 1 sc_m_undo.nd n1 (by walk_at "loc") (by first | exact .inl rfl | exact .inr rfl) ?_
    walk_at "e"
    refine we_clS [0, 0, 0] (wc_mt0 m_op cl (by walk_at "room") ?_)
    walk_at "e"
    refine ⟨p, ⟨rfl, _, List.mem_of_getElem? (i := 0) rfl, hall_no (by decide +kernel) (by decide +kernel)⟩, ?_⟩
    refine ⟨_, [], ⟨_, _, rfl, rfl, _, _, rfl, rfl, _, _, rfl, rfl, rfl, rfl⟩, ?_⟩
    refine ⟨p, a, l, S, x, _, rfl, rfl, ?_⟩
    walk_at "e"
    refine ow_cmp ?_
    by_cases h0 : S = []
    · have hk : decide (0 < ((S.length : Nat) : Int)) = false := by rw [h0]; rfl
      refine wb_cons (ws_if ?_)
      refine wt_val ?_ (by with_unfolding_all exact fun _ => rfl)
      walk_at "e"
      refine ⟨_, rfl, itF hk ?_⟩
      refine wb_nil ?_
      refine wb_cons (ws_expr ?_)
      refine we_append ?_
      refine we_fldP ?_
      walk_at "e"
      refine ⟨p, _, l, _, rfl, List.mem_cons_self, cl, nL, hall_lg, ?_⟩
      refine ⟨l, _, ⟨2, rfl⟩, rfl, ?_⟩
      refine we_tup ?_
      refine wa_cons ?_
      walk_at "e"
      refine wa_one ?_
      walk_at "e"
      refine ⟨[.str "out", .str "undo"], rfl, by simp, ?_⟩
      refine ⟨_, _, 2, rfl, rfl, by rw [List.length_map, List.length_append]; simp; omega, ?_⟩
      refine wb_mu (hall_grow.trans (by rw [lgs_two, show S ++ [x] = unS S x from by unfold unS; rw [if_pos h0, h0]; rfl])) ?_
      refine wb_one (ws_ret ?_)
      walk_at "e"
      exact keep hR
    · have hk : decide (0 < ((S.length : Nat) : Int)) = true := decide_eq_true (by have := List.length_pos_iff.mpr h0; omega)
      refine wb_cons (ws_if ?_)
      refine wt_val ?_ (by with_unfolding_all exact fun _ => rfl)
      walk_at "e"
      refine ⟨_, rfl, itT hk ?_⟩
      refine wb_mu hall_pop ?_
      refine wb_one (ws_expr ?_)
      refine we_pop0 ?_
      refine we_fldP ?_
      walk_at "e"
      refine ⟨p, _, a, _, rfl, List.mem_cons_self, cl, nS, hall_st, ?_⟩
      refine ⟨a, S.map stD, stD x, 1, rfl, rfl, rfl, ?_⟩
      refine wb_mu (μ' := Hall c_Gathering p a l S (L ++ [(("in" : Str), ("undo" : Str))])) rfl ?_
      refine wb_cons (ws_expr ?_)
      refine we_append ?_
      refine we_fldP ?_
      walk_at "e"
      refine ⟨p, _, l, _, rfl, List.mem_cons_self, cl, nL, hall_lg, ?_⟩
      refine ⟨l, _, ⟨2, rfl⟩, rfl, ?_⟩
      refine we_tup ?_
      refine wa_cons ?_
      walk_at "e"
      refine wa_one ?_
      walk_at "e"
      refine ⟨[.str "out", .str "undo"], rfl, by simp, ?_⟩
      refine ⟨_, _, 2, rfl, rfl, by rw [List.length_map, List.length_append]; simp; omega, ?_⟩
      refine wb_mu (hall_grow.trans (by rw [lgs_two, show S = unS S x from by unfold unS; rw [if_neg h0]])) ?_
      refine wb_one (ws_ret ?_)
      walk_at "e"
      exact keep hR
theorem ok_m_waiting {f : Addr} {fd : FuncData} (F : Fun K "waiting" "Gathering.waiting" s_m_waiting f fd) (B : Bl mg) (m_co : CalM P w K mg base 1 c_Gathering "company" (T_comp c_Gathering)) (m_ca : CalM P w K mg base 1 c_Gathering "came" (T_came c_Gathering)) (cl : L2.Cls K c_Gathering) : FnG P w K mg base CX0 2 f fd ["self"] (spW K (T_waiting c_Gathering)) := by
  refine fn_w F sc_m_waiting (by decide) (fun xs μ R h => ?_) fun cdv A outer s H E hr hgd xs μ R hT => ?_
  · obtain ⟨p, a, l, S, c, r, L, rfl, _⟩ := h
    rfl
  · obtain ⟨p, a, l, S, c, r, L, rfl, rfl, hc, hl, hr', hR⟩ := hT
    refine wb_names (N := ["self", "person"]) rfl fun hn => ?_
    have n0 := hn 0 _ rfl
    have n1 := hn 1 _ rfl
    refine wb_one (ws_ret ?_)
    refine we_lc [("person", 1)] rfl sc_m_waiting.nd (blkOk_by (N := ["self", "person"]) (sc := defScope s_m_waiting) (by decide +kernel)) (lcP PyData.int (fun x => !decide (x ∈ r)) PyData.int ?_)
    refine wi_rng rfl B.range ?_
    refine we_len B rfl ?_
    refine we_clS [0, 0, 0] (wc_mt0 m_co cl (by walk_at "room") ?_)
    walk_at "e"
    refine ⟨p, ⟨rfl, _, List.mem_of_getElem? (i := 0) rfl, hall_no (by decide +kernel) (by decide +kernel)⟩, ?_⟩
    refine ⟨_, [], ⟨_, _, rfl, rfl, _, _, rfl, rfl, _, _, rfl, rfl, rfl, rfl⟩, ?_⟩
    refine ⟨p, a, l, S, c, r, _, rfl, rfl, ?_⟩
    refine ⟨_, .t _, ?_⟩
    rw [List.length_map]
    refine ⟨c.length, rfl, by omega, rng c.length, rfl, by rw [rng_len]; omega, fun x hx => ?_, fun zq => ?_⟩
    · intro s1 H1 C kl fp
      refine wg_name 1 sc_m_waiting.nd n1 (by walk_at "loc") (by first | exact .inl rfl | exact .inr rfl) (by decide) ?_
      intro s1 H1 C kl fp
      show WT _ _ _ _ _
      refine wt_cmp (op := .NotIn) op_notIn_seq (by walk_at "rfl") ?_
      walk_at "e"
      refine we_clS [0, 0, 0] (wc_mt0 m_ca cl (by walk_at "room") ?_)
      walk_at "e"
      refine ⟨p, ⟨rfl, _, List.mem_of_getElem? (i := 0) rfl, hall_no (by decide +kernel) (by decide +kernel)⟩, ?_⟩
      refine ⟨_, [], ⟨_, _, rfl, rfl, _, _, rfl, rfl, _, _, rfl, rfl, rfl, rfl⟩, ?_⟩
      refine ⟨p, a, l, S, c, r, _, rfl, rfl, ?_⟩
      refine ow_ni (.t _) rfl (flat_ints _) ⟨_, rfl, ?_⟩
      rw [inD_int]
      refine ⟨rfl, ?_⟩
      split
      · intro s1 H1 C kl fp
        walk_at "e"
        exact ⟨rfl, rfl⟩
      · rfl
    exact keep (hR zq)
theorem ok_m_next_people {f : Addr} {fd : FuncData} (F : Fun K "next_people" "Gathering.next_people" s_m_next_people f fd) (B : Bl mg) (c1 : CalM P w K mg base 1 c_Gathering "company" (T_comp c_Gathering)) (c2 : CalM P w K mg base 1 c_Gathering "came" (T_came c_Gathering)) (c3 : Cal P w K mg base 3 "next_people_coming" T_next) (cl : L2.Cls K c_Gathering) : FnG P w K mg base CX0 4 f fd ["self"] (spW K (T_mnext c_Gathering)) := by
  refine fn_w F sc_m_next_people (by decide) (fun xs μ R h => ?_) fun cdv A outer s H E hr hgd xs μ R hT => ?_
  · obtain ⟨p, a, l, S, c, r, L, rfl, _⟩ := h
    rfl
  · obtain ⟨p, a, l, S, c, r, L, rfl, rfl, hc, hR⟩ := hT
    refine wb_names (N := ["self"]) rfl fun hn => ?_
    have n0 := hn 0 _ rfl
    refine wb_one (ws_ret ?_)
    refine we_callP c3 (by walk_at "room") rfl ?_
    refine wa_cons ?_
    refine we_clS [0, 0, 0] (wc_mt0 c1 cl (by walk_at "room") ?_)
    walk_at "e"
    refine ⟨p, ⟨rfl, _, List.mem_cons_self, hall_no (by decide +kernel) (by decide +kernel)⟩, ?_⟩
    refine ⟨_, [], hall_lent [], ?_⟩
    refine ⟨p, a, l, S, c, r, L, rfl, rfl, ?_⟩
    refine wa_one ?_
    refine we_clS [0, 0, 0] (wc_mt0 c2 cl (by walk_at "room") ?_)
    walk_at "e"
    refine ⟨p, ⟨rfl, _, List.mem_cons_self, hall_no (by decide +kernel) (by decide +kernel)⟩, ?_⟩
    refine ⟨_, [], hall_lent [], ?_⟩
    refine ⟨p, a, l, S, c, r, L, rfl, rfl, ?_⟩
    refine ⟨_, c, _, r, rfl, hc, .inr rfl, fun q => ?_⟩
    exact keep (hR q)
theorem ok_m_will_never {f : Addr} {fd : FuncData} (F : Fun K "will_never" "Gathering.will_never" s_m_will_never f fd) (B : Bl mg) (m_co : CalM P w K mg base 1 c_Gathering "company" (T_comp c_Gathering)) (m_ca : CalM P w K mg base 1 c_Gathering "came" (T_came c_Gathering)) (m_wa : CalM P w K mg base 2 c_Gathering "waiting" (T_waiting c_Gathering)) (cl : L2.Cls K c_Gathering) (c1 : Cal P w K mg base 5 "closure" T_closure) : FnG P w K mg base CX0 6 f fd ["self"] (spW K (T_wnever c_Gathering)) := by
  refine fn_w F sc_m_will_never (by decide) (fun xs μ R h => ?_) fun cdv A outer s H E hr hgd xs μ R hT => ?_
  · obtain ⟨p, a, l, S, c, r, L, rfl, _⟩ := h
    rfl
  · obtain ⟨p, a, l, S, c, r, L, rfl, rfl, hc, hl, hR⟩ := hT
    refine wb_names (N := ["self", "there", "person"]) rfl fun hn => ?_
    have n0 := hn 0 _ rfl
    have n1 := hn 1 _ rfl
    have n2 := hn 2 _ rfl
    refine wb_cons ?_
    refine ws_set 1 sc_m_will_never.nd n1 (by walk_at "loc") (by first | exact .inl rfl | exact .inr rfl) ?_
    refine we_callP c1 (by walk_at "room") rfl ?_
    refine wa_cons ?_
    refine we_clS [0, 0, 0] (wc_mt0 m_co cl (by walk_at "room") ?_)
    walk_at "e"
    refine ⟨p, ⟨rfl, _, List.mem_of_getElem? (i := 0) rfl, hall_no (by decide +kernel) (by decide +kernel)⟩, ?_⟩
    refine ⟨_, [], ⟨_, _, rfl, rfl, _, _, rfl, rfl, _, _, rfl, rfl, rfl, rfl⟩, ?_⟩
    refine ⟨p, a, l, S, c, r, _, rfl, rfl, ?_⟩
    refine wa_cons ?_
    refine we_clS [0, 0, 0] (wc_mt0 m_ca cl (by walk_at "room") ?_)
    walk_at "e"
    refine ⟨p, ⟨rfl, _, List.mem_of_getElem? (i := 0) rfl, hall_no (by decide +kernel) (by decide +kernel)⟩, ?_⟩
    refine ⟨_, [], ⟨_, _, rfl, rfl, _, _, rfl, rfl, _, _, rfl, rfl, rfl, rfl⟩, ?_⟩
    refine ⟨p, a, l, S, c, r, _, rfl, rfl, ?_⟩
    refine wa_one ?_
    refine we_tup ?_
    refine wa_nil ?_
    refine ⟨[], rfl, by simp, ?_⟩
    refine ⟨_, c, _, r, _, [], rfl, hc, .inr rfl, .inr rfl, hl, ?_⟩
    refine wb_one (ws_ret ?_)
    refine we_tuple B rfl ?_
    refine we_fz ?_
    refine we_lc [("person", 2)] rfl sc_m_will_never.nd (blkOk_by (N := ["self", "there", "person"]) (sc := defScope s_m_will_never) (by decide +kernel)) (lcP PyData.int (fun x => !decide (x ∈ Ec.cl c r [])) PyData.int ?_)
    refine wi_seq ?_
    refine we_fz ?_
    refine we_clS [0, 0, 0] (wc_mt0 m_wa cl (by walk_at "room") ?_)
    walk_at "e"
    refine ⟨p, ⟨rfl, _, List.mem_of_getElem? (i := 0) rfl, hall_no (by decide +kernel) (by decide +kernel)⟩, ?_⟩
    refine ⟨_, [], ⟨_, _, rfl, rfl, _, _, rfl, rfl, _, _, rfl, rfl, rfl, rfl⟩, ?_⟩
    refine ⟨p, a, l, S, c, r, _, rfl, rfl, hc, by omega, by omega, fun z => ⟨z, _, _, rfl, rfl, plS_map fun _ => rfl, ?_⟩⟩
    refine ⟨_, .l _, wtg c r, rfl, Nat.le_trans (List.length_filter_le _ _) (by rw [rng_len]; omega), fun x hx => ?_, fun zq => ?_⟩
    · intro s1 H1 C kl fp
      refine wg_name 2 sc_m_will_never.nd n2 (by walk_at "loc") (by first | exact .inl rfl | exact .inr rfl) (by decide) ?_
      intro s1 H1 C kl fp
      show WT _ _ _ _ _
      refine wt_cmp (op := .NotIn) op_notIn_seq (by walk_at "rfl") ?_
      walk_at "e"
      walk_at "e"
      refine ow_ni (.t _) rfl (flat_ints _) ⟨_, rfl, ?_⟩
      rw [inD_int]
      refine ⟨rfl, ?_⟩
      split
      · intro s1 H1 C kl fp
        walk_at "e"
        exact ⟨rfl, rfl⟩
      · rfl
    refine ⟨zq, _, _, rfl, rfl, plS_map fun _ => rfl, ?_⟩
    refine ⟨_, .l _, ?_⟩
    exact keep hR
theorem ok_m_operations {f : Addr} {fd : FuncData} (F : Fun K "operations" "Gathering.operations" s_m_operations f fd) (B : Bl mg) (cl : L2.Cls K c_Gathering) (nS : NoAttr K c_Gathering "own_states") : FnG P w K mg base CX0 1 f fd ["self"] (spW K (T_opers c_Gathering)) := by
  refine fn_w F sc_m_operations (by decide) (fun xs μ R h => ?_) fun cdv A outer s H E hr hgd xs μ R hT => ?_
  · obtain ⟨p, a, l, S, x, L, rfl, _⟩ := h
    rfl
  · obtain ⟨p, a, l, S, x, L, rfl, rfl, hR⟩ := hT
    refine wb_names (N := ["self"]) rfl fun hn => ?_
    have n0 := hn 0 _ rfl
    refine wb_one (ws_ret ?_)
    walk_at "e"
    refine we_len B rfl ?_
    refine we_fldP ?_
    walk_at "e"
    refine ⟨p, _, a, _, rfl, List.mem_cons_self, cl, nS, hall_st, ?_⟩
    refine ⟨_, .c 1 rfl (plS_map fun _ => rfl), ?_⟩
    walk_at "e"
    refine ow_sub ?_
    rw [show ((((S ++ [x]).map stD).length : Nat) : Int) - 1 = ((S.length : Nat) : Int) from by rw [List.length_map, List.length_append, List.length_singleton]; omega]
    exact keep hR
theorem okx_m_as_of {f : Addr} {fd : FuncData} (F : Fun K "as_of" "Gathering.as_of" s_m_as_of f fd) (B : Bl mg) (m_op : CalM P w K mg base 1 c_Gathering "operations" (T_opers c_Gathering)) (cl : L2.Cls K c_Gathering) (nS : NoAttr K c_Gathering "own_states") (c1 : CalI0 P w K mg base 2 "Gathering" c_Gathering (T_init2 c_Gathering)) (m2 : ExcM P w K mg base 1 "NoOperation" "many" c_NoOperation) : FnG P w K mg base (L2.CX P w) 4 f fd ["self", "many"] (spX K (T_asof c_Gathering c_NoOperation)) := by
  refine fn_wx F sc_m_as_of (by decide) (fun xs μ R RE h => ?_) fun cdv A outer s H E hr hgd xs μ R RE hT => ?_
  · obtain ⟨p, a, l, S, x, L, q, rfl, _⟩ := h
    rfl
  · obtain ⟨p, a, l, S, x, L, q, rfl, rfl, hS, hq, h0, h1⟩ := hT
    refine wbx_names (N := ["self", "many", "found"]) rfl fun hn => ?_
    have n0 := hn 0 _ rfl
    have n1 := hn 1 _ rfl
    have n2 := hn 2 _ rfl
    refine wbx_cons (wsx_if ?_)
    refine wt_not ?_
    refine wt_chain op_le op_le ?_
    walk_at "e"
    walk_at "e"
    refine ow_cmp ⟨_, rfl, ?_⟩
    by_cases hp : 0 ≤ q
    · refine itT (decide_eq_true hp) ?_
      rintro _ rfl
      refine we_clS [0, 0, 0] (wc_mt0 m_op cl (by walk_at "room") ?_)
      walk_at "e"
      refine ⟨p, ⟨rfl, _, List.mem_of_getElem? (i := 0) rfl, hall_no (by decide +kernel) (by decide +kernel)⟩, ?_⟩
      refine ⟨_, [], ⟨_, _, rfl, rfl, _, _, rfl, rfl, _, _, rfl, rfl, rfl, rfl⟩, ?_⟩
      refine ⟨p, a, l, S, x, _, rfl, rfl, ?_⟩
      refine ow_cmp ⟨_, rfl, ?_⟩
      by_cases hk : q ≤ S.length
      · rw [decide_eq_true hk]
        refine itF rfl ?_
        refine wbx_nil ?_
        obtain ⟨n, rfl⟩ : ∃ n : Nat, q = n := ⟨q.toNat, by omega⟩
        have hn : n ≤ S.length := by omega
        refine wbx_ws (ws_set 2 sc_m_as_of.nd n2 (by walk_at "loc") (by first | exact .inl rfl | exact .inr rfl) ?_)
        refine we_mk0 c1 (by walk_at "room") rfl fun p2 => ?_
        refine .inr ⟨p2, rfl, rfl, fun a2 l2 => ⟨rfl, ?_⟩⟩
        refine wbx_ws (ws_fldP ?_)
        refine we_slC ?_
        refine we_fldP ?_
        walk_at "e"
        refine ⟨p, _, a, _, rfl, List.mem_of_getElem? (i := 3) rfl, cl, nS, hall_st, ?_⟩
        refine wo_none ?_
        refine wo_some ?_
        walk_at "e"
        walk_at "e"
        walk_at "e"
        refine ow_add ?_
        refine ⟨_, rfl, ?_⟩
        refine ⟨a, _, 4, rfl, rfl, fun a3 => ?_⟩
        walk_at "e"
        refine ⟨p2, c_Gathering, a3, _, 1, rfl, rfl, rfl, cl, nS, by show ([_, _] : List (Str × PyData)).length < 1000; exact (by decide : 2 < 1000), ?_⟩
        rw [show ((n : Nat) : Int) + 1 = ((n + 1 : Nat) : Int) from rfl, cut_states (by rw [List.length_map, List.length_append, List.length_singleton]; omega), ← List.map_take]
        refine wbx_mu (μ' := [(a3, Cont.l (((S ++ [x]).take (n + 1)).map stD)), (p2, Cont.o c_Gathering (hallF a3 l2)), (a2, Cont.l [stD ([], [])]), (l2, Cont.l ([] : List PyData))] ++ Hall c_Gathering p a l (S ++ [x]) L) (by rw [← hall_put2 (a := a2) (l := l2) (b := a3)]; rfl) ?_
        refine wbx_ord [2, 1, 0, 0] (l := [(a2, Cont.l [stD ([], [])]), (p2, Cont.o c_Gathering (hallF a3 l2)), (a3, Cont.l (((S ++ [x]).take (n + 1)).map stD)), (l2, Cont.l ([] : List PyData))]) ⟨_, _, rfl, rfl, _, _, rfl, rfl, _, _, rfl, rfl, _, _, rfl, rfl, rfl, rfl⟩ ?_
        refine wbx_drop ?_
        refine wbx_one (wsx_ret (wex_of ?_))
        walk_at "e"
        exact keep (h0 n rfl hn p2 a3 l2)
      · rw [decide_eq_false hk]
        refine itT rfl ?_
        refine wbx_one (wsx_raise m2 bXx_takes rfl (by walk_at "room") rfl ?_)
        walk_at "e"
        exact ⟨_, rfl, hq, keep (h1 (fun z => hk z.2))⟩
    · refine itF (decide_eq_false hp) ?_
      refine itT rfl ?_
      refine wbx_one (wsx_raise m2 bXx_takes rfl (by walk_at "room") rfl ?_)
      walk_at "e"
      exact ⟨_, rfl, hq, keep (h1 (fun z => hp z.1))⟩
theorem ok_m_twin {f : Addr} {fd : FuncData} (F : Fun K "twin" "Gathering.twin" s_m_twin f fd) (B : Bl mg) (m_op : CalM P w K mg base 1 c_Gathering "operations" (T_opers c_Gathering)) (cl : L2.Cls K c_Gathering) (m_as : CalMX P w K mg base 4 c_Gathering "as_of" (T_asof c_Gathering c_NoOperation)) : FnG P w K mg base CX0 5 f fd ["self"] (spW K (T_twin c_Gathering)) := by
  refine fn_w F sc_m_twin (by decide) (fun xs μ R h => ?_) fun cdv A outer s H E hr hgd xs μ R hT => ?_
  · obtain ⟨p, a, l, S, x, L, rfl, _⟩ := h
    rfl
  · obtain ⟨p, a, l, S, x, L, rfl, rfl, hS, hR⟩ := hT
    refine wb_names (N := ["self"]) rfl fun hn => ?_
    have n0 := hn 0 _ rfl
    refine wb_one (ws_ret ?_)
    refine we_x0 ?_
    refine wex_clS [0, 0, 0] (wcx_mt m_as takes0 cl (by walk_at "room") ?_)
    walk_at "e"
    refine ⟨p, ⟨rfl, _, List.mem_of_getElem? (i := 0) rfl, hall_no (by decide +kernel) (by decide +kernel)⟩, ?_⟩
    refine wa_one ?_
    refine we_clS [0, 0, 0] (wc_mt0 m_op cl (by walk_at "room") ?_)
    walk_at "e"
    refine ⟨p, ⟨rfl, _, List.mem_of_getElem? (i := 0) rfl, hall_no (by decide +kernel) (by decide +kernel)⟩, ?_⟩
    refine ⟨_, [], ⟨_, _, rfl, rfl, _, _, rfl, rfl, _, _, rfl, rfl, rfl, rfl⟩, ?_⟩
    refine ⟨p, a, l, S, x, _, rfl, rfl, ?_⟩
    refine ⟨_, [], hall_lent [], ?_⟩
    refine ⟨p, a, l, S, x, L, _, rfl, rfl, hS, log_nat (by omega), fun n hn hle p2 a2 l2 => ?_, fun z => absurd ⟨by omega, by omega⟩ z⟩
    have en : n = S.length := by omega
    subst en
    rw [show (S ++ [x]).take (S.length + 1) = S ++ [x] from List.take_of_length_le (by simp)]
    exact keep (hR p2 a2 l2)
theorem ok_m_log {f : Addr} {fd : FuncData} (F : Fun K "log" "Gathering.log" s_m_log f fd) (B : Bl mg) (cl : L2.Cls K c_Gathering) (nL : NoAttr K c_Gathering "own_log") : FnG P w K mg base CX0 1 f fd ["self"] (spW K (T_log c_Gathering)) := by
  refine fn_w F sc_m_log (by decide) (fun xs μ R h => ?_) fun cdv A outer s H E hr hgd xs μ R hT => ?_
  · obtain ⟨p, a, l, S, x, L, rfl, _⟩ := h
    rfl
  · obtain ⟨p, a, l, S, x, L, rfl, rfl, hR⟩ := hT
    refine wb_names (N := ["self"]) rfl fun hn => ?_
    have n0 := hn 0 _ rfl
    refine wb_one (ws_ret ?_)
    refine we_list B rfl ?_
    refine we_fldP ?_
    walk_at "e"
    refine ⟨p, _, l, _, rfl, List.mem_cons_self, cl, nL, hall_lg, ?_⟩
    refine ⟨_, .c 2 rfl (plS_map fun _ => rfl), fun q => ?_⟩
    exact keep (hR q)
theorem ok_m___eq__ {f : Addr} {fd : FuncData} (F : Fun K "__eq__" "Gathering.__eq__" s_m___eq__ f fd) (B : Bl mg) (cl : L2.Cls K c_Gathering) (nS : NoAttr K c_Gathering "own_states") (oi : OIs K c_Gathering) (ki : OKi K c_Gathering) (g : mg "Gathering" = some (.ref c_Gathering)) : FnG P w K mg base CX0 1 f fd ["self", "other"] (spW K (T_heq42 c_Gathering)) := by
  refine fn_w F sc_m___eq__ (by decide) (fun xs μ R h => ?_) fun cdv A outer s H E hr hgd xs μ R hT => ?_
  · rcases h with ⟨p, a, l, S, x, L, p2, a2, l2, S2, x2, L2, rfl, _⟩ | ⟨p, a, l, S, L, d, rfl, _⟩ <;> rfl
  · rcases hT with ⟨p, a, l, S, x, L, p2, a2, l2, S2, x2, L2, rfl, rfl, hc, hc2, hr1, hr2, hl1, hl2, hR⟩ | ⟨p, a, l, S, L, d, rfl, rfl, hR⟩
    · skip
      refine wb_names (N := ["self", "other"]) rfl fun hn => ?_
      have n0 := hn 0 _ rfl
      have n1 := hn 1 _ rfl
      refine wb_one (ws_ret ?_)
      refine we_and ?_
      refine we_isO B rfl oi (.own rfl g (by decide)) ?_
      walk_at "e"
      refine ⟨p2, _, rfl, List.mem_of_getElem? (i := 3) rfl, ?_⟩
      refine ⟨_, rfl, itT rfl ?_⟩
      refine we_one ?_
      refine we_cmp (op := .Eq) (op_eqD (Room.units (k := 0) (by with_unfolding_all exact Room.mono (by assumption) (Nat.zero_le _)))) (nomark _) ?_
      walk_at "e"
      refine we_fldP ?_
      walk_at "e"
      refine ⟨p, _, a, _, rfl, List.mem_of_getElem? (i := 0) rfl, cl, nS, hall_st, ?_⟩
      walk_at "e"
      walk_at "e"
      refine uw_neg ?_
      refine ow_ixC 1 rfl (st_last S x) (.inl ⟨rfl, ?_⟩)
      walk_at "e"
      refine we_fldP ?_
      walk_at "e"
      refine ⟨p2, _, a2, _, rfl, List.mem_of_getElem? (i := 3) rfl, cl, nS, hall_st, ?_⟩
      walk_at "e"
      walk_at "e"
      refine uw_neg ?_
      refine ow_ixC 4 rfl (st_last S2 x2) (.inl ⟨rfl, ?_⟩)
      refine ow_eq (.d _) (.d _) (fits_shaped (st_fits hc hr1)) (fits_shaped (st_fits hc2 hr2)) ?_
      rw [eqv_st]
      exact keep hR
    · skip
      refine wb_names (N := ["self", "other"]) rfl fun hn => ?_
      have n0 := hn 0 _ rfl
      have n1 := hn 1 _ rfl
      refine wb_one (ws_ret ?_)
      refine we_and ?_
      refine we_isOD B rfl ki (.own rfl g (by decide)) ?_
      walk_at "e"
      refine ⟨d, rfl, ?_⟩
      refine ⟨false, rfl, itF rfl ?_⟩
      exact keep hR
theorem ok_m___len__ {f : Addr} {fd : FuncData} (F : Fun K "__len__" "Gathering.__len__" s_m___len__ f fd) (B : Bl mg) (c2 : CalM P w K mg base 1 c_Gathering "came" (T_came c_Gathering)) (cl : L2.Cls K c_Gathering) : FnG P w K mg base CX0 2 f fd ["self"] (spW K (T_hlen c_Gathering)) := by
  refine fn_w F sc_m___len__ (by decide) (fun xs μ R h => ?_) fun cdv A outer s H E hr hgd xs μ R hT => ?_
  · obtain ⟨p, a, l, S, c, r, L, rfl, _⟩ := h
    rfl
  · obtain ⟨p, a, l, S, c, r, L, rfl, rfl, hR⟩ := hT
    refine wb_names (N := ["self"]) rfl fun hn => ?_
    have n0 := hn 0 _ rfl
    refine wb_one (ws_ret ?_)
    refine we_len B rfl ?_
    refine we_clS [0, 0, 0] (wc_mt0 c2 cl (by walk_at "room") ?_)
    walk_at "e"
    refine ⟨p, ⟨rfl, _, List.mem_cons_self, hall_no (by decide +kernel) (by decide +kernel)⟩, ?_⟩
    refine ⟨_, [], hall_lent [], ?_⟩
    refine ⟨p, a, l, S, c, r, L, rfl, rfl, ?_⟩
    refine ⟨_, .t _, ?_⟩
    rw [show (intsD r).length = r.length from List.length_map _]
    exact keep hR
theorem ok_m___repr__ {f : Addr} {fd : FuncData} (F : Fun K "__repr__" "Gathering.__repr__" s_m___repr__ f fd) (B : Bl mg) (m_co : CalM P w K mg base 1 c_Gathering "company" (T_comp c_Gathering)) (m_len : CalM P w K mg base 2 c_Gathering "__len__" (T_hlen c_Gathering)) (cl : L2.Cls K c_Gathering) : FnG P w K mg base CX0 4 f fd ["self"] (spW K (T_hrepr c_Gathering)) := by
  refine fn_w F sc_m___repr__ (by decide) (fun xs μ R h => ?_) fun cdv A outer s H E hr hgd xs μ R hT => ?_
  · obtain ⟨p, a, l, S, c, r, L, rfl, _⟩ := h
    rfl
  · obtain ⟨p, a, l, S, c, r, L, rfl, rfl, hl, hr', hR⟩ := hT
    refine wb_names (N := ["self"]) rfl fun hn => ?_
    have n0 := hn 0 _ rfl
    have t1 := txt_short hr'
    have t2 := txt_short hl
    have z0 : (Str.empty ++ "Gathering(" : Str).length ≤ 100 := by decide +kernel
    have z1 := app_le z0 t1
    have z2 := app_le z1 (show (" of " : Str).length ≤ 100 from by decide +kernel)
    have z3 := app_le z2 t2
    have z4 := app_le z3 (show (" people)" : Str).length ≤ 100 from by decide +kernel)
    refine wb_one (ws_ret ?_)
    refine we_fstr ?_
    refine wj_cons ?_
    walk_at "e"
    refine ⟨_, rfl, by decide +kernel, ?_⟩
    refine wj_cons ?_
    refine we_fmtI ?_
    refine we_lenO [0, 0, 0] m_len B (by walk_at "room") rfl ?_
    walk_at "e"
    refine ⟨p, _, [], _, rfl, List.mem_cons_self, hall_lent [], p, a, l, S, c, r, _, rfl, rfl, _, rfl, ⟨by omega, by omega⟩, ?_⟩
    refine ⟨_, rfl, log_small (by omega) (by omega), ?_⟩
    refine ⟨_, rfl, Nat.le_trans z1 (by decide), ?_⟩
    refine wj_cons ?_
    walk_at "e"
    refine ⟨_, rfl, Nat.le_trans z2 (by decide), ?_⟩
    refine wj_cons ?_
    refine we_fmtI ?_
    refine we_len B rfl ?_
    refine we_clS [0, 0, 0] (wc_mt0 m_co cl (by walk_at "room") ?_)
    walk_at "e"
    refine ⟨p, ⟨rfl, _, List.mem_of_getElem? (i := 0) rfl, hall_no (by decide +kernel) (by decide +kernel)⟩, ?_⟩
    refine ⟨_, [], ⟨_, _, rfl, rfl, _, _, rfl, rfl, _, _, rfl, rfl, rfl, rfl⟩, ?_⟩
    refine ⟨p, a, l, S, c, r, _, rfl, rfl, ?_⟩
    refine ⟨_, .t _, ?_⟩
    rw [List.length_map]
    refine ⟨_, rfl, log_small (by omega) (by omega), ?_⟩
    refine ⟨_, rfl, Nat.le_trans z3 (by decide), ?_⟩
    refine wj_cons ?_
    walk_at "e"
    refine ⟨_, rfl, Nat.le_trans z4 (by decide), ?_⟩
    refine wj_nil ?_
    exact keep hR
theorem ok_cell_at_l {f : Addr} {fd : FuncData} (F : Fun K "_law_cell_at" "_law_cell_at" s_cell_at_l f fd) (B : Bl mg) : FnG P w K mg base CX0 1 f fd ["_law_script", "_law_k"] (spW K T_cell) := by
  refine fn_w F sc_cell_at_l (by decide) (fun xs μ R h => ?_) fun cdv A outer s H E hr hgd xs μ R hT => ?_
  · obtain ⟨ns, k, rfl, _⟩ := h
    rfl
  · obtain ⟨ns, k, rfl, hR⟩ := hT
    refine wb_names (N := ["_law_script", "_law_k"]) rfl fun hn => ?_
    have n0 := hn 0 _ rfl
    have n1 := hn 1 _ rfl
    refine wb_cons (ws_if ?_)
    walk_at "t"
    walk_at "e"
    refine we_len B rfl ?_
    walk_at "e"
    refine ⟨_, .s _, ?_⟩
    refine ow_cmp ⟨_, rfl, ?_⟩
    split
    · rename_i hk
      have hk' := of_decide_eq_true hk
      rw [List.length_map] at hk'
      have hl : k < ns.length := by omega
      refine wb_one (ws_ret ?_)
      walk_at "go"
      refine ow_ix (.s _) (atI_nat (j := k) (v := .int ns[k]) (by rw [List.getElem?_map, List.getElem?_eq_getElem hl]; rfl)) ?_
      rw [List.getD_eq_getElem?_getD, List.getElem?_eq_getElem hl] at hR
      exact keep hR
    · rename_i hk
      have hk' : ¬ ((k : Int) < ((intsD ns).length : Nat)) := fun z => hk (decide_eq_true z)
      rw [List.length_map] at hk'
      refine wb_nil ?_
      refine wb_one (ws_ret ?_)
      walk_at "e"
      rw [List.getD_eq_getElem?_getD, List.getElem?_eq_none (by omega)] at hR
      exact keep hR
theorem ok_box_l {f : Addr} {fd : FuncData} (F : Fun K "_law_box" "_law_box" s_box_l f fd) (B : Bl mg) (c1 : Cal P w K mg base 1 "_law_cell_at" T_cell) : FnG P w K mg base CX0 2 f fd ["_law_script", "_law_k"] (spW K T_box) := by
  refine fn_w F sc_box_l (by decide) (fun xs μ R h => ?_) fun cdv A outer s H E hr hgd xs μ R hT => ?_
  · obtain ⟨ns, k, rfl, _⟩ := h
    rfl
  · obtain ⟨ns, k, rfl, hk, hR⟩ := hT
    refine wb_names (N := ["_law_script", "_law_k", "_law_core"]) rfl fun hn => ?_
    have n0 := hn 0 _ rfl
    have n1 := hn 1 _ rfl
    have n2 := hn 2 _ rfl
    refine wb_cons ?_
    refine ws_set 2 sc_box_l.nd n2 (by walk_at "loc") (by first | exact .inl rfl | exact .inr rfl) ?_
    refine we_callP c1 hr rfl ?_
    walk_at "go"
    refine ⟨ns, k, rfl, ?_⟩
    generalize ns.getD k 0 = v
    refine wb_one (ws_ret ?_)
    refine we_lst (wa_cons ?_)
    walk_at "e"
    refine we_abs B rfl ?_
    walk_at "e"
    refine ⟨v, rfl, ?_⟩
    refine we_intB B rfl ?_
    walk_at "e"
    refine we_abs B rfl ?_
    walk_at "e"
    refine ⟨v, rfl, ?_⟩
    walk_at "go"
    refine ow_cnd (by exact ⟨by decide, by decide, by decide⟩) ?_
    refine ow_cmp ⟨_, rfl, ?_⟩
    generalize decide ((10 : Int) ^ Int.toNat 18 ≤ if v < 0 then -v else v) = kk
    refine ow_mul (.inr (by cases kk <;> decide)) ?_
    walk_at "go"
    refine ow_cnd (by decide) ?_
    walk_at "go"
    refine ow_mul (.inl (by decide)) ?_
    walk_at "go"
    refine ⟨_, rfl, (by show 3 ≤ 100000; decide), fun q => ?_⟩
    refine keep (hR q _ ⟨_, _, _, rfl, ?_, ?_, ?_, by decide, by decide⟩)
    · refine Int.mul_nonneg ?_ ?_
      · split <;> omega
      · cases kk <;> decide
    · have := Int.emod_nonneg v (show (2305843009213693951 : Int) ≠ 0 by decide)
      omega
    · have := Int.emod_lt_of_pos v (show (0 : Int) < 2305843009213693951 by decide)
      omega
theorem pow7 : (10 : Int) ^ Int.toNat 7 = 10000000 := by decide
theorem atB0 {x y z : Int} : atI (boxD x y z) 0 = some (.int x) := atI_nat (j := 0) rfl
theorem atB1 {x y z : Int} : atI (boxD x y z) 1 = some (.int y) := atI_nat (j := 1) rfl
theorem atB2 {x y z : Int} : atI (boxD x y z) 2 = some (.int z) := atI_nat (j := 2) rfl
theorem ok_take_s {f : Addr} {fd : FuncData} (F : Fun K "_law_take" "_law_take" s_take_l f fd) (B : Bl mg) : FnG P w K mg base CX0 1 f fd ["_law_box_here", "_law_below"] (spW K (T_takeN 10000000 1)) := by
  refine fn_w F sc_take_l (by decide) (fun xs μ R h => ?_) fun cdv A outer s H E hr hgd xs μ R hT => ?_
  · obtain ⟨b, ds, n, m, rfl, _⟩ := h
    rfl
  · obtain ⟨b, ds, n, m, rfl, rfl, hb, h0, h1, hm, hR⟩ := hT
    obtain ⟨x, y, z, rfl, hx, hy, hy2, hz, hz2⟩ := hb
    refine wb_names (N := ["_law_box_here", "_law_below", "_law_found", "_law_once", "_law_twice"]) rfl fun hn => ?_
    have n0 := hn 0 _ rfl
    have n1 := hn 1 _ rfl
    have n2 := hn 2 _ rfl
    have n3 := hn 3 _ rfl
    have n4 := hn 4 _ rfl
    refine wb_cons (ws_if ?_)
    walk_at "t"
    walk_at "go"
    refine ow_ix (.c 0 rfl) atB0 ?_
    walk_at "go"
    refine ⟨_, rfl, ?_⟩
    split
    · refine wb_cons ?_
      refine ws_set 2 sc_take_l.nd n2 (by walk_at "loc") (by first | exact .inl rfl | exact .inr rfl) ?_
      walk_at "go"
      refine ow_ix (.c 0 rfl) atB0 ?_
      walk_at "go"
      refine ow_cnd h0 ?_
      refine wb_cons ?_
      refine ws_asg [] ?_
      walk_at "go"
      refine ow_ix (.c 0 rfl) atB0 ?_
      walk_at "go"
      refine ow_cnd (C := CDiv) (by exact ⟨h0, by omega⟩) ?_
      refine wg_setL ?_
      walk_at "e"
      walk_at "e"
      refine ⟨b, _, 0, 0, rfl, rfl, rfl, (by show 0 < 3; decide), ?_⟩
      refine wb_one (ws_ret ?_)
      walk_at "e"
      exact keep (hR _ _ (Int.emod_nonneg _ (by omega)) (Int.emod_lt_of_pos _ h0) ⟨x / n, y, z, rfl, Int.ediv_nonneg hx (by omega), hy, hy2, hz, by omega⟩)
    · refine wb_nil ?_
      refine wb_cons (ws_if ?_)
      walk_at "t"
      walk_at "go"
      refine ow_cnd (C := CPow) (by exact ⟨by decide, by decide, by decide⟩) ?_
      refine ow_cmp ⟨_, rfl, ?_⟩
      rw [pow7, decide_eq_false (show ¬ ((10000000 : Int) < n) by omega)]
      rw [if_neg (by decide)]
      refine wb_nil ?_
      refine wb_cons ?_
      refine ws_asg [] ?_
      walk_at "go"
      refine ow_ix (.c 0 rfl) atB2 ?_
      walk_at "go"
      refine wg_setL ?_
      walk_at "e"
      walk_at "e"
      refine ⟨b, _, 2, 0, rfl, rfl, rfl, (by show 2 < 3; decide), ?_⟩
      have eb : ((boxD x y z).set 2 (.int (z + 1))) = boxD x y (z + 1) := rfl
      rw [eb]
      refine wb_cons ?_
      refine ws_set 3 sc_take_l.nd n3 (by walk_at "loc") (by first | exact .inl rfl | exact .inr rfl) ?_
      walk_at "go"
      refine ow_ix (.c 0 rfl) atB1 ?_
      walk_at "go"
      refine ow_ix (.c 0 rfl) atB2 ?_
      refine ow_mul (.inl (by decide)) ?_
      walk_at "go"
      refine ow_ix (.c 0 rfl) atB2 ?_
      walk_at "go"
      refine ow_mul (.inr ⟨by omega, by omega⟩) ?_
      walk_at "go"
      refine ow_cnd (by decide) ?_
      generalize ho : (y + 48271 * (z + 1)) * (39373 + (z + 1)) % 2147483647 = once
      refine wb_cons ?_
      refine ws_set 4 sc_take_l.nd n4 (by walk_at "loc") (by first | exact .inl rfl | exact .inr rfl) ?_
      walk_at "go"
      refine ow_ix (.c 0 rfl) atB2 ?_
      walk_at "go"
      refine ow_ix (.c 0 rfl) atB1 ?_
      walk_at "go"
      refine ow_cnd (C := CDiv) (by exact ⟨by decide, by decide⟩) ?_
      walk_at "go"
      refine ow_cnd (by decide) ?_
      walk_at "go"
      have q1 := Int.emod_nonneg once (show (40009 : Int) ≠ 0 by decide)
      have q2 := Int.emod_lt_of_pos once (show (0 : Int) < 40009 by decide)
      refine ow_mul (.inr ⟨by omega, by omega⟩) ?_
      walk_at "go"
      refine ow_cnd (by decide) ?_
      refine wb_one (ws_ret ?_)
      walk_at "go"
      refine ow_mul (.inr (by decide)) ?_
      walk_at "go"
      refine ow_cnd (by decide) ?_
      walk_at "go"
      refine ow_cnd (C := CDiv) (by exact ⟨by decide, by decide⟩) ?_
      walk_at "go"
      refine ow_cnd h0 ?_
      exact keep (hR _ _ (Int.emod_nonneg _ (by omega)) (Int.emod_lt_of_pos _ h0) ⟨x, y, z + 1, rfl, hx, hy, hy2, by omega, by omega⟩)
theorem ok_of_l {f : Addr} {fd : FuncData} (F : Fun K "_law_of" "_law_of" s_of_l f fd) (B : Bl mg) (c1 : Cal P w K mg base 1 "_law_take" T_take) : FnG P w K mg base CX0 2 f fd ["_law_box_here", "_law_some"] (spW K T_of) := by
  refine fn_w F sc_of_l (by decide) (fun xs μ R h => ?_) fun cdv A outer s H E hr hgd xs μ R hT => ?_
  · obtain ⟨b, bs, ds, m, rfl, _⟩ := h
    rfl
  · obtain ⟨b, bs, ds, m, rfl, rfl, hb, hne, hl, hm, hR⟩ := hT
    refine wb_names (N := ["_law_box_here", "_law_some"]) rfl fun hn => ?_
    have n0 := hn 0 _ rfl
    have n1 := hn 1 _ rfl
    have hp : 0 < ds.length := List.length_pos_iff.mpr hne
    refine wb_one (ws_ret ?_)
    walk_at "go"
    refine we_callB 0 c1 (by walk_at "room") rfl ?_
    walk_at "go"
    refine we_len B rfl ?_
    walk_at "e"
    refine ⟨_, .l _, wa_nil ?_⟩
    refine ⟨b, bs, rfl, b, bs, _, m, rfl, rfl, hb, by omega, by omega, by omega, fun r1 bs1 h0 h1 hb1 => ⟨[], bs1, rfl, ?_⟩⟩
    obtain ⟨k, rfl⟩ : ∃ k : Nat, r1 = (k : Int) := ⟨r1.toNat, by omega⟩
    have hk : k < ds.length := by omega
    refine ow_ix (.l _) (atI_nat (j := k) (List.getElem?_eq_getElem hk)) ?_
    exact keep (hR _ (List.getElem_mem hk) bs1 hb1)
theorem ok_same_s {f : Addr} {fd : FuncData} (F : Fun K "_law_same" "_law_same" s_same_l f fd) (B : Bl mg) (n : Nat) (c1 : ∀ j, n = j + 1 → Cal P w K mg base n "_law_same" (T_same j)) : FnG P w K mg base CX0 (n + 1) f fd ["_law_found", "_law_due"] (spW K (T_same n)) := by
  refine fn_w F sc_same_l (by decide) (fun xs μ R h => ?_) fun cdv A outer s H E hr hgd xs μ R hT => ?_
  · obtain ⟨d, rfl, _⟩ := h
    rfl
  · obtain ⟨d, rfl, hf, hR⟩ := hT
    refine wb_names (N := ["_law_found", "_law_due", "_law_a", "_law_b"]) rfl fun hn => ?_
    have n0 := hn 0 _ rfl
    have n1 := hn 1 _ rfl
    have n2 := hn 2 _ rfl
    have n3 := hn 3 _ rfl
    have leaf : (d = .none ∨ (∃ b, d = .bool b) ∨ ∃ x, d = .str x) → PyData.eqv d d = true → SeqAt.shaped d = true → WB (bX P w K mg base ["_law_found", "_law_due", "_law_a", "_law_b"] "_law_same" (defScope s_same_l) f cdv A outer s H E) (defBody s_same_l) (startD ["_law_found", "_law_due", "_law_a", "_law_b"] [.d d, .d d]) μ { nx := fun _ μ' => Keep μ' (R (.d .none)), rt := fun z μ' => Keep μ' (R z) } := fun hd he hs => by
      rcases hd with rfl | ⟨y, rfl⟩ | ⟨y, rfl⟩
      all_goals
        refine wb_cons (ws_if ?_)
        refine wt_val ?_
        refine we_isLiTu B rfl rfl rfl ?_
        walk_at "e"
        refine ⟨.d _, _, rfl, ?_⟩
        refine itF rfl ?_
        refine wb_nil ?_
        refine wb_cons (ws_if ?_)
        refine wt_w (ww_or ?_)
        walk_at "t"
        walk_at "go"
        refine ow_isN ⟨_, rfl, ?_⟩
        first
          | refine itT rfl ?_
          | refine itF rfl ?_
            refine ww_or1 ?_
            refine wt_val ?_
            refine we_isBoSt B rfl rfl rfl ?_
            walk_at "e"
            refine ⟨.d _, _, rfl, ?_⟩
            refine itT rfl ?_
        refine wb_one (ws_ret ?_)
        refine we_and ?_
        walk_at "eq"
        walk_at "go"
        refine ow_eq (.d _) (.d _) hs hs ⟨_, rfl, ?_⟩
        rw [he, if_pos rfl]
        refine we_and ?_
        walk_at "eq"
        refine we_isBo B rfl rfl ?_
        walk_at "e"
        refine ⟨.d _, ?_⟩
        refine we_isBo B rfl rfl ?_
        walk_at "e"
        refine ⟨.d _, ?_⟩
        refine ow_eq (.d _) (.d _) rfl rfl ⟨_, rfl, ?_⟩
        rw [eqv_bb, if_pos rfl]
        refine we_one ?_
        walk_at "eq"
        walk_at "eq"
        walk_at "go"
        refine ow_isN ?_
        walk_at "eq"
        walk_at "go"
        refine ow_isN ?_
        refine ow_eq (.d _) (.d _) rfl rfl ?_
        rw [eqv_bb]
        exact keep hR
    have seq : ∀ ds, (d = .list ds ∨ d = .tuple ds) → fits n d = true → WB (bX P w K mg base ["_law_found", "_law_due", "_law_a", "_law_b"] "_law_same" (defScope s_same_l) f cdv A outer s H E) (defBody s_same_l) (startD ["_law_found", "_law_due", "_law_a", "_law_b"] [.d d, .d d]) μ { nx := fun _ μ' => Keep μ' (R (.d .none)), rt := fun z μ' => Keep μ' (R z) } := fun ds hd hf => by
      have hn : ∃ j, n = j + 1 ∧ ds.length ≤ 1000 ∧ ∀ x ∈ ds, fits j x = true := by
        cases n with
        | zero => rcases hd with rfl | rfl <;> simp [fits] at hf
        | succ j => rcases hd with rfl | rfl <;> simp [fits] at hf <;> exact ⟨j, rfl, hf⟩
      obtain ⟨j, hj, hlen, hall⟩ := hn
      have c2 := c1 j hj
      refine wb_cons (ws_if ?_)
      refine wt_val ?_
      refine we_isLiTu B rfl rfl rfl ?_
      walk_at "e"
      refine ⟨.d _, _, rfl, ?_⟩
      have e1 : (isLi (.d d) || isTu (.d d)) = true := by rcases hd with rfl | rfl <;> rfl
      rw [e1, if_pos rfl]
      refine wb_cons (ws_if ?_)
      refine wt_w (ww_or ?_)
      walk_at "t"
      refine we_isLi B rfl rfl ?_
      walk_at "e"
      refine ⟨.d _, ?_⟩
      refine we_isLi B rfl rfl ?_
      walk_at "e"
      refine ⟨.d _, ?_⟩
      refine ow_ne (.d _) (.d _) rfl rfl ⟨_, rfl, ?_⟩
      rw [eqv_bb, if_neg (by decide)]
      refine ww_or1 ?_
      walk_at "t"
      refine we_isTu B rfl rfl ?_
      walk_at "e"
      refine ⟨.d _, ?_⟩
      refine we_isTu B rfl rfl ?_
      walk_at "e"
      refine ⟨.d _, ?_⟩
      refine ow_ne (.d _) (.d _) rfl rfl ⟨_, rfl, ?_⟩
      rw [eqv_bb, if_neg (by decide)]
      refine wb_nil ?_
      have ct : Ct μ (.d d) ds := ct_sq hd
      refine wb_one (ws_ret ?_)
      refine we_and ?_
      walk_at "eq"
      refine we_len B rfl ?_
      walk_at "e"
      refine ⟨ds, ct, ?_⟩
      refine we_len B rfl ?_
      walk_at "e"
      refine ⟨ds, ct, ?_⟩
      refine ow_eq (.d _) (.d _) rfl rfl ⟨_, rfl, ?_⟩
      rw [eqv_ii, if_pos rfl]
      refine we_one ?_
      refine we_all B rfl rfl ?_
      refine we_lcW [("_law_a", 2), ("_law_b", 3)] rfl sc_same_l.nd (blkOk_by (N := ["_law_found", "_law_due", "_law_a", "_law_b"]) (sc := defScope s_same_l) (by decide +kernel)) (lcW (fun d => .tuple [d, d]) (fun _ => true) (fun _ => .bool true) ?_)
      refine wi_zip rfl B.zip ?_
      walk_at "go"
      refine ⟨ds, ds, ?_, ds, zip_self ds, by omega, fun x hx => ?_, fun q => ?_⟩
      · rcases hd with rfl | rfl
        · exact .inl ⟨_, _, rfl, rfl, rfl⟩
        · exact .inr ⟨_, _, rfl, rfl, rfl⟩
      · intro s1 H1 C cl fp
        refine wg_tupW (ds := [x, x]) rfl ?_
        refine wgs_cons (wg_name 2 sc_same_l.nd n2 (by walk_at "loc") (by first | exact .inl rfl | exact .inr rfl) (by decide) ?_)
        refine wgs_cons (wg_name 3 sc_same_l.nd n3 (by walk_at "loc") (by first | exact .inl rfl | exact .inr rfl) (by decide) ?_)
        refine wgs_nil ?_
        intro s1 H1 C cl fp
        refine ⟨rfl, ?_⟩
        rw [if_pos rfl]
        intro s1 H1 C cl fp
        refine we_callP c2 (by rw [hj] at hr ⊢; exact hr) rfl ?_
        walk_at "go"
        exact ⟨x, rfl, hall x hx, rfl, rfl⟩
      · rw [filt_all]
        refine ⟨ds.map fun _ => true, ?_, (fun _ z => by cases z), ?_⟩
        · have e2 : (ds.map fun _ => PyData.bool true) = blsD (ds.map fun _ => true) := by simp [blsD]
          rw [e2]
          exact .c 0 rfl
        · rw [all_true]
          exact keep_drop (keep hR)
    cases d with
    | none => exact leaf (.inl rfl) eqv_nn rfl
    | bool b => exact leaf (.inr (.inl ⟨b, rfl⟩)) (eqv_bb b) rfl
    | str x => exact leaf (.inr (.inr ⟨x, rfl⟩)) (eqv_ss x) (by unfold fits at hf; exact hf)
    | dict kvs => simp [fits] at hf
    | list ds => exact seq ds (.inl rfl) hf
    | tuple ds => exact seq ds (.inr rfl) hf
    | int i =>
      refine wb_cons (ws_if ?_)
      refine wt_val ?_
      refine we_isLiTu B rfl rfl rfl ?_
      walk_at "e"
      refine ⟨.d _, _, rfl, ?_⟩
      refine itF rfl ?_
      refine wb_nil ?_
      refine wb_cons (ws_if ?_)
      refine wt_w (ww_or ?_)
      walk_at "t"
      walk_at "go"
      refine ow_isN ⟨_, rfl, ?_⟩
      refine itF rfl ?_
      refine ww_or1 ?_
      refine wt_val ?_
      refine we_isBoSt B rfl rfl rfl ?_
      walk_at "e"
      refine ⟨.d _, _, rfl, ?_⟩
      refine itF rfl ?_
      refine wb_nil ?_
      refine wb_one (ws_ret ?_)
      refine we_and ?_
      refine we_isIn B rfl rfl ?_
      walk_at "e"
      refine ⟨.d _, _, rfl, ?_⟩
      refine itT rfl ?_
      refine we_and ?_
      refine we_not ?_
      refine we_isBo B rfl rfl ?_
      walk_at "e"
      refine ⟨.d _, _, rfl, _, rfl, ?_⟩
      refine itT rfl ?_
      refine we_one ?_
      walk_at "eq"
      walk_at "go"
      refine ow_eq (.d _) (.d _) rfl rfl ?_
      rw [eqv_ii]
      exact keep hR
theorem ok_same_l {f : Addr} {fd : FuncData} (F : Fun K "_law_same" "_law_same" s_same_l f fd) (B : Bl mg) (g : mg "_law_same" = some (.ref f)) (b : Binds K fd ["_law_found", "_law_due"] []) : ∀ n, FnG P w K mg base CX0 (n + 1) f fd ["_law_found", "_law_due"] (spW K (T_same n))
  | 0 => ok_same_s F B 0 fun j e => by cases e
  | n + 1 => ok_same_s F B (n + 1) fun j e => by
    cases e
    exact cal_of (ok_same_l F B g b n) g F.kp b
theorem ok_crowd_of_l {f : Addr} {fd : FuncData} (F : Fun K "_law_crowd_of" "_law_crowd_of" s_crowd_of_l f fd) (B : Bl mg) (c1 : Cal P w K mg base 1 "_law_take" T_take) : FnG P w K mg base CX0 2 f fd ["_law_box_here", "_law_count"] (spW K T_crowd_of) := by
  refine fn_w F sc_crowd_of_l (by decide) (fun xs μ R h => ?_) fun cdv A outer s H E hr hgd xs μ R hT => ?_
  · obtain ⟨b, ds, n, m, rfl, _⟩ := h
    rfl
  · obtain ⟨b, ds, n, m, rfl, rfl, hb, hn40, hm, hR⟩ := hT
    refine wb_names (N := ["_law_box_here", "_law_count", "_law_found", "_law_dense", "_law_soul", "_law_pals", "_law_kind", "_law_due", "_law_its"]) rfl fun hn => ?_
    have n0 := hn 0 _ rfl
    have n1 := hn 1 _ rfl
    have n2 := hn 2 _ rfl
    have n3 := hn 3 _ rfl
    have n4 := hn 4 _ rfl
    have n5 := hn 5 _ rfl
    have n6 := hn 6 _ rfl
    have n7 := hn 7 _ rfl
    have n8 := hn 8 _ rfl
    refine wb_cons ?_
    refine ws_tups [2, 3] rfl ?_
    refine wa_cons (we_lst (wa_nil ⟨[], rfl, by decide, fun p1 => ?_⟩))
    refine wa_cons ?_
    walk_at "go"
    refine we_callB 1 c1 hr rfl ?_
    walk_at "go"
    refine ⟨b, ds, rfl, b, ds, 4, m, rfl, rfl, hb, by decide, by decide, by omega, fun r1 ds1 _ hr1 hb1 => ⟨[], ds1, rfl, ?_⟩⟩
    walk_at "go"
    refine ⟨rfl, by decide, ?_⟩
    refine wgs_cons (wg_name 2 sc_crowd_of_l.nd n2 (by walk_at "loc") (by first | exact .inl rfl | exact .inr rfl) (by decide) ?_)
    refine wgs_cons (wg_name 3 sc_crowd_of_l.nd n3 (by walk_at "loc") (by first | exact .inl rfl | exact .inr rfl) (by decide) ?_)
    refine wgs_nil ?_
    refine wb_cons ?_
    refine ws_for [4] PassesOwn.never rfl ?_
    refine wi_range1 rfl B.range ?_
    refine wa_one ?_
    walk_at "e"
    refine ⟨(n : Int), rfl, by omega, by omega, ?_⟩
    rw [Int.toNat_natCast, rangeD_eq]
    refine ⟨fun i δ' μ' => ∃ c ds' m' x4 x5 x6 x7, δ' = [some (.a b), some (.d (.int (n : Int))), some (.a p1), some (.d (.int (1 + r1))), x4, x5, x6, x7, none] ∧ μ' = ([(p1, c.map enD), (b, Cont.l ds')] : Cells) ∧ c.length = i ∧ CoP n c ∧ BoxOk m' ds' ∧ m' ≤ m + 1 + 43 * i,
      ⟨[], ds1, m + 1, none, none, none, none, rfl, rfl, rfl, fun j e h => by simp at h, hb1, by omega⟩, fun i d δ' μ' hd hI => ?_, fun δ' μ' hI => ?_⟩
    · obtain ⟨c, ds', m', x4, x5, x6, x7, rfl, rfl, hc, hP, hb', hm'⟩ := hI
      have hi : i < n := by
        have := (List.getElem?_eq_some_iff.mp hd).1
        rw [List.length_map, rng_len] at this
        exact this
      have hd' : d = .int (i : Int) := by
        unfold intsD rng at hd
        rw [List.getElem?_map, List.getElem?_map, List.getElem?_range hi] at hd
        cases hd
        rfl
      subst hd'
      refine wg_name 4 sc_crowd_of_l.nd n4 (by walk_at "loc") (by first | exact .inl rfl | exact .inr rfl) (by decide) ?_
      refine wb_cons ?_
      refine ws_setLc 5 [("_law_its", 8)] rfl sc_crowd_of_l.nd n5 rfl (sw_true rfl rfl rfl (by decide +kernel)) (blkOk_by (N := ["_law_box_here", "_law_count", "_law_found", "_law_dense", "_law_soul", "_law_pals", "_law_kind", "_law_due", "_law_its"]) (sc := defScope s_crowd_of_l) (by decide +kernel)) ?_
      refine wi_range1 rfl B.range ?_
      refine wa_one ?_
      walk_at "e"
      refine ⟨(n : Int), rfl, by omega, by omega, ?_⟩
      rw [Int.toNat_natCast, rangeD_eq]
      refine ⟨fun j acc μ' => ∃ ns ds2 m2, acc = intsD ns ∧ ns.Sublist ((rng n).take j) ∧ (i : Int) ∉ ns ∧ μ' = ([(p1, c.map enD), (b, Cont.l ds2)] : Cells) ∧ BoxOk m2 ds2 ∧ m2 ≤ m' + j,
        ⟨[], ds', m', rfl, List.nil_sublist _, by simp, rfl, hb', by omega⟩, by rw [List.length_map, rng_len]; omega, fun j acc μ' hI => ?_, fun j d acc μ' hd hI => ?_, fun acc μ' hI p => ?_⟩
      · obtain ⟨ns, ds2, m2, rfl, hs, _⟩ := hI
        rw [List.length_map]
        refine Nat.le_trans hs.length_le ?_
        rw [List.length_take]
        exact Nat.min_le_left _ _
      · obtain ⟨ns, ds2, m2, rfl, hs, hni, rfl, hb2, hm2⟩ := hI
        have hj : j < n := by
          have := (List.getElem?_eq_some_iff.mp hd).1
          rw [List.length_map, rng_len] at this
          exact this
        have hd' : d = .int (j : Int) := by
          unfold intsD rng at hd
          rw [List.getElem?_map, List.getElem?_map, List.getElem?_range hj] at hd
          cases hd
          rfl
        subst hd'
        have keep0 : ns.Sublist ((rng n).take (j + 1)) := by
          rw [rng_take_succ hj]
          exact hs.trans (List.sublist_append_left _ _)
        intro s1 H1 C cl fp
        refine wg_name 8 sc_crowd_of_l.nd n8 (by walk_at "loc") (by first | exact .inl rfl | exact .inr rfl) (by decide) ?_
        intro s1 H1 C cl fp
        show WT _ _ _ _ _
        walk_at "t"
        walk_at "t"
        walk_at "go"
        refine ow_ne (.d _) (.d _) rfl rfl ⟨_, rfl, ?_⟩
        split
        · rename_i hne
          have hji : j ≠ i := fun z => by
            subst z
            simp [PyData.eqv] at hne
          refine ww_and1 ?_
          walk_at "t"
          refine we_callB 1 c1 hr rfl ?_
          walk_at "go"
          refine ⟨b, ds2, rfl, b, ds2, 5, m2, rfl, rfl, hb2, by decide, by decide, by omega, fun r2 ds3 _ hr2 hb3 => ⟨[], ds3, rfl, ?_⟩⟩
          walk_at "go"
          refine ⟨_, rfl, ?_⟩
          split
          · intro s1 H1 C cl fp
            walk_at "e"
            refine ⟨_, rfl, ns ++ [(j : Int)], ds3, m2 + 1, by simp [intsD], ?_, ?_, rfl, hb3, by omega⟩
            · rw [rng_take_succ hj]
              exact hs.append (List.Sublist.refl _)
            · simp only [List.mem_append, List.mem_singleton, not_or]
              exact ⟨hni, by omega⟩
          · exact ⟨ns, ds3, m2 + 1, rfl, keep0, hni, rfl, hb3, by omega⟩
        · rw [if_neg (by decide)]
          exact ⟨ns, ds2, m2, rfl, keep0, hni, rfl, hb2, by omega⟩
      · obtain ⟨ns, ds2, m2, rfl, hs, hni, rfl, hb2, hm2⟩ := hI
        rw [List.length_map, rng_len] at hs hm2
        have hsn : ns.Sublist (rng n) := by
          have e : (rng n).take n = rng n := List.take_of_length_le (by rw [rng_len]; exact Nat.le_refl _)
          rw [e] at hs
          exact hs
        have hnl := (sub_rng hsn).2.2
        refine wb_cons ?_
        refine ws_set 6 sc_crowd_of_l.nd n6 (by walk_at "loc") (by first | exact .inl rfl | exact .inr rfl) ?_
        refine we_callB 2 c1 hr rfl ?_
        walk_at "go"
        refine ⟨b, ds2, rfl, b, ds2, 6, m2, rfl, rfl, hb2, by decide, by decide, by omega, fun r2 ds3 hr0 hr2 hb3 => ⟨[], ds3, rfl, ?_⟩⟩
        refine wb_cons ?_
        refine ws_set 7 sc_crowd_of_l.nd n7 (by walk_at "loc") (by first | exact .inl rfl | exact .inr rfl) (WE.mono (Q := fun v μ1 => ∃ (due : Int) (ds4 : List PyData), v = .d (.int due) ∧ (0 ≤ due ∧ due ≤ 1000) ∧ BoxOk (m2 + 2) ds4 ∧ μ1 = ([(p, intsD ns), (p1, c.map enD), (b, Cont.l ds4)] : Cells)) ?_ ?_)
        · refine we_if ?_
          walk_at "t"
          walk_at "go"
          refine ow_eq (.d _) (.d _) rfl rfl ⟨_, rfl, ?_⟩
          split
          · walk_at "go"
            exact ⟨0, ds3, rfl, ⟨Int.le_refl 0, by decide⟩, hb3.mono (by omega), rfl⟩
          · refine we_if ?_
            walk_at "t"
            walk_at "go"
            refine ⟨_, rfl, ?_⟩
            split
            · refine we_min2 B rfl rfl ?_
              refine we_len B rfl ?_
              walk_at "e"
              refine ⟨_, .c 0 rfl, ?_⟩
              walk_at "go"
              refine we_callB 2 c1 hr rfl ?_
              walk_at "go"
              refine ⟨b, ds3, rfl, b, ds3, 3, m2 + 1, rfl, rfl, hb3, by decide, by decide, by omega, fun r4 ds4 h40 h41 hb4 => ⟨[], ds4, rfl, ?_⟩⟩
              walk_at "go"
              refine ⟨_, _, rfl, rfl, _, ds4, rfl, ?_, hb4, rfl⟩
              rw [List.length_map]
              split <;> constructor <;> omega
            · refine we_callB 2 c1 hr rfl ?_
              walk_at "go"
              refine we_len B rfl ?_
              walk_at "e"
              refine ⟨_, .c 0 rfl, ?_⟩
              walk_at "go"
              refine ⟨b, ds3, rfl, b, ds3, _, m2 + 1, rfl, rfl, hb3, by omega, by rw [List.length_map]; omega, by omega, fun r4 ds4 h40 h41 hb4 => ⟨[], ds4, rfl, _, ds4, rfl, ⟨h40, by rw [List.length_map] at h41; omega⟩, hb4, rfl⟩⟩
        · rintro v μ1 ⟨due, ds4, rfl, hdue, hb4, rfl⟩
          refine wb_cons (ws_expr ?_)
          refine we_append ?_
          walk_at "e"
          refine ⟨p1, _, ⟨1, rfl⟩, rfl, ?_⟩
          refine we_tup ?_
          refine wa_cons (we_tuple B rfl ?_)
          walk_at "e"
          refine ⟨_, .c 0 rfl, ?_⟩
          walk_at "go"
          refine ⟨_, rfl, (by show 2 ≤ 100000; decide), _, _, 1, rfl, rfl, by rw [List.length_map]; omega, ?_⟩
          refine wb_nilK (keep_drop (keep ⟨c ++ [(ns, due)], ds4, m2 + 2, some (.d (.int (i : Int))), some (.a p), some (.d (.int r2)), some (.d (.int due)), rfl, ?_, by rw [List.length_append, hc]; rfl, hP.add hsn (by rw [hc]; exact hni) hdue.1 hdue.2, hb4, by omega⟩))
          rw [List.map_append]
          rfl
    · obtain ⟨c, ds', m', x4, x5, x6, x7, rfl, rfl, hc, hP, hb', hm'⟩ := hI
      rw [List.length_map, rng_len] at hc hm'
      refine wb_one (ws_ret (we_tuple B rfl ?_))
      walk_at "e"
      refine ⟨_, .c 0 rfl, ?_⟩
      refine keep_drop (keep ?_)
      subst hc
      exact hR c ds' rfl hP.whole (hb'.mono (by omega))
theorem ok_crowd_l {f : Addr} {fd : FuncData} (F : Fun K "_law_crowd" "_law_crowd" s_crowd_l f fd) (B : Bl mg) (c1 : Cal P w K mg base 1 "_law_take" T_take) (c2 : Cal P w K mg base 2 "_law_crowd_of" T_crowd_of) : FnG P w K mg base CX0 3 f fd ["_law_box_here", "_law_most"] (spW K T_crowd) := by
  refine fn_w F sc_crowd_l (by decide) (fun xs μ R h => ?_) fun cdv A outer s H E hr hgd xs μ R hT => ?_
  · obtain ⟨b, ds, n, m, rfl, _⟩ := h
    rfl
  · obtain ⟨b, ds, n, m, rfl, rfl, hb, hn40, hm, hR⟩ := hT
    refine wb_names (N := ["_law_box_here", "_law_most"]) rfl fun hn => ?_
    have n0 := hn 0 _ rfl
    have n1 := hn 1 _ rfl
    refine wb_one (ws_ret ?_)
    refine we_callB 0 c2 (by walk_at "room") rfl ?_
    refine wa_cons ?_
    walk_at "e"
    refine wa_one ?_
    refine we_callB 0 c1 (by walk_at "room") rfl ?_
    walk_at "go"
    refine ⟨b, ds, rfl, b, ds, _, m, rfl, rfl, hb, by omega, by omega, by omega, fun r1 ds1 h0 hr1 hb1 => ⟨[], ds1, rfl, ?_⟩⟩
    refine ⟨b, ds1, rfl, b, ds1, r1.toNat, m + 1, by rw [Int.toNat_of_nonneg h0], rfl, hb1, by omega, by omega, fun c ds2 hl hw hb2 => ⟨[], ds2, rfl, ?_⟩⟩
    exact keep (hR c ds2 (by omega) hw (hb2.mono (by omega)))
theorem ok_seen_of_l {f : Addr} {fd : FuncData} (F : Fun K "_law_seen_of" "_law_seen_of" s_seen_of_l f fd) (B : Bl mg) (m_company : CalM P w K mg base 1 c_Gathering "company" (T_comp c_Gathering)) (ocl : L2.Cls K c_Gathering) (m_came : CalM P w K mg base 1 c_Gathering "came" (T_came c_Gathering)) (m_waiting : CalM P w K mg base 2 c_Gathering "waiting" (T_waiting c_Gathering)) (m_next_people : CalM P w K mg base 4 c_Gathering "next_people" (T_mnext c_Gathering)) (m_will_never : CalM P w K mg base 6 c_Gathering "will_never" (T_wnever c_Gathering)) (m_operations : CalM P w K mg base 1 c_Gathering "operations" (T_opers c_Gathering)) (m_len : CalM P w K mg base 2 c_Gathering "__len__" (T_hlen c_Gathering)) (m_repr : CalM P w K mg base 4 c_Gathering "__repr__" (T_hrepr c_Gathering)) : FnG P w K mg base CX0 7 f fd ["_law_hall"] (spW K (T_seen c_Gathering)) := by
  refine fn_w F sc_seen_of_l (by decide) (fun xs μ R h => ?_) fun cdv A outer s H E hr hgd xs μ R hT => ?_
  · obtain ⟨p, a, l, S, c, r, L, rfl, _⟩ := h
    rfl
  · obtain ⟨p, a, l, S, c, r, L, rfl, rfl, hc, hlr, hR⟩ := hT
    refine wb_names (N := ["_law_hall", "_law_found"]) rfl fun hn => ?_
    have n0 := hn 0 _ rfl
    have n1 := hn 1 _ rfl
    have hnl := nexts_le9 c r
    have hwl : (wtg c r).length ≤ 64 := Nat.le_trans (List.length_filter_le _ _) (by rw [rng_len]; omega)
    refine wb_cons ?_
    refine ws_set 1 sc_seen_of_l.nd n1 (by walk_at "loc") (by first | exact .inl rfl | exact .inr rfl) ?_
    refine we_fz ?_
    refine we_lst ?_
    refine wa_cons ?_
    refine we_clS [0, 0, 0] (wc_mt0 m_company ocl (by walk_at "room") ?_)
    walk_at "e"
    refine ⟨p, ⟨rfl, _, List.mem_of_getElem? (i := 0) rfl, hall_no (by decide +kernel) (by decide +kernel)⟩, ?_⟩
    refine ⟨_, _, ⟨_, _, rfl, rfl, _, _, rfl, rfl, _, _, rfl, rfl, rfl, rfl⟩, ?_⟩
    refine ⟨p, a, l, S, c, r, L, rfl, rfl, ?_⟩
    refine wa_cons ?_
    refine we_clS [0, 0, 0] (wc_mt0 m_came ocl (by walk_at "room") ?_)
    walk_at "e"
    refine ⟨p, ⟨rfl, _, List.mem_of_getElem? (i := 0) rfl, hall_no (by decide +kernel) (by decide +kernel)⟩, ?_⟩
    refine ⟨_, _, ⟨_, _, rfl, rfl, _, _, rfl, rfl, _, _, rfl, rfl, rfl, rfl⟩, ?_⟩
    refine ⟨p, a, l, S, c, r, L, rfl, rfl, ?_⟩
    refine wa_cons ?_
    refine we_fz ?_
    refine we_clS [0, 0, 0] (wc_mt0 m_waiting ocl (by walk_at "room") ?_)
    walk_at "e"
    refine ⟨p, ⟨rfl, _, List.mem_of_getElem? (i := 0) rfl, hall_no (by decide +kernel) (by decide +kernel)⟩, ?_⟩
    refine ⟨_, _, ⟨_, _, rfl, rfl, _, _, rfl, rfl, _, _, rfl, rfl, rfl, rfl⟩, ?_⟩
    refine ⟨p, a, l, S, c, r, L, rfl, rfl, by walk_at "so", by walk_at "len", by walk_at "len", fun p1 => ⟨p1, _, _, rfl, rfl, by walk_at "pl", ?_⟩⟩
    refine wa_cons ?_
    refine we_fz ?_
    refine we_clS [0, 0, 0] (wc_mt0 m_next_people ocl (by walk_at "room") ?_)
    walk_at "e"
    refine ⟨p, ⟨rfl, _, List.mem_of_getElem? (i := 0) rfl, hall_no (by decide +kernel) (by decide +kernel)⟩, ?_⟩
    refine ⟨_, _, ⟨_, _, rfl, rfl, _, _, rfl, rfl, _, _, rfl, rfl, rfl, rfl⟩, ?_⟩
    refine ⟨p, a, l, S, c, r, L, rfl, rfl, by walk_at "so", fun p2 => ⟨p2, _, _, rfl, rfl, by walk_at "pl", ?_⟩⟩
    refine wa_cons ?_
    refine we_clS [0, 0, 0] (wc_mt0 m_will_never ocl (by walk_at "room") ?_)
    walk_at "e"
    refine ⟨p, ⟨rfl, _, List.mem_of_getElem? (i := 0) rfl, hall_no (by decide +kernel) (by decide +kernel)⟩, ?_⟩
    refine ⟨_, _, ⟨_, _, rfl, rfl, _, _, rfl, rfl, _, _, rfl, rfl, rfl, rfl⟩, ?_⟩
    refine ⟨p, a, l, S, c, r, L, rfl, rfl, by walk_at "so", by walk_at "len", ?_⟩
    refine wa_one ?_
    refine we_clS [0, 0, 0] (wc_mt0 m_operations ocl (by walk_at "room") ?_)
    walk_at "e"
    refine ⟨p, ⟨rfl, _, List.mem_of_getElem? (i := 0) rfl, hall_no (by decide +kernel) (by decide +kernel)⟩, ?_⟩
    refine ⟨_, _, ⟨_, _, rfl, rfl, _, _, rfl, rfl, _, _, rfl, rfl, rfl, rfl⟩, ?_⟩
    refine ⟨p, a, l, S, (c, r), L, rfl, rfl, ?_⟩
    refine ⟨[(coD c), (.tuple (intsD r)), (.list (intsD (wtg c r))), (.list (intsD (nexts c r))), (.tuple (intsD (wnv c r))), (.int ((S.length : Nat) : Int))], rfl, by simp, fun p3 => ⟨p3, _, _, rfl, rfl, by walk_at "pl", ?_⟩⟩
    refine wb_one (ws_ret ?_)
    walk_at "e"
    walk_at "e"
    refine we_fz ?_
    refine we_lst ?_
    refine wa_cons ?_
    refine we_lenO [0, 0, 0] m_len B (by walk_at "room") rfl ?_
    walk_at "e"
    refine ⟨p, _, _, _, rfl, List.mem_of_getElem? (i := 0) rfl, ⟨_, _, rfl, rfl, _, _, rfl, rfl, _, _, rfl, rfl, rfl, rfl⟩, p, a, l, S, c, r, L, rfl, rfl, _, rfl, ⟨by omega, by walk_at "len"⟩, ?_⟩
    refine wa_one ?_
    refine we_reprO [0, 0, 0] m_repr B (by walk_at "room") rfl ?_
    walk_at "e"
    refine ⟨p, _, _, _, rfl, List.mem_of_getElem? (i := 0) rfl, ⟨_, _, rfl, rfl, _, _, rfl, rfl, _, _, rfl, rfl, rfl, rfl⟩, p, a, l, S, c, r, L, rfl, rfl, by walk_at "len", by walk_at "len", _, rfl, ?_⟩
    refine ⟨[(.int ((r.length : Nat) : Int)), (.str (hallT r.length c.length))], rfl, by simp, fun p4 => ⟨p4, _, _, rfl, rfl, by walk_at "pl", ?_⟩⟩
    refine ow_catL (by simp) ?_
    refine fun p5 => ?_
    exact keep (hR _)
theorem ok_led_l {f : Addr} {fd : FuncData} (F : Fun K "_law_led" "_law_led" s_led_l f fd) (B : Bl mg) (c_law_take : Cal P w K mg base 1 "_law_take" T_take) (m_next_people : CalM P w K mg base 4 c_Gathering "next_people" (T_mnext c_Gathering)) (ocl : L2.Cls K c_Gathering) (m_company : CalM P w K mg base 1 c_Gathering "company" (T_comp c_Gathering)) (c_law_of : Cal P w K mg base 2 "_law_of" T_of) (m_come : CalMX P w K mg base 5 c_Gathering "come" (T_come c_Gathering c_NoPerson c_Here c_Early)) (m_come_all : CalMX P w K mg base 5 c_Gathering "come_all" (T_call c_Gathering c_NoPerson c_Here c_Early)) (m_meet : CalM P w K mg base 5 c_Gathering "meet" (T_meet c_Gathering)) (m_add_person : CalMX P w K mg base 4 c_Gathering "add_person" (T_addp c_Gathering c_NoPerson c_Full)) (m_waiting : CalM P w K mg base 2 c_Gathering "waiting" (T_waiting c_Gathering)) (m_set_need : CalMX P w K mg base 5 c_Gathering "set_need" (T_setn c_Gathering c_NoPerson c_Here)) : FnG P w K mg base CX0 7 f fd ["_law_box_here", "_law_hall"] (spW K (T_led42 c_Gathering)) := by
  refine fn_w F sc_led_l (by decide) (fun xs μ R h => ?_) fun cdv A outer s H E hr hgd xs μ R hT => ?_
  · obtain ⟨b, bs, m, p, a, l, S, c, r, L, rfl, _⟩ := h
    rfl
  · obtain ⟨b, bs, m, p, a, l, S, c, r, L, rfl, rfl, hb, g, hl, hS, hL, hm, hR⟩ := hT
    refine wb_names (N := ["_law_box_here", "_law_hall", "_law_sort", "_law_ready", "_law_size", "_law_soul"]) rfl fun hn => ?_
    have n0 := hn 0 _ rfl
    have n1 := hn 1 _ rfl
    have n2 := hn 2 _ rfl
    have n3 := hn 3 _ rfl
    have n4 := hn 4 _ rfl
    have n5 := hn 5 _ rfl
    have hco := g.co
    have hrl := g.p.len
    have hnl := nexts_le9 c r
    have hwl := wtg_few c r
    have hla0 : (latA c r []).1 = 0 := rfl
    refine wb_cons ?_
    refine ws_par3 2 3 4 rfl sc_led_l.nd n2 n3 n4 (by decide) (by decide) (by decide) rfl rfl rfl ?_ (by rfl)
    refine wa_cons ?_
    refine we_callB 0 c_law_take (by walk_at "room") rfl ?_
    refine wa_cons ?_
    walk_at "e"
    refine wa_one ?_
    walk_at "e"
    refine ⟨b, bs, rfl, b, bs, 9, _, rfl, rfl, hb, by omega, by omega, by omega, fun s bs1 sa sb hb1 => ⟨[], bs1, rfl, ?_⟩⟩
    refine wa_cons ?_
    refine we_fz ?_
    refine we_clS [1, 1, 1] (wc_mt0 m_next_people ocl (by walk_at "room") ?_)
    walk_at "e"
    refine ⟨p, ⟨rfl, _, List.mem_of_getElem? (i := 1) rfl, hall_no (by decide +kernel) (by decide +kernel)⟩, ?_⟩
    refine ⟨_, _, ⟨_, _, rfl, rfl, _, _, rfl, rfl, _, _, rfl, rfl, rfl, rfl⟩, ?_⟩
    refine ⟨p, a, l, S, c, r, L, rfl, rfl, hco, fun p1 => ⟨p1, _, _, rfl, rfl, by walk_at "pl", ?_⟩⟩
    refine wa_one ?_
    refine we_len B rfl ?_
    refine we_clS [0, 0, 0] (wc_mt0 m_company ocl (by walk_at "room") ?_)
    walk_at "e"
    refine ⟨p, ⟨rfl, _, List.mem_of_getElem? (i := 0) rfl, hall_no (by decide +kernel) (by decide +kernel)⟩, ?_⟩
    refine ⟨_, _, ⟨_, _, rfl, rfl, _, _, rfl, rfl, _, _, rfl, rfl, rfl, rfl⟩, ?_⟩
    refine ⟨p, a, l, S, c, r, L, rfl, rfl, ?_⟩
    refine ⟨_, (.t _), ?_⟩
    rw [List.length_map]
    refine ⟨_, _, _, rfl, ?_⟩
    by_cases h1 : s < 3 ∧ nexts c r ≠ []
    · skip
      refine wb_cons (ws_if ?_)
      refine wt_w ?_
      refine ww_and ?_
      refine wt_cmp (op := .Lt) op_lt (nomark _) ?_
      walk_at "e"
      walk_at "e"
      refine ow_cmp ⟨_, rfl, ?_⟩
      refine itT (decide_eq_true h1.1) ?_
      refine ww_and1 ?_
      refine wt_cmp (op := .NotEq) (op_neD (Room.units (k := 0) (by with_unfolding_all exact Room.mono (by assumption) (Nat.zero_le _)))) (nomark _) ?_
      walk_at "e"
      refine we_fz ?_
      refine we_lst ?_
      refine wa_nil ?_
      refine ⟨[], rfl, by simp, fun p2 => ⟨p2, _, _, rfl, rfl, by walk_at "pl", ?_⟩⟩
      refine ow_ne (.d _) (.d _) (shaped_lst _) (shaped_lst []) ⟨_, rfl, ?_⟩
      rw [show PyData.eqv (.list (intsD (nexts c r))) (.list []) = decide ((nexts c r) = []) from eqv_lst (nexts c r) ([])]
      refine itT (by rw [decide_eq_false h1.2]; rfl) ?_
      refine wb_cons (ws_expr ?_)
      refine we_x0 ?_
      refine wex_clS [0, 0, 0] (wcx_mt m_come takes0 ocl (by walk_at "room") ?_)
      walk_at "e"
      refine ⟨p, ⟨rfl, _, List.mem_of_getElem? (i := 0) rfl, hall_no (by decide +kernel) (by decide +kernel)⟩, ?_⟩
      refine wa_one ?_
      refine we_callB 3 c_law_of (by walk_at "room") rfl ?_
      refine wa_cons ?_
      walk_at "e"
      refine wa_one ?_
      walk_at "e"
      refine ⟨b, bs1, rfl, b, bs1, _, _, rfl, rfl, hb1, fun z => h1.2 (List.map_eq_nil_iff.mp z), by rw [List.length_map]; omega, by omega, fun dd hdd bs2 hb2 => ⟨[], bs2, rfl, ?_⟩⟩
      obtain ⟨q, hq, rfl⟩ := List.mem_map.mp hdd
      obtain ⟨⟨hq0, hq1⟩, hq2, hq3⟩ := nexts_mem9 hq
      have hlat : lat c r q = 0 := lat_next ⟨⟨hq0, hq1⟩, hq2, hq3⟩
      refine ⟨_, _, ⟨_, _, rfl, rfl, _, _, rfl, rfl, _, _, rfl, rfl, rfl, rfl⟩, ?_⟩
      refine ⟨p, a, l, S, c, r, L, q, rfl, rfl, hco, by walk_at "len", by walk_at "len", log42 hq0 (by omega), by walk_at "len", by walk_at "len", fun zx1 => ?_, fun z => absurd (hlat.symm.trans z) (by decide), fun z => absurd (hlat.symm.trans z) (by decide), fun z => absurd (hlat.symm.trans z) (by decide)⟩
      clear zx1
      refine wb_ord [3, 0, 0, 0] ⟨_, _, rfl, rfl, _, _, rfl, rfl, _, _, rfl, rfl, _, _, rfl, rfl, rfl, rfl⟩ ?_
      refine wb_one (ws_ret ?_)
      walk_at "e"
      exact keep (hR c (r ++ [q]) _ _ (g.come hlat) (hl) (by unfold Wd42; decide) (hb2.mono (by omega)))
    · skip
      refine wb_cons (ws_if ?_)
      refine wt_ia false ?_ ?_
      · skip
        by_cases h1a : s < 3
        · skip
          refine wt_w ?_
          refine ww_and ?_
          refine wt_cmp (op := .Lt) op_lt (nomark _) ?_
          walk_at "e"
          walk_at "e"
          refine ow_cmp ⟨_, rfl, ?_⟩
          refine itT (decide_eq_true h1a) ?_
          refine ww_and1 ?_
          refine wt_cmp (op := .NotEq) (op_neD (Room.units (k := 0) (by with_unfolding_all exact Room.mono (by assumption) (Nat.zero_le _)))) (nomark _) ?_
          walk_at "e"
          refine we_fz ?_
          refine we_lst ?_
          refine wa_nil ?_
          refine ⟨[], rfl, by simp, fun p2 => ⟨p2, _, _, rfl, rfl, by walk_at "pl", ?_⟩⟩
          refine ow_ne (.d _) (.d _) (shaped_lst _) (shaped_lst []) ⟨_, rfl, ?_⟩
          rw [show PyData.eqv (.list (intsD (nexts c r))) (.list []) = decide ((nexts c r) = []) from eqv_lst (nexts c r) ([])]
          refine itF (by rw [decide_eq_true (show nexts c r = [] from Classical.byContradiction fun z => h1 ⟨h1a, z⟩)]; rfl) ?_
          first | exact ⟨rfl, rfl⟩ | (refine itT rfl ?_; exact ⟨rfl, rfl⟩) | (refine itF rfl ?_; exact ⟨rfl, rfl⟩)
        · skip
          refine wt_w ?_
          refine ww_and ?_
          refine wt_cmp (op := .Lt) op_lt (nomark _) ?_
          walk_at "e"
          walk_at "e"
          refine ow_cmp ⟨_, rfl, ?_⟩
          refine itF (decide_eq_false h1a) ?_
          first | exact ⟨rfl, rfl⟩ | (refine itT rfl ?_; exact ⟨rfl, rfl⟩) | (refine itF rfl ?_; exact ⟨rfl, rfl⟩)
      refine itF rfl ?_
      refine wb_nil ?_
      by_cases h2 : s = 3 ∧ nexts c r ≠ []
      · skip
        refine wb_cons (ws_if ?_)
        refine wt_w ?_
        refine ww_and ?_
        refine wt_cmp (op := .Eq) (op_eqD (Room.units (k := 0) (by with_unfolding_all exact Room.mono (by assumption) (Nat.zero_le _)))) (nomark _) ?_
        walk_at "e"
        walk_at "e"
        refine ow_eq (.d _) (.d _) rfl rfl ⟨_, rfl, ?_⟩
        rw [eqv_dint]
        refine itT (decide_eq_true h2.1) ?_
        refine ww_and1 ?_
        refine wt_cmp (op := .NotEq) (op_neD (Room.units (k := 0) (by with_unfolding_all exact Room.mono (by assumption) (Nat.zero_le _)))) (nomark _) ?_
        walk_at "e"
        refine we_fz ?_
        refine we_lst ?_
        refine wa_nil ?_
        refine ⟨[], rfl, by simp, fun p3 => ⟨p3, _, _, rfl, rfl, by walk_at "pl", ?_⟩⟩
        refine ow_ne (.d _) (.d _) (shaped_lst _) (shaped_lst []) ⟨_, rfl, ?_⟩
        rw [show PyData.eqv (.list (intsD (nexts c r))) (.list []) = decide ((nexts c r) = []) from eqv_lst (nexts c r) ([])]
        refine itT (by rw [decide_eq_false h2.2]; rfl) ?_
        refine wb_cons (ws_expr ?_)
        refine we_x0 ?_
        refine wex_clS [0, 0, 0] (wcx_mt m_come_all takes0 ocl (by walk_at "room") ?_)
        walk_at "e"
        refine ⟨p, ⟨rfl, _, List.mem_of_getElem? (i := 0) rfl, hall_no (by decide +kernel) (by decide +kernel)⟩, ?_⟩
        refine wa_one ?_
        refine we_fz ?_
        refine we_revK ?_
        walk_at "e"
        refine ⟨_, rfl, ?_⟩
        refine fun p4 => ⟨p4, _, _, rfl, rfl, by rw [rev_ints]; walk_at "pl", ?_⟩
        rw [rev_ints]
        refine ⟨_, _, ⟨_, _, rfl, rfl, _, _, rfl, rfl, _, _, rfl, rfl, rfl, rfl⟩, ?_⟩
        refine ⟨p, a, l, S, c, r, L, _, (nexts c r).reverse, rfl, rfl, .inl rfl, hco, by walk_at "len", by walk_at "len", (fun x m => log42 (nexts_mem9 (List.mem_reverse.mp m)).1.1 (by have := (nexts_mem9 (List.mem_reverse.mp m)).1.2; omega)), by walk_at "len", by walk_at "len", fun zx1 => ?_, fun z => absurd (rev_next.symm.trans z) (by decide), fun z => absurd (rev_next.symm.trans z) (by decide), fun z => absurd (rev_next.symm.trans z) (by decide)⟩
        clear zx1
        refine wb_ord [3, 0, 0, 0] ⟨_, _, rfl, rfl, _, _, rfl, rfl, _, _, rfl, rfl, _, _, rfl, rfl, rfl, rfl⟩ ?_
        refine wb_one (ws_ret ?_)
        walk_at "e"
        exact keep (hR c (r ++ (nexts c r).reverse) _ _ (g.call rev_next) (hl) (by unfold Wd42; decide) (hb1.mono (by omega)))
      · skip
        refine wb_cons (ws_if ?_)
        refine wt_ia false ?_ ?_
        · skip
          by_cases h2a : s = 3
          · skip
            refine wt_w ?_
            refine ww_and ?_
            refine wt_cmp (op := .Eq) (op_eqD (Room.units (k := 0) (by with_unfolding_all exact Room.mono (by assumption) (Nat.zero_le _)))) (nomark _) ?_
            walk_at "e"
            walk_at "e"
            refine ow_eq (.d _) (.d _) rfl rfl ⟨_, rfl, ?_⟩
            rw [eqv_dint]
            refine itT (decide_eq_true h2a) ?_
            refine ww_and1 ?_
            refine wt_cmp (op := .NotEq) (op_neD (Room.units (k := 0) (by with_unfolding_all exact Room.mono (by assumption) (Nat.zero_le _)))) (nomark _) ?_
            walk_at "e"
            refine we_fz ?_
            refine we_lst ?_
            refine wa_nil ?_
            refine ⟨[], rfl, by simp, fun p3 => ⟨p3, _, _, rfl, rfl, by walk_at "pl", ?_⟩⟩
            refine ow_ne (.d _) (.d _) (shaped_lst _) (shaped_lst []) ⟨_, rfl, ?_⟩
            rw [show PyData.eqv (.list (intsD (nexts c r))) (.list []) = decide ((nexts c r) = []) from eqv_lst (nexts c r) ([])]
            refine itF (by rw [decide_eq_true (show nexts c r = [] from Classical.byContradiction fun z => h2 ⟨h2a, z⟩)]; rfl) ?_
            first | exact ⟨rfl, rfl⟩ | (refine itT rfl ?_; exact ⟨rfl, rfl⟩) | (refine itF rfl ?_; exact ⟨rfl, rfl⟩)
          · skip
            refine wt_w ?_
            refine ww_and ?_
            refine wt_cmp (op := .Eq) (op_eqD (Room.units (k := 0) (by with_unfolding_all exact Room.mono (by assumption) (Nat.zero_le _)))) (nomark _) ?_
            walk_at "e"
            walk_at "e"
            refine ow_eq (.d _) (.d _) rfl rfl ⟨_, rfl, ?_⟩
            rw [eqv_dint]
            refine itF (decide_eq_false h2a) ?_
            first | exact ⟨rfl, rfl⟩ | (refine itT rfl ?_; exact ⟨rfl, rfl⟩) | (refine itF rfl ?_; exact ⟨rfl, rfl⟩)
        refine itF rfl ?_
        refine wb_nil ?_
        by_cases h4 : s = 4
        · skip
          refine wb_cons (ws_if ?_)
          refine wt_cmp (op := .Eq) (op_eqD (Room.units (k := 0) (by with_unfolding_all exact Room.mono (by assumption) (Nat.zero_le _)))) (nomark _) ?_
          walk_at "e"
          walk_at "e"
          refine ow_eq (.d _) (.d _) rfl rfl ⟨_, rfl, ?_⟩
          rw [eqv_dint]
          refine itT (decide_eq_true h4) ?_
          refine wb_cons (ws_expr ?_)
          refine we_clS [0, 0, 0] (wc_mt0 m_meet ocl (by walk_at "room") ?_)
          walk_at "e"
          refine ⟨p, ⟨rfl, _, List.mem_of_getElem? (i := 0) rfl, hall_no (by decide +kernel) (by decide +kernel)⟩, ?_⟩
          refine ⟨_, _, ⟨_, _, rfl, rfl, _, _, rfl, rfl, _, _, rfl, rfl, rfl, rfl⟩, ?_⟩
          refine ⟨p, a, l, S, c, r, L, rfl, rfl, hco, by walk_at "len", by walk_at "len", by walk_at "len", by walk_at "len", fun p4 => ?_⟩
          refine wb_dropAt 0 rfl ?_
          refine wb_ord [3, 0, 0, 0] ⟨_, _, rfl, rfl, _, _, rfl, rfl, _, _, rfl, rfl, _, _, rfl, rfl, rfl, rfl⟩ ?_
          refine wb_one (ws_ret ?_)
          walk_at "e"
          exact keep (hR c (r ++ nexts c r) _ _ g.meet (hl) (by unfold Wd42; decide) (hb1.mono (by omega)))
        · skip
          refine wb_cons (ws_if ?_)
          refine wt_cmp (op := .Eq) (op_eqD (Room.units (k := 0) (by with_unfolding_all exact Room.mono (by assumption) (Nat.zero_le _)))) (nomark _) ?_
          walk_at "e"
          walk_at "e"
          refine ow_eq (.d _) (.d _) rfl rfl ⟨_, rfl, ?_⟩
          rw [eqv_dint]
          refine itF (decide_eq_false h4) ?_
          refine wb_nil ?_
          by_cases h6 : s < 7 ∧ c.length < 14
          · skip
            refine wb_cons (ws_if ?_)
            refine wt_w ?_
            refine ww_and ?_
            refine wt_cmp (op := .Lt) op_lt (nomark _) ?_
            walk_at "e"
            walk_at "e"
            refine ow_cmp ⟨_, rfl, ?_⟩
            refine itT (decide_eq_true h6.1) ?_
            refine ww_and1 ?_
            refine wt_cmp (op := .Lt) op_lt (nomark _) ?_
            walk_at "e"
            walk_at "e"
            refine ow_cmp ⟨_, rfl, ?_⟩
            refine itT (decide_eq_true (by omega)) ?_
            refine wb_cons (ws_expr ?_)
            refine we_x0 ?_
            refine wex_clS [0, 0, 0] (wcx_mt m_add_person takes0 ocl (by walk_at "room") ?_)
            walk_at "e"
            refine ⟨p, ⟨rfl, _, List.mem_of_getElem? (i := 0) rfl, hall_no (by decide +kernel) (by decide +kernel)⟩, ?_⟩
            refine wa_cons ?_
            refine we_tuple B rfl ?_
            refine we_fz ?_
            refine we_lc [("_law_soul", 5)] rfl sc_led_l.nd (blkOk_by (N := ["_law_box_here", "_law_hall", "_law_sort", "_law_ready", "_law_size", "_law_soul"]) (sc := defScope s_led_l) (by decide +kernel)) ?_
            refine wi_range1 rfl B.range ?_
            refine wa_one ?_
            walk_at "e"
            refine ⟨_, rfl, by omega, by omega, ?_⟩
            rw [Int.toNat_natCast, rangeD_eq]
            refine ⟨fun j acc μ' => ∃ ns ds2 m2, acc = intsD ns ∧ ns.Sublist ((rng c.length).take j) ∧ μ' = (((Hall c_Gathering p a l (S ++ [(c, r)]) L) ++ ([(b, Cont.l ds2)] : Cells)) : Cells) ∧ BoxOk m2 ds2 ∧ m2 ≤ m + 10 + j,
                ⟨[], bs1, _, rfl, List.nil_sublist _, rfl, hb1, by omega⟩, by rw [List.length_map, rng_len]; omega, fun j acc μ' hI => ?_, fun j d acc μ' hd hI => ?_, fun acc μ' hI p9 => ?_⟩
            · obtain ⟨ns, ds2, m2, rfl, hs, _⟩ := hI
              rw [List.length_map]
              refine Nat.le_trans hs.length_le ?_
              rw [List.length_take]
              exact Nat.min_le_left _ _
            · obtain ⟨ns, ds2, m2, rfl, hs, rfl, hb9, hm2⟩ := hI
              have hj : j < c.length := by
                have := (List.getElem?_eq_some_iff.mp hd).1
                rw [List.length_map, rng_len] at this
                exact this
              have hd' : d = .int (j : Int) := by
                unfold intsD rng at hd
                rw [List.getElem?_map, List.getElem?_map, List.getElem?_range hj] at hd
                cases hd
                rfl
              subst hd'
              have keep0 : ns.Sublist ((rng c.length).take (j + 1)) := by
                rw [rng_take_succ hj]
                exact hs.trans (List.sublist_append_left _ _)
              intro s1 H1 C cl fp
              refine wg_name 5 sc_led_l.nd n5 (by walk_at "loc") (by first | exact .inl rfl | exact .inr rfl) (by decide) ?_
              intro s1 H1 C cl fp
              show WT _ _ _ _ _
              walk_at "t"
              refine we_callB 3 c_law_take (by walk_at "room") rfl ?_
              walk_at "go"
              refine ⟨b, ds2, rfl, b, ds2, 3, m2, rfl, rfl, hb9, by decide, by decide, by omega, fun r2 ds3 _ hr2 hb3 => ⟨[], ds3, rfl, ?_⟩⟩
              walk_at "e"
              refine ow_eq (.d _) (.d _) rfl rfl ⟨_, rfl, ?_⟩
              split
              · intro s1 H1 C cl fp
                walk_at "e"
                refine ⟨_, rfl, ns ++ [(j : Int)], ds3, m2 + 1, by simp [intsD], ?_, rfl, hb3, by omega⟩
                rw [rng_take_succ hj]
                exact hs.append (List.Sublist.refl _)
              · exact ⟨ns, ds3, m2 + 1, rfl, keep0, rfl, hb3, by omega⟩
            · obtain ⟨ns, ds2, m2, rfl, hs, rfl, hb9, hm2⟩ := hI
              rw [List.length_map, rng_len] at hs hm2
              have hsn : ns.Sublist (rng c.length) := by
                have e : (rng c.length).take c.length = rng c.length := List.take_of_length_le (by rw [rng_len]; exact Nat.le_refl _)
                rw [e] at hs
                exact hs
              obtain ⟨hns1, hns2, hns3⟩ := sub_rng hsn
              refine ⟨p9, _, _, rfl, rfl, plS_map fun _ => rfl, ?_⟩
              refine ⟨_, (.l _), ?_⟩
              refine wa_one ?_
              refine we_callB 3 c_law_take (by walk_at "room") rfl ?_
              refine wa_cons ?_
              walk_at "e"
              refine wa_one ?_
              walk_at "e"
              refine ⟨b, ds2, rfl, b, ds2, 3, _, rfl, rfl, hb9, by omega, by omega, by omega, fun v bs2 va vb hb2 => ⟨[], bs2, rfl, ?_⟩⟩
              have hbn : bad c ns = none := List.find?_eq_none.mpr fun x m => by
                have := hns2 x m
                simp
                omega
              refine ⟨_, _, ⟨_, _, rfl, rfl, _, _, rfl, rfl, _, _, rfl, rfl, rfl, rfl⟩, ?_⟩
              refine ⟨p, a, l, S, c, r, L, _, ns, v, rfl, rfl, .inr rfl, hco, by walk_at "len", by walk_at "len", (fun x m => log42 (hns2 x m).1 (by have := (hns2 x m).2; omega)), by walk_at "len", by walk_at "len", fun zx1 zx2 => ?_, fun _ z => (by rw [hbn] at z; cases z), fun _ z => absurd z (by have := (show c.length < 20 by omega); omega)⟩
              clear zx1 zx2
              refine wb_ord [3, 0, 0, 0] ⟨_, _, rfl, rfl, _, _, rfl, rfl, _, _, rfl, rfl, _, _, rfl, rfl, rfl, rfl⟩ ?_
              refine wb_one (ws_ret ?_)
              walk_at "e"
              exact keep (hR (c ++ [(ns, v)]) r _ _ (g.add hns1 hns2 va (by omega) (by omega)) (by rw [List.length_append, List.length_singleton]; omega) (by unfold Wd42; decide) (hb2.mono (by omega)))
          · skip
            refine wb_cons (ws_if ?_)
            refine wt_ia false ?_ ?_
            · skip
              by_cases h6a : s < 7
              · skip
                refine wt_w ?_
                refine ww_and ?_
                refine wt_cmp (op := .Lt) op_lt (nomark _) ?_
                walk_at "e"
                walk_at "e"
                refine ow_cmp ⟨_, rfl, ?_⟩
                refine itT (decide_eq_true h6a) ?_
                refine ww_and1 ?_
                refine wt_cmp (op := .Lt) op_lt (nomark _) ?_
                walk_at "e"
                walk_at "e"
                refine ow_cmp ⟨_, rfl, ?_⟩
                refine itF (decide_eq_false (show ¬ ((c.length : Nat) : Int) < 14 by omega)) ?_
                first | exact ⟨rfl, rfl⟩ | (refine itT rfl ?_; exact ⟨rfl, rfl⟩) | (refine itF rfl ?_; exact ⟨rfl, rfl⟩)
              · skip
                refine wt_w ?_
                refine ww_and ?_
                refine wt_cmp (op := .Lt) op_lt (nomark _) ?_
                walk_at "e"
                walk_at "e"
                refine ow_cmp ⟨_, rfl, ?_⟩
                refine itF (decide_eq_false h6a) ?_
                first | exact ⟨rfl, rfl⟩ | (refine itT rfl ?_; exact ⟨rfl, rfl⟩) | (refine itF rfl ?_; exact ⟨rfl, rfl⟩)
            refine itF rfl ?_
            refine wb_nil ?_
            by_cases h7 : s = 7 ∧ wtg c r ≠ []
            · skip
              refine wb_cons (ws_if ?_)
              refine wt_w ?_
              refine ww_and ?_
              refine wt_cmp (op := .Eq) (op_eqD (Room.units (k := 0) (by with_unfolding_all exact Room.mono (by assumption) (Nat.zero_le _)))) (nomark _) ?_
              walk_at "e"
              walk_at "e"
              refine ow_eq (.d _) (.d _) rfl rfl ⟨_, rfl, ?_⟩
              rw [eqv_dint]
              refine itT (decide_eq_true h7.1) ?_
              refine ww_and1 ?_
              refine wt_cmp (op := .NotEq) (op_neD (Room.units (k := 0) (by with_unfolding_all exact Room.mono (by assumption) (Nat.zero_le _)))) (nomark _) ?_
              refine we_fz ?_
              refine we_clS [0, 0, 0] (wc_mt0 m_waiting ocl (by walk_at "room") ?_)
              walk_at "e"
              refine ⟨p, ⟨rfl, _, List.mem_of_getElem? (i := 0) rfl, hall_no (by decide +kernel) (by decide +kernel)⟩, ?_⟩
              refine ⟨_, _, ⟨_, _, rfl, rfl, _, _, rfl, rfl, _, _, rfl, rfl, rfl, rfl⟩, ?_⟩
              refine ⟨p, a, l, S, c, r, L, rfl, rfl, hco, by walk_at "len", by walk_at "len", fun p4 => ⟨p4, _, _, rfl, rfl, by walk_at "pl", ?_⟩⟩
              refine we_fz ?_
              refine we_lst ?_
              refine wa_nil ?_
              refine ⟨[], rfl, by simp, fun p5 => ⟨p5, _, _, rfl, rfl, by walk_at "pl", ?_⟩⟩
              refine ow_ne (.d _) (.d _) (shaped_lst _) (shaped_lst []) ⟨_, rfl, ?_⟩
              rw [show PyData.eqv (.list (intsD (wtg c r))) (.list []) = decide ((wtg c r) = []) from eqv_lst (wtg c r) ([])]
              refine itT (by rw [decide_eq_false h7.2]; rfl) ?_
              refine wb_cons (ws_expr ?_)
              refine we_x0 ?_
              refine wex_clS [0, 0, 0] (wcx_mt m_set_need takes0 ocl (by walk_at "room") ?_)
              walk_at "e"
              refine ⟨p, ⟨rfl, _, List.mem_of_getElem? (i := 0) rfl, hall_no (by decide +kernel) (by decide +kernel)⟩, ?_⟩
              refine wa_cons ?_
              refine we_callB 3 c_law_of (by walk_at "room") rfl ?_
              refine wa_cons ?_
              walk_at "e"
              refine wa_one ?_
              refine we_fz ?_
              refine we_clS [0, 0, 0] (wc_mt0 m_waiting ocl (by walk_at "room") ?_)
              walk_at "e"
              refine ⟨p, ⟨rfl, _, List.mem_of_getElem? (i := 0) rfl, hall_no (by decide +kernel) (by decide +kernel)⟩, ?_⟩
              refine ⟨_, _, ⟨_, _, rfl, rfl, _, _, rfl, rfl, _, _, rfl, rfl, rfl, rfl⟩, ?_⟩
              refine ⟨p, a, l, S, c, r, L, rfl, rfl, hco, by walk_at "len", by walk_at "len", fun p6 => ⟨p6, _, _, rfl, rfl, by walk_at "pl", ?_⟩⟩
              refine ⟨b, bs1, rfl, b, bs1, _, _, rfl, rfl, hb1, fun z => h7.2 (List.map_eq_nil_iff.mp z), by rw [List.length_map]; omega, by omega, fun dd hdd bs2 hb2 => ⟨[], bs2, rfl, ?_⟩⟩
              obtain ⟨q, hq, rfl⟩ := List.mem_map.mp hdd
              refine wa_one ?_
              refine we_callB 3 c_law_take (by walk_at "room") rfl ?_
              refine wa_cons ?_
              walk_at "e"
              refine wa_one ?_
              walk_at "e"
              refine ⟨b, bs2, rfl, b, bs2, 4, _, rfl, rfl, hb2, by omega, by omega, by omega, fun v bs3 va vb hb3 => ⟨[], bs3, rfl, ?_⟩⟩
              obtain ⟨⟨hq0, hq1⟩, hq2⟩ := wtg_mem hq
              refine ⟨_, _, ⟨_, _, rfl, rfl, _, _, rfl, rfl, _, _, rfl, rfl, rfl, rfl⟩, ?_⟩
              refine ⟨p, a, l, S, c, r, L, q, v, rfl, rfl, hco, by walk_at "len", by walk_at "len", log42 hq0 (by omega), by walk_at "len", by walk_at "len", fun zx1 zx2 zx3 => ?_, (fun z => absurd ⟨hq0, hq1⟩ z), (fun _ _ z => absurd z hq2)⟩
              clear zx1 zx2 zx3
              refine wb_ord [3, 0, 0, 0] ⟨_, _, rfl, rfl, _, _, rfl, rfl, _, _, rfl, rfl, _, _, rfl, rfl, rfl, rfl⟩ ?_
              refine wb_one (ws_ret ?_)
              walk_at "e"
              exact keep (hR (wn c q v) r _ _ (g.set ⟨hq0, hq1⟩ hq2 va (by omega)) (by rw [wn_len]; exact hl) (by unfold Wd42; decide) (hb3.mono (by omega)))
            · skip
              refine wb_cons (ws_if ?_)
              refine wt_ia false ?_ ?_
              · skip
                by_cases h7a : s = 7
                · skip
                  refine wt_w ?_
                  refine ww_and ?_
                  refine wt_cmp (op := .Eq) (op_eqD (Room.units (k := 0) (by with_unfolding_all exact Room.mono (by assumption) (Nat.zero_le _)))) (nomark _) ?_
                  walk_at "e"
                  walk_at "e"
                  refine ow_eq (.d _) (.d _) rfl rfl ⟨_, rfl, ?_⟩
                  rw [eqv_dint]
                  refine itT (decide_eq_true h7a) ?_
                  refine ww_and1 ?_
                  refine wt_cmp (op := .NotEq) (op_neD (Room.units (k := 0) (by with_unfolding_all exact Room.mono (by assumption) (Nat.zero_le _)))) (nomark _) ?_
                  refine we_fz ?_
                  refine we_clS [0, 0, 0] (wc_mt0 m_waiting ocl (by walk_at "room") ?_)
                  walk_at "e"
                  refine ⟨p, ⟨rfl, _, List.mem_of_getElem? (i := 0) rfl, hall_no (by decide +kernel) (by decide +kernel)⟩, ?_⟩
                  refine ⟨_, _, ⟨_, _, rfl, rfl, _, _, rfl, rfl, _, _, rfl, rfl, rfl, rfl⟩, ?_⟩
                  refine ⟨p, a, l, S, c, r, L, rfl, rfl, hco, by walk_at "len", by walk_at "len", fun p4 => ⟨p4, _, _, rfl, rfl, by walk_at "pl", ?_⟩⟩
                  refine we_fz ?_
                  refine we_lst ?_
                  refine wa_nil ?_
                  refine ⟨[], rfl, by simp, fun p5 => ⟨p5, _, _, rfl, rfl, by walk_at "pl", ?_⟩⟩
                  refine ow_ne (.d _) (.d _) (shaped_lst _) (shaped_lst []) ⟨_, rfl, ?_⟩
                  rw [show PyData.eqv (.list (intsD (wtg c r))) (.list []) = decide ((wtg c r) = []) from eqv_lst (wtg c r) ([])]
                  refine itF (by rw [decide_eq_true (show wtg c r = [] from Classical.byContradiction fun z => h7 ⟨h7a, z⟩)]; rfl) ?_
                  first | exact ⟨rfl, rfl⟩ | (refine itT rfl ?_; exact ⟨rfl, rfl⟩) | (refine itF rfl ?_; exact ⟨rfl, rfl⟩)
                · skip
                  refine wt_w ?_
                  refine ww_and ?_
                  refine wt_cmp (op := .Eq) (op_eqD (Room.units (k := 0) (by with_unfolding_all exact Room.mono (by assumption) (Nat.zero_le _)))) (nomark _) ?_
                  walk_at "e"
                  walk_at "e"
                  refine ow_eq (.d _) (.d _) rfl rfl ⟨_, rfl, ?_⟩
                  rw [eqv_dint]
                  refine itF (decide_eq_false h7a) ?_
                  first | exact ⟨rfl, rfl⟩ | (refine itT rfl ?_; exact ⟨rfl, rfl⟩) | (refine itF rfl ?_; exact ⟨rfl, rfl⟩)
              refine itF rfl ?_
              refine wb_nil ?_
              refine wb_cons (ws_expr ?_)
              refine we_x0 ?_
              refine wex_clS [0, 0, 0] (wcx_mt m_come_all takes0 ocl (by walk_at "room") ?_)
              walk_at "e"
              refine ⟨p, ⟨rfl, _, List.mem_of_getElem? (i := 0) rfl, hall_no (by decide +kernel) (by decide +kernel)⟩, ?_⟩
              refine wa_one ?_
              refine we_fz ?_
              refine we_lst ?_
              refine wa_nil ?_
              refine ⟨[], rfl, by simp, fun p6 => ⟨p6, _, _, rfl, rfl, by walk_at "pl", ?_⟩⟩
              refine ⟨_, _, ⟨_, _, rfl, rfl, _, _, rfl, rfl, _, _, rfl, rfl, rfl, rfl⟩, ?_⟩
              refine ⟨p, a, l, S, c, r, L, _, [], rfl, rfl, .inl rfl, hco, by walk_at "len", by walk_at "len", (fun q z => by cases z), by walk_at "len", by walk_at "len", fun zx1 => ?_, fun z => absurd (hla0.symm.trans z) (by decide), fun z => absurd (hla0.symm.trans z) (by decide), fun z => absurd (hla0.symm.trans z) (by decide)⟩
              clear zx1
              refine wb_ord [3, 0, 0, 0] ⟨_, _, rfl, rfl, _, _, rfl, rfl, _, _, rfl, rfl, _, _, rfl, rfl, rfl, rfl⟩ ?_
              refine wb_one (ws_ret ?_)
              walk_at "e"
              exact keep (hR c (r ++ []) _ _ (g.call (ps := []) rfl) (hl) (by unfold Wd42; decide) (hb1.mono (by omega)))
theorem ok_copy_right_l {f : Addr} {fd : FuncData} (F : Fun K "_law_copy_right" "_law_copy_right" s_copy_right_l f fd) (B : Bl mg) (c_law_same : Cal P w K mg base 5 "_law_same" (T_same 4)) (c_law_seen_of : Cal P w K mg base 7 "_law_seen_of" (T_seen c_Gathering)) (m_log : CalM P w K mg base 1 c_Gathering "log" (T_log c_Gathering)) (ocl : L2.Cls K c_Gathering) (c_law_led : Cal P w K mg base 7 "_law_led" (T_led42 c_Gathering)) (m_undo : CalM P w K mg base 2 c_Gathering "undo" (T_undo c_Gathering)) : FnG P w K mg base CX0 8 f fd ["_law_box_here", "_law_hall", "_law_copy", "_law_due", "_law_ahead"] (spW K (T_cr42 c_Gathering)) := by
  refine fn_w F sc_copy_right_l (by decide) (fun xs μ R h => ?_) fun cdv A outer s H E hr hgd xs μ R hT => ?_
  · obtain ⟨b, bs, m, p, a, l, S, c, r, L, pc, ac, lc, S2, c2, r2, dah, rfl, _⟩ := h
    rfl
  · obtain ⟨b, bs, m, p, a, l, S, c, r, L, pc, ac, lc, S2, c2, r2, dah, rfl, rfl, hb, g, hS, hL, hlo, g2, hl2, hS2, hm, hah, hR⟩ := hT
    refine wb_names (N := ["_law_box_here", "_law_hall", "_law_copy", "_law_due", "_law_ahead", "_law_kept", "_law_log", "_law_word"]) rfl fun hn => ?_
    have n0 := hn 0 _ rfl
    have n1 := hn 1 _ rfl
    have n2 := hn 2 _ rfl
    have n3 := hn 3 _ rfl
    have n4 := hn 4 _ rfl
    have n5 := hn 5 _ rfl
    have n6 := hn 6 _ rfl
    have n7 := hn 7 _ rfl
    have hco := g.co
    have hco2 := g2.co
    have hl := g.l
    have hrl := g.p.len
    have hrl2 := g2.p.len
    have hfit := g.fit S.length
    have hfit2 := g2.fit S2.length
    refine wb_cons (ws_if ?_)
    refine wt_w ?_
    refine ww_or ?_
    refine wt_not ?_
    refine wt_val ?_
    refine we_callP c_law_same (by walk_at "room") rfl ?_
    refine wa_cons ?_
    refine we_fz ?_
    refine we_clS [4, 4, 4] (wc_pos c_law_seen_of (by walk_at "room") rfl ?_)
    refine wa_one ?_
    walk_at "e"
    refine ⟨_, _, ⟨_, _, rfl, rfl, _, _, rfl, rfl, _, _, rfl, rfl, rfl, rfl⟩, ?_⟩
    refine ⟨pc, ac, lc, S2, c2, r2, [], rfl, rfl, hco2, by walk_at "len", fun p1 => ⟨p1, _, _, rfl, rfl, seenL_pl _ _ _, ?_⟩⟩
    refine wa_one ?_
    walk_at "e"
    refine ⟨_, rfl, hfit2, ?_⟩
    refine ⟨_, rfl, ?_⟩
    refine itF rfl ?_
    refine ww_or1 ?_
    refine wt_cmp (op := .NotEq) (op_neD (Room.units (k := 0) (by with_unfolding_all exact Room.mono (by assumption) (Nat.zero_le _)))) (nomark _) ?_
    refine we_fz ?_
    refine we_clS [0, 0, 0] (wc_mt0 m_log ocl (by walk_at "room") ?_)
    walk_at "e"
    refine ⟨pc, ⟨rfl, _, List.mem_of_getElem? (i := 0) rfl, hall_no (by decide +kernel) (by decide +kernel)⟩, ?_⟩
    refine ⟨_, _, ⟨_, _, rfl, rfl, _, _, rfl, rfl, _, _, rfl, rfl, rfl, rfl⟩, ?_⟩
    refine ⟨pc, ac, lc, S2, (c2, r2), [], rfl, rfl, fun p2 => ⟨p2, _, _, rfl, rfl, plS_map fun _ => rfl, ?_⟩⟩
    refine we_fz ?_
    refine we_lst ?_
    refine wa_nil ?_
    refine ⟨[], rfl, by simp, fun p3 => ⟨p3, _, _, rfl, rfl, by walk_at "pl", ?_⟩⟩
    refine ow_ne (.d _) (.d _) (by walk_at "shp") (shaped_lst []) ⟨_, rfl, ?_⟩
    refine itF (rfl) ?_
    refine wb_nil ?_
    refine wb_cons ?_
    refine ws_par 5 6 rfl sc_copy_right_l.nd n5 n6 (by decide) rfl rfl ?_ (by rfl)
    refine we_fz ?_
    refine we_clS [4, 4, 4] (wc_pos c_law_seen_of (by walk_at "room") rfl ?_)
    refine wa_one ?_
    walk_at "e"
    refine ⟨_, _, ⟨_, _, rfl, rfl, _, _, rfl, rfl, _, _, rfl, rfl, rfl, rfl⟩, ?_⟩
    refine ⟨p, a, l, S, c, r, L, rfl, rfl, hco, by walk_at "len", fun p4 => ⟨p4, _, _, rfl, rfl, seenL_pl _ _ _, ?_⟩⟩
    refine we_fz ?_
    refine we_clS [0, 0, 0] (wc_mt0 m_log ocl (by walk_at "room") ?_)
    walk_at "e"
    refine ⟨p, ⟨rfl, _, List.mem_of_getElem? (i := 0) rfl, hall_no (by decide +kernel) (by decide +kernel)⟩, ?_⟩
    refine ⟨_, _, ⟨_, _, rfl, rfl, _, _, rfl, rfl, _, _, rfl, rfl, rfl, rfl⟩, ?_⟩
    refine ⟨p, a, l, S, (c, r), L, rfl, rfl, fun p5 => ⟨p5, _, _, rfl, rfl, plS_map fun _ => rfl, ?_⟩⟩
    refine wb_cons ?_
    refine ws_set 7 sc_copy_right_l.nd n7 (by walk_at "loc") (by first | exact .inl rfl | exact .inr rfl) ?_
    refine we_clS [6, 3, 3, 3] (wc_pos c_law_led (by walk_at "room") rfl ?_)
    refine wa_cons ?_
    walk_at "e"
    refine wa_one ?_
    walk_at "e"
    refine ⟨_, _, ⟨_, _, rfl, rfl, _, _, rfl, rfl, _, _, rfl, rfl, _, _, rfl, rfl, rfl, rfl⟩, ?_⟩
    refine ⟨b, bs, _, pc, ac, lc, S2, c2, r2, [], rfl, rfl, hb, g2, hl2, by walk_at "len", by walk_at "len", by omega, fun c3 r3 w9 bs1 g3 hl3 hw3 hb1 => ?_⟩
    have hco3 := g3.co
    have hrl3 := g3.p.len
    refine wb_cons (ws_if ?_)
    refine wt_w ?_
    refine ww_or ?_
    refine wt_cmp (op := .IsNot) op_isnot_bl (nomark _) ?_
    refine we_clS [1, 1, 1] (wc_mt0 m_undo ocl (by walk_at "room") ?_)
    walk_at "e"
    refine ⟨pc, ⟨rfl, _, List.mem_of_getElem? (i := 1) rfl, hall_no (by decide +kernel) (by decide +kernel)⟩, ?_⟩
    refine ⟨_, _, ⟨_, _, rfl, rfl, _, _, rfl, rfl, _, _, rfl, rfl, rfl, rfl⟩, ?_⟩
    refine ⟨pc, ac, lc, (S2 ++ [(c2, r2)]), (c3, r3), ([] ++ lgs w9), rfl, rfl, by walk_at "len", by walk_at "len", ?_⟩
    rw [show unS (S2 ++ [(c2, r2)]) (c3, r3) = S2 ++ [(c2, r2)] from unS_pop]
    walk_at "e"
    refine ow_inB ⟨_, rfl, ?_⟩
    refine itF (by rw [undo_t2]) ?_
    refine ww_or1 ?_
    refine wt_not ?_
    refine wt_val ?_
    refine we_callP c_law_same (by walk_at "room") rfl ?_
    refine wa_cons ?_
    refine we_fz ?_
    refine we_clS [0, 0, 0] (wc_pos c_law_seen_of (by walk_at "room") rfl ?_)
    refine wa_one ?_
    walk_at "e"
    refine ⟨_, _, ⟨_, _, rfl, rfl, _, _, rfl, rfl, _, _, rfl, rfl, rfl, rfl⟩, ?_⟩
    refine ⟨pc, ac, lc, S2, c2, r2, (([] ++ lgs w9) ++ lgs "undo"), rfl, rfl, hco2, by walk_at "len", fun p6 => ⟨p6, _, _, rfl, rfl, seenL_pl _ _ _, ?_⟩⟩
    refine wa_one ?_
    walk_at "e"
    refine ⟨_, rfl, hfit2, ?_⟩
    refine ⟨_, rfl, ?_⟩
    refine itF rfl ?_
    refine wb_nil ?_
    refine wb_cons (ws_if ?_)
    refine wt_not ?_
    refine wt_val ?_
    refine we_callP c_law_same (by walk_at "room") rfl ?_
    refine wa_cons ?_
    refine we_fz ?_
    refine we_clS [0, 0, 0] (wc_mt0 m_log ocl (by walk_at "room") ?_)
    walk_at "e"
    refine ⟨pc, ⟨rfl, _, List.mem_of_getElem? (i := 0) rfl, hall_no (by decide +kernel) (by decide +kernel)⟩, ?_⟩
    refine ⟨_, _, ⟨_, _, rfl, rfl, _, _, rfl, rfl, _, _, rfl, rfl, rfl, rfl⟩, ?_⟩
    refine ⟨pc, ac, lc, S2, (c2, r2), (([] ++ lgs w9) ++ lgs "undo"), rfl, rfl, fun p7 => ⟨p7, _, _, rfl, rfl, plS_map fun _ => rfl, ?_⟩⟩
    refine wa_one ?_
    refine we_fz ?_
    refine we_lst ?_
    refine wa_cons ?_
    refine we_tup ?_
    refine wa_cons ?_
    walk_at "e"
    refine wa_one ?_
    walk_at "e"
    refine ⟨[(.str "in"), (.str w9)], rfl, by simp, ?_⟩
    refine wa_cons ?_
    refine we_tup ?_
    refine wa_cons ?_
    walk_at "e"
    refine wa_one ?_
    walk_at "e"
    refine ⟨[(.str "out"), (.str w9)], rfl, by simp, ?_⟩
    refine wa_cons ?_
    refine we_tup ?_
    refine wa_cons ?_
    walk_at "e"
    refine wa_one ?_
    walk_at "e"
    refine ⟨[(.str "in"), (.str "undo")], rfl, by simp, ?_⟩
    refine wa_one ?_
    refine we_tup ?_
    refine wa_cons ?_
    walk_at "e"
    refine wa_one ?_
    walk_at "e"
    refine ⟨[(.str "out"), (.str "undo")], rfl, by simp, ?_⟩
    refine ⟨[(.tuple [(.str "in"), (.str w9)]), (.tuple [(.str "out"), (.str w9)]), (.tuple [(.str "in"), (.str "undo")]), (.tuple [(.str "out"), (.str "undo")])], rfl, by simp, fun p8 => ⟨p8, _, _, rfl, rfl, by walk_at "pl", ?_⟩⟩
    refine ⟨_, rfl, (LogOk.nil.lgs (wd_ok hw3)).lgs (by decide +kernel) |>.fit4 (by simp [lgs_len]), ?_⟩
    refine ⟨_, rfl, ?_⟩
    refine itF rfl ?_
    refine wb_nil ?_
    rcases hah with rfl | ⟨S0, c0, r0, rfl, rfl, g0⟩
    · skip
      refine wb_cons (ws_if ?_)
      refine wt_w ?_
      refine ww_and ?_
      refine wt_cmp (op := .IsNot) op_notN (nomark _) ?_
      walk_at "e"
      walk_at "e"
      refine ow_notN ⟨_, rfl, ?_⟩
      refine itF rfl ?_
      refine wb_nil ?_
      refine wb_ord [3, 3, 3, 3, 0, 0, 0] ⟨_, _, rfl, rfl, _, _, rfl, rfl, _, _, rfl, rfl, _, _, rfl, rfl, _, _, rfl, rfl, _, _, rfl, rfl, _, _, rfl, rfl, rfl, rfl⟩ ?_
      refine wb_one (ws_ret ?_)
      refine we_and ?_
      refine we_callP c_law_same (by walk_at "room") rfl ?_
      refine wa_cons ?_
      refine we_fz ?_
      refine we_clS [1, 1, 1] (wc_pos c_law_seen_of (by walk_at "room") rfl ?_)
      refine wa_one ?_
      walk_at "e"
      refine ⟨_, _, ⟨_, _, rfl, rfl, _, _, rfl, rfl, _, _, rfl, rfl, rfl, rfl⟩, ?_⟩
      refine ⟨p, a, l, S, c, r, L, rfl, rfl, hco, by walk_at "len", fun p9 => ⟨p9, _, _, rfl, rfl, seenL_pl _ _ _, ?_⟩⟩
      refine wa_one ?_
      walk_at "e"
      refine ⟨_, rfl, hfit, ?_⟩
      refine ⟨_, rfl, itT (rfl) ?_⟩
      refine we_one ?_
      refine we_callP c_law_same (by walk_at "room") rfl ?_
      refine wa_cons ?_
      refine we_fz ?_
      refine we_clS [0, 0, 0] (wc_mt0 m_log ocl (by walk_at "room") ?_)
      walk_at "e"
      refine ⟨p, ⟨rfl, _, List.mem_of_getElem? (i := 0) rfl, hall_no (by decide +kernel) (by decide +kernel)⟩, ?_⟩
      refine ⟨_, _, ⟨_, _, rfl, rfl, _, _, rfl, rfl, _, _, rfl, rfl, rfl, rfl⟩, ?_⟩
      refine ⟨p, a, l, S, (c, r), L, rfl, rfl, fun p10 => ⟨p10, _, _, rfl, rfl, plS_map fun _ => rfl, ?_⟩⟩
      refine wa_one ?_
      walk_at "e"
      refine ⟨_, rfl, hlo.fit4 (by omega), ?_⟩
      exact keep_bac (A := Hall c_Gathering p a l (S ++ [(c, r)]) L) (B := ([(b, (bs1 : Cont))] : Cells)) (C := Hall c_Gathering pc ac lc (S2 ++ [(c2, r2)]) (([] ++ lgs w9) ++ lgs "undo")) (hR _ (hb1.mono (by omega)))
    · skip
      have hco0 := g0.co
      have hrl0 := g0.p.len
      have hl0 := g0.l
      have hfit0 := g0.fit S0.length
      refine wb_cons (ws_if ?_)
      refine wt_w ?_
      refine ww_and ?_
      refine wt_cmp (op := .IsNot) op_notN (nomark _) ?_
      walk_at "e"
      walk_at "e"
      refine ow_notN ⟨_, rfl, ?_⟩
      refine itT (rfl) ?_
      refine ww_and1 ?_
      refine wt_w ?_
      refine ww_or ?_
      refine wt_cmp (op := .IsNot) op_isnot_bl (nomark _) ?_
      refine we_clS [0, 0, 0] (wc_mt0 m_undo ocl (by walk_at "room") ?_)
      walk_at "e"
      refine ⟨pc, ⟨rfl, _, List.mem_of_getElem? (i := 0) rfl, hall_no (by decide +kernel) (by decide +kernel)⟩, ?_⟩
      refine ⟨_, _, ⟨_, _, rfl, rfl, _, _, rfl, rfl, _, _, rfl, rfl, rfl, rfl⟩, ?_⟩
      refine ⟨pc, ac, lc, (S0 ++ [(c0, r0)]), (c2, r2), (([] ++ lgs w9) ++ lgs "undo"), rfl, rfl, by walk_at "len", by walk_at "len", ?_⟩
      rw [show unS (S0 ++ [(c0, r0)]) (c2, r2) = S0 ++ [(c0, r0)] from unS_pop]
      walk_at "e"
      refine ow_inB ⟨_, rfl, ?_⟩
      refine itF (by rw [undo_t2]) ?_
      refine ww_or1 ?_
      refine wt_not ?_
      refine wt_val ?_
      refine we_callP c_law_same (by walk_at "room") rfl ?_
      refine wa_cons ?_
      refine we_fz ?_
      refine we_clS [0, 0, 0] (wc_pos c_law_seen_of (by walk_at "room") rfl ?_)
      refine wa_one ?_
      walk_at "e"
      refine ⟨_, _, ⟨_, _, rfl, rfl, _, _, rfl, rfl, _, _, rfl, rfl, rfl, rfl⟩, ?_⟩
      refine ⟨pc, ac, lc, S0, c0, r0, ((([] ++ lgs w9) ++ lgs "undo") ++ lgs "undo"), rfl, rfl, hco0, by walk_at "len", fun p9 => ⟨p9, _, _, rfl, rfl, seenL_pl _ _ _, ?_⟩⟩
      refine wa_one ?_
      walk_at "e"
      refine ⟨_, rfl, hfit0, ?_⟩
      refine ⟨_, rfl, ?_⟩
      refine itF rfl ?_
      refine wb_nil ?_
      refine wb_ord [3, 3, 3, 3, 0, 0, 0] ⟨_, _, rfl, rfl, _, _, rfl, rfl, _, _, rfl, rfl, _, _, rfl, rfl, _, _, rfl, rfl, _, _, rfl, rfl, _, _, rfl, rfl, rfl, rfl⟩ ?_
      refine wb_one (ws_ret ?_)
      refine we_and ?_
      refine we_callP c_law_same (by walk_at "room") rfl ?_
      refine wa_cons ?_
      refine we_fz ?_
      refine we_clS [1, 1, 1] (wc_pos c_law_seen_of (by walk_at "room") rfl ?_)
      refine wa_one ?_
      walk_at "e"
      refine ⟨_, _, ⟨_, _, rfl, rfl, _, _, rfl, rfl, _, _, rfl, rfl, rfl, rfl⟩, ?_⟩
      refine ⟨p, a, l, S, c, r, L, rfl, rfl, hco, by walk_at "len", fun p10 => ⟨p10, _, _, rfl, rfl, seenL_pl _ _ _, ?_⟩⟩
      refine wa_one ?_
      walk_at "e"
      refine ⟨_, rfl, hfit, ?_⟩
      refine ⟨_, rfl, itT (rfl) ?_⟩
      refine we_one ?_
      refine we_callP c_law_same (by walk_at "room") rfl ?_
      refine wa_cons ?_
      refine we_fz ?_
      refine we_clS [0, 0, 0] (wc_mt0 m_log ocl (by walk_at "room") ?_)
      walk_at "e"
      refine ⟨p, ⟨rfl, _, List.mem_of_getElem? (i := 0) rfl, hall_no (by decide +kernel) (by decide +kernel)⟩, ?_⟩
      refine ⟨_, _, ⟨_, _, rfl, rfl, _, _, rfl, rfl, _, _, rfl, rfl, rfl, rfl⟩, ?_⟩
      refine ⟨p, a, l, S, (c, r), L, rfl, rfl, fun p11 => ⟨p11, _, _, rfl, rfl, plS_map fun _ => rfl, ?_⟩⟩
      refine wa_one ?_
      walk_at "e"
      refine ⟨_, rfl, hlo.fit4 (by omega), ?_⟩
      exact keep_bac (A := Hall c_Gathering p a l (S ++ [(c, r)]) L) (B := ([(b, (bs1 : Cont))] : Cells)) (C := Hall c_Gathering pc ac lc (S0 ++ [(c0, r0)]) ((([] ++ lgs w9) ++ lgs "undo") ++ lgs "undo")) (hR _ (hb1.mono (by omega)))
theorem ok_apart_right_l {f : Addr} {fd : FuncData} (F : Fun K "_law_apart_right" "_law_apart_right" s_apart_right_l f fd) (B : Bl mg) (c_law_take : Cal P w K mg base 1 "_law_take" T_take) (m_as_of : CalMX P w K mg base 4 c_Gathering "as_of" (T_asof c_Gathering c_NoOperation)) (ocl : L2.Cls K c_Gathering) (m_twin : CalM P w K mg base 5 c_Gathering "twin" (T_twin c_Gathering)) (c_law_seen_of : Cal P w K mg base 7 "_law_seen_of" (T_seen c_Gathering)) (c_law_same : Cal P w K mg base 6 "_law_same" (T_same 5)) (c_law_led : Cal P w K mg base 7 "_law_led" (T_led42 c_Gathering)) (m_operations : CalM P w K mg base 1 c_Gathering "operations" (T_opers c_Gathering)) (m_undo : CalM P w K mg base 2 c_Gathering "undo" (T_undo c_Gathering)) (m_add_person : CalMX P w K mg base 4 c_Gathering "add_person" (T_addp c_Gathering c_NoPerson c_Full)) (m_meet : CalM P w K mg base 5 c_Gathering "meet" (T_meet c_Gathering)) : FnG P w K mg base CX0 9 f fd ["_law_box_here", "_law_hall", "_law_seen"] (spW K (T_ar42 c_Gathering)) := by
  refine fn_w F sc_apart_right_l (by decide) (fun xs μ R h => ?_) fun cdv A outer s H E hr hgd xs μ R hT => ?_
  · obtain ⟨b, bs, m, p, a, l, S, c, r, L, rfl, _⟩ := h
    rfl
  · obtain ⟨b, bs, m, p, a, l, S, c, r, L, rfl, rfl, hb, hG, hS, hL, hm, hR⟩ := hT
    refine wb_names (N := ["_law_box_here", "_law_hall", "_law_seen", "_law_count", "_law_halls", "_law_due", "_law_at", "_law_turn", "_law_mate", "_law_told", "_law_some"]) rfl fun hn => ?_
    have n0 := hn 0 _ rfl
    have n1 := hn 1 _ rfl
    have n2 := hn 2 _ rfl
    have n3 := hn 3 _ rfl
    have n4 := hn 4 _ rfl
    have n5 := hn 5 _ rfl
    have n6 := hn 6 _ rfl
    have n7 := hn 7 _ rfl
    have n8 := hn 8 _ rfl
    have n9 := hn 9 _ rfl
    have n10 := hn 10 _ rfl
    have g := hG.lastG
    have hl := hG.lastL
    have hrl := g.p.len
    have hco := g.co
    have hsl : (seeT (S ++ [(c, r)])).length = S.length + 1 := by rw [seeT_len, List.length_append, List.length_singleton]
    refine wb_cons ?_
    refine ws_set 3 sc_apart_right_l.nd n3 (by walk_at "loc") (by first | exact .inl rfl | exact .inr rfl) ?_
    refine we_callB 0 c_law_take (by walk_at "room") rfl ?_
    refine wa_cons ?_
    walk_at "e"
    refine wa_one ?_
    refine we_len B rfl ?_
    walk_at "e"
    refine ⟨_, (.l _), ?_⟩
    refine ⟨b, bs, rfl, b, bs, (((seeT (S ++ [(c, r)])).length : Nat) : Int), _, rfl, rfl, hb, by omega, by omega, by omega, fun t bs1 ta tb hb1 => ⟨[], bs1, rfl, ?_⟩⟩
    obtain ⟨cn, rfl⟩ : ∃ k : Nat, t = k := ⟨t.toNat, by omega⟩
    obtain ⟨S1, c1, r1, hT1, hS1, hx1⟩ := take_pick (T := S ++ [(c, r)]) (k := cn) (by rw [List.length_append, List.length_singleton]; omega)
    subst hS1
    have hG1 : Gd (S1 ++ [(c1, r1)]) := fun x m => hG x (List.mem_of_mem_take (hT1 ▸ m))
    have g1 := hG1.lastG
    have hco1 := g1.co
    have hrl1 := g1.p.len
    have hl1 := hG1.lastL
    refine wb_cons ?_
    refine ws_set 4 sc_apart_right_l.nd n4 (by walk_at "loc") (by first | exact .inl rfl | exact .inr rfl) ?_
    refine we_lstP ?_
    refine wa_cons ?_
    walk_at "e"
    refine wa_cons ?_
    refine we_x0 (wex_clS [1, 1, 1] (wcx_mt m_as_of takes0 ocl (by walk_at "room") ?_))
    walk_at "e"
    refine ⟨p, ⟨rfl, _, List.mem_of_getElem? (i := 1) rfl, hall_no (by decide +kernel) (by decide +kernel)⟩, ?_⟩
    refine wa_one ?_
    walk_at "e"
    refine ⟨_, _, ⟨_, _, rfl, rfl, _, _, rfl, rfl, _, _, rfl, rfl, rfl, rfl⟩, ?_⟩
    refine ⟨p, a, l, S, (c, r), L, ((S1.length : Nat) : Int), rfl, rfl, by first | omega | (simp only [List.length_append, List.length_cons, List.length_nil, lgs_len]; omega), log_nat (by omega), fun nn hq hn hp1 ha1 hl1 => ?_, fun z => absurd ⟨by omega, by have := (show S1.length ≤ S.length by omega); omega⟩ z⟩
    rw [show nn = S1.length from by omega, hT1]
    refine wa_one ?_
    refine we_clS [3, 3, 3] (wc_mt0 m_twin ocl (by walk_at "room") ?_)
    walk_at "e"
    refine ⟨p, ⟨rfl, _, List.mem_of_getElem? (i := 3) rfl, hall_no (by decide +kernel) (by decide +kernel)⟩, ?_⟩
    refine ⟨_, _, ⟨_, _, rfl, rfl, _, _, rfl, rfl, _, _, rfl, rfl, rfl, rfl⟩, ?_⟩
    refine ⟨p, a, l, S, (c, r), L, rfl, rfl, by first | omega | (simp only [List.length_append, List.length_cons, List.length_nil, lgs_len]; omega), fun hp2 ha2 hl2 => ?_⟩
    refine ⟨by simp, (by intro d; simp), fun ph1 => ?_⟩
    refine wb_frzM 0 4 rfl rfl ?_
    refine wb_at2 (δ2 := [some (.a b), some (.a p), some (.d (.list (seeT (S ++ [(c, r)])))), some (.d (.int ((S1.length : Nat) : Int))), some (.m ph1 false ([ptr p, ptr hp1, ptr hp2])), none, none, none, none, none, none]) (by with_unfolding_all rfl) ?_
    refine wb_cons ?_
    refine ws_setLcM 5 [("_law_some", 10)] rfl sc_apart_right_l.nd n5 rfl (sw_true rfl rfl rfl (by decide +kernel)) (blkOk_by (N := ["_law_box_here", "_law_hall", "_law_seen", "_law_count", "_law_halls", "_law_due", "_law_at", "_law_turn", "_law_mate", "_law_told", "_law_some"]) (sc := defScope s_apart_right_l) (by decide +kernel)) ?_
    refine wip_m ?_
    walk_at "e"
    refine ⟨_, _, rfl, by intro d hd; simp only [List.mem_cons, List.not_mem_nil, or_false] at hd; rcases hd with rfl | rfl | rfl; all_goals exact .inr ⟨_, rfl⟩, ?_⟩
    refine ⟨fun j acc μ' => acc = ([(.list (seenL S.length c r)), (.list (seenL S1.length c1 r1)), (.list (seenL S.length c r))] : List PyData).take j ∧ μ' = ((Hall c_Gathering hp2 ha2 hl2 (S ++ [(c, r)]) ([]) ++ Hall c_Gathering p a l (S ++ [(c, r)]) L ++ Hall c_Gathering hp1 ha1 hl1 (S1 ++ [(c1, r1)]) ([]) ++ ([(b, Cont.l bs1)] : Cells)) : Cells), ⟨rfl, rfl⟩, (Nat.le_of_ble_eq_true rfl), fun j acc μ' hI => ?_, fun j d acc μ' hd hI => ?_, fun acc μ' hI pdu => ?_⟩
    · obtain ⟨rfl, _⟩ := hI
      exact List.length_take_le _ _
    · obtain ⟨rfl, rfl⟩ := hI
      rcases j with _ | _ | _ | j
      · cases hd
        intro s1 H1 C cl fp
        refine (show WGo _ _ _ (.a p) _ _ _ from ?_)
        refine wg_name 10 sc_apart_right_l.nd n10 (by walk_at "loc") (by first | exact .inl rfl | exact .inr rfl) (by decide) ?_
        intro s1 H1 C cl fp
        refine wts_nil ?_
        refine itT rfl ?_
        intro s1 H1 C cl fp
        refine we_ordQ ?_
        refine we_fz ?_
        refine we_clS [3, 3, 3] (wc_pos c_law_seen_of (by walk_at "room") rfl ?_)
        refine wa_one ?_
        walk_at "e"
        refine ⟨_, _, ⟨_, _, rfl, rfl, _, _, rfl, rfl, _, _, rfl, rfl, rfl, rfl⟩, ?_⟩
        refine ⟨p, a, l, S, c, r, L, rfl, rfl, hco, by first | omega | (simp only [List.length_append, List.length_cons, List.length_nil, lgs_len]; omega), fun p1 => ⟨p1, _, _, rfl, rfl, seenL_pl _ _ _, ?_⟩⟩
        refine ⟨(Hall c_Gathering hp2 ha2 hl2 (S ++ [(c, r)]) ([]) ++ Hall c_Gathering p a l (S ++ [(c, r)]) L ++ Hall c_Gathering hp1 ha1 hl1 (S1 ++ [(c1, r1)]) ([]) ++ ([(b, Cont.l bs1)] : Cells)), lent_perm (js := [3, 3, 3, 0, 0, 0, 0, 0, 0, 0]) ⟨_, _, rfl, rfl, _, _, rfl, rfl, _, _, rfl, rfl, _, _, rfl, rfl, _, _, rfl, rfl, _, _, rfl, rfl, _, _, rfl, rfl, _, _, rfl, rfl, _, _, rfl, rfl, _, _, rfl, rfl, rfl, rfl⟩, ?_⟩
        exact ⟨fun z => ⟨(fun e => by cases e), (fun ns e => by cases e)⟩, rfl, rfl⟩
      · cases hd
        intro s1 H1 C cl fp
        refine (show WGo _ _ _ (.a hp1) _ _ _ from ?_)
        refine wg_name 10 sc_apart_right_l.nd n10 (by walk_at "loc") (by first | exact .inl rfl | exact .inr rfl) (by decide) ?_
        intro s1 H1 C cl fp
        refine wts_nil ?_
        refine itT rfl ?_
        intro s1 H1 C cl fp
        refine we_ordQ ?_
        refine we_fz ?_
        refine we_clS [6, 6, 6] (wc_pos c_law_seen_of (by walk_at "room") rfl ?_)
        refine wa_one ?_
        walk_at "e"
        refine ⟨_, _, ⟨_, _, rfl, rfl, _, _, rfl, rfl, _, _, rfl, rfl, rfl, rfl⟩, ?_⟩
        refine ⟨hp1, ha1, hl1, S1, c1, r1, [], rfl, rfl, hco1, by first | omega | (simp only [List.length_append, List.length_cons, List.length_nil, lgs_len]; omega), fun p2 => ⟨p2, _, _, rfl, rfl, seenL_pl _ _ _, ?_⟩⟩
        refine ⟨(Hall c_Gathering hp2 ha2 hl2 (S ++ [(c, r)]) ([]) ++ Hall c_Gathering p a l (S ++ [(c, r)]) L ++ Hall c_Gathering hp1 ha1 hl1 (S1 ++ [(c1, r1)]) ([]) ++ ([(b, Cont.l bs1)] : Cells)), lent_perm (js := [3, 3, 3, 3, 3, 3, 0, 0, 0, 0]) ⟨_, _, rfl, rfl, _, _, rfl, rfl, _, _, rfl, rfl, _, _, rfl, rfl, _, _, rfl, rfl, _, _, rfl, rfl, _, _, rfl, rfl, _, _, rfl, rfl, _, _, rfl, rfl, _, _, rfl, rfl, rfl, rfl⟩, ?_⟩
        exact ⟨fun z => ⟨(fun e => by cases e), (fun ns e => by cases e)⟩, rfl, rfl⟩
      · cases hd
        intro s1 H1 C cl fp
        refine (show WGo _ _ _ (.a hp2) _ _ _ from ?_)
        refine wg_name 10 sc_apart_right_l.nd n10 (by walk_at "loc") (by first | exact .inl rfl | exact .inr rfl) (by decide) ?_
        intro s1 H1 C cl fp
        refine wts_nil ?_
        refine itT rfl ?_
        intro s1 H1 C cl fp
        refine we_ordQ ?_
        refine we_fz ?_
        refine we_clS [0, 0, 0] (wc_pos c_law_seen_of (by walk_at "room") rfl ?_)
        refine wa_one ?_
        walk_at "e"
        refine ⟨_, _, ⟨_, _, rfl, rfl, _, _, rfl, rfl, _, _, rfl, rfl, rfl, rfl⟩, ?_⟩
        refine ⟨hp2, ha2, hl2, S, c, r, [], rfl, rfl, hco, by first | omega | (simp only [List.length_append, List.length_cons, List.length_nil, lgs_len]; omega), fun p3 => ⟨p3, _, _, rfl, rfl, seenL_pl _ _ _, ?_⟩⟩
        refine ⟨(Hall c_Gathering hp2 ha2 hl2 (S ++ [(c, r)]) ([]) ++ Hall c_Gathering p a l (S ++ [(c, r)]) L ++ Hall c_Gathering hp1 ha1 hl1 (S1 ++ [(c1, r1)]) ([]) ++ ([(b, Cont.l bs1)] : Cells)), lent_perm (js := [0, 0, 0, 0, 0, 0, 0, 0, 0, 0]) ⟨_, _, rfl, rfl, _, _, rfl, rfl, _, _, rfl, rfl, _, _, rfl, rfl, _, _, rfl, rfl, _, _, rfl, rfl, _, _, rfl, rfl, _, _, rfl, rfl, _, _, rfl, rfl, _, _, rfl, rfl, rfl, rfl⟩, ?_⟩
        exact ⟨fun z => ⟨(fun e => by cases e), (fun ns e => by cases e)⟩, rfl, rfl⟩
      · exact absurd hd (by simp)
    · have hacc : acc = [(.list (seenL S.length c r)), (.list (seenL S1.length c1 r1)), (.list (seenL S.length c r))] := hI.1
      obtain ⟨_, rfl⟩ := hI
      subst hacc
      have hfit := g.fit S.length
      have hfit1 := g1.fit S1.length
      have hsgl : (seeT (S ++ [(c, r)]))[S.length]? = some (.list (seenL S.length c r)) := seeT_get (x := (c, r)) List.getElem?_concat_length
      have hsg1 := seeT_get hx1
      refine wb_cons (ws_if ?_)
      refine wt_not ?_
      refine wt_val ?_
      refine we_clT (wc_pos c_law_same (by walk_at "room") rfl ?_)
      refine wa_cons ?_
      walk_at "e"
      refine wa_one ?_
      refine we_fz ?_
      refine we_lst ?_
      refine wa_cons ?_
      walk_at "e"
      walk_at "e"
      walk_at "e"
      walk_at "e"
      refine uw_neg ?_
      refine ow_ix (.l _) (atI_last9 hsgl hsl) ?_
      refine wa_cons ?_
      walk_at "e"
      walk_at "e"
      walk_at "e"
      refine ow_ix (.l _) (atI_nat hsg1) ?_
      refine wa_one ?_
      walk_at "e"
      walk_at "e"
      walk_at "e"
      walk_at "e"
      refine uw_neg ?_
      refine ow_ix (.l _) (atI_last9 hsgl hsl) ?_
      refine ⟨[(.list (seenL S.length c r)), (.list (seenL S1.length c1 r1)), (.list (seenL S.length c r))], rfl, by simp, fun p4 => ⟨p4, _, _, rfl, rfl, by walk_at "pl", ?_⟩⟩
      refine ⟨_, (.lend (.mk 0 rfl (litems_pl (by walk_at "pl"))) (.keep .nil)), _, rfl, fit3 hfit hfit1 hfit, rfl, (fun y hy => by cases hy), ?_⟩
      refine ⟨_, rfl, ?_⟩
      refine itF rfl ?_
      refine wb_nil ?_
      refine wb_ord [0, 9, 3, 3, 3, 3, 3, 3, 0, 0, 0] ⟨_, _, rfl, rfl, _, _, rfl, rfl, _, _, rfl, rfl, _, _, rfl, rfl, _, _, rfl, rfl, _, _, rfl, rfl, _, _, rfl, rfl, _, _, rfl, rfl, _, _, rfl, rfl, _, _, rfl, rfl, _, _, rfl, rfl, rfl, rfl⟩ ?_
      refine wb_cons ?_
      with_reducible refine ws_for [6] PassesOwn.never (by with_unfolding_all rfl) ?_ (hs := by with_unfolding_all (intro _; rfl)) (hw := by with_unfolding_all rfl)
      refine wi_seq ?_
      refine we_tup ?_
      refine wa_cons ?_
      walk_at "e"
      refine wa_cons ?_
      walk_at "e"
      refine wa_one ?_
      walk_at "e"
      refine ⟨intsD [2, 0, 1], rfl, by simp, ?_⟩
      refine ⟨_, .t _, fun i δ' μ' => ∃ Sa ca ra La Sb cb rb Lb Sc cc rc Lc bs9 x6, δ' = [some (.a b), some (.a p), some (.d (.list (seeT (S ++ [(c, r)])))), some (.d (.int ((S1.length : Nat) : Int))), some (.m ph1 false ([ptr p, ptr hp1, ptr hp2])), some (.a pdu), x6, none, none, none, none] ∧ μ' = ((([(pdu, [PyData.list (seenL Sa.length ca ra), PyData.list (seenL Sb.length cb rb), PyData.list (seenL Sc.length cc rc)]), (b, Cont.l bs9)] : Cells) ++ Hall c_Gathering p a l (Sa ++ [(ca, ra)]) La ++ Hall c_Gathering hp1 ha1 hl1 (Sb ++ [(cb, rb)]) Lb ++ Hall c_Gathering hp2 ha2 hl2 (Sc ++ [(cc, rc)]) Lc) : Cells) ∧ Ar S1 c1 r1 i Sa ca ra La Sb cb rb Lb Sc cc rc Lc ∧ BoxOk (m + 1 + 100 * i) bs9, ⟨S, c, r, L, S1, c1, r1, [], S, c, r, [], bs1, _, rfl, rfl, ⟨hG, hG1, hG, by omega, by omega, by omega, by omega, by simp, by simp, fun _ => ⟨rfl, rfl, rfl⟩, fun z => by omega⟩, hb1⟩, fun i d δ' μ' hd hI => ?_, fun δ' μ' hI => ?_⟩
      · obtain ⟨Sa, ca, ra, La, Sb, cb, rb, Lb, Sc, cc, rc, Lc, bs9, x6, rfl, rfl, hA, hb9⟩ := hI
        have ga := hA.a.lastG
        have gb := hA.b.lastG
        have gc := hA.c.lastG
        have hcoa := ga.co
        have hcob := gb.co
        have hcoc := gc.co
        have hla := hA.a.lastL
        have hlb := hA.b.lastL
        have hlc := hA.c.lastL
        have hra := ga.p.len
        have hrb := gb.p.len
        have hrc := gc.p.len
        have hna := hA.na
        have hnb := hA.nb
        have hnc := hA.nc
        have hma := hA.ma
        have hmb := hA.mb
        have hmc := hA.mc
        rcases i with _ | _ | _ | i
        · cases hd
          refine wg_name 6 sc_apart_right_l.nd n6 (by walk_at "loc") (by first | exact .inl rfl | exact .inr rfl) (by decide) ?_
          refine wb_cons (ws_expr ?_)
          refine we_clS [1, 7, 7, 7] (wc_pos c_law_led (by walk_at "room") rfl ?_)
          refine wa_cons ?_
          walk_at "e"
          refine wa_one ?_
          walk_at "e"
          walk_at "e"
          walk_at "e"
          refine ow_ixM (atI_nat (j := 2) rfl) (.p _) ?_
          refine ⟨_, _, ⟨_, _, rfl, rfl, _, _, rfl, rfl, _, _, rfl, rfl, _, _, rfl, rfl, rfl, rfl⟩, ?_⟩
          refine ⟨b, bs9, _, hp2, ha2, hl2, Sc, cc, rc, Lc, rfl, rfl, hb9, gc, hlc, by first | omega | (simp only [List.length_append, List.length_cons, List.length_nil, lgs_len]; omega), by first | omega | (simp only [List.length_append, List.length_cons, List.length_nil, lgs_len]; omega), by omega, fun c9 r9 w9 bs2 g9 hl9 hw9 hb2 => ?_⟩
          have hco9 := g9.co
          have hr9 := g9.p.len
          refine wb_cons ?_
          refine ws_asg [] ?_
          refine we_fz ?_
          refine we_clS [1, 1, 1] (wc_pos c_law_seen_of (by walk_at "room") rfl ?_)
          refine wa_one ?_
          walk_at "e"
          walk_at "e"
          walk_at "e"
          refine ow_ixM (atI_nat (j := 2) rfl) (.p _) ?_
          refine ⟨_, _, ⟨_, _, rfl, rfl, _, _, rfl, rfl, _, _, rfl, rfl, rfl, rfl⟩, ?_⟩
          refine ⟨hp2, ha2, hl2, (Sc ++ [(cc, rc)]), c9, r9, (Lc ++ lgs w9), rfl, rfl, hco9, by first | omega | (simp only [List.length_append, List.length_cons, List.length_nil, lgs_len]; omega), fun p5 => ⟨p5, _, _, rfl, rfl, seenL_pl _ _ _, ?_⟩⟩
          refine wg_setL ?_
          walk_at "e"
          walk_at "e"
          refine ⟨_, _, 2, 4, rfl, rfl, rfl, by simp, ?_⟩
          refine wb_cons (ws_if ?_)
          refine wt_not ?_
          refine wt_val ?_
          refine we_clT (wc_pos c_law_same (by walk_at "room") rfl ?_)
          refine wa_cons ?_
          refine we_fz ?_
          refine we_lcM [("_law_some", 10)] rfl sc_apart_right_l.nd (blkOk_by (N := ["_law_box_here", "_law_hall", "_law_seen", "_law_count", "_law_halls", "_law_due", "_law_at", "_law_turn", "_law_mate", "_law_told", "_law_some"]) (sc := defScope s_apart_right_l) (by decide +kernel)) ?_
          refine wip_m ?_
          walk_at "e"
          refine ⟨_, _, rfl, by intro d hd; simp only [List.mem_cons, List.not_mem_nil, or_false] at hd; rcases hd with rfl | rfl | rfl; all_goals exact .inr ⟨_, rfl⟩, ?_⟩
          refine ⟨fun j acc μ' => acc = ([(.list (seenL Sa.length ca ra)), (.list (seenL Sb.length cb rb)), (.list (seenL (Sc ++ [(cc, rc)]).length c9 r9))] : List PyData).take j ∧ μ' = ((Hall c_Gathering hp2 ha2 hl2 ((Sc ++ [(cc, rc)]) ++ [(c9, r9)]) (Lc ++ lgs w9) ++ ([(b, Cont.l bs2), (pdu, [PyData.list (seenL Sa.length ca ra), PyData.list (seenL Sb.length cb rb), PyData.list (seenL (Sc ++ [(cc, rc)]).length c9 r9)])] : Cells) ++ Hall c_Gathering p a l (Sa ++ [(ca, ra)]) La ++ Hall c_Gathering hp1 ha1 hl1 (Sb ++ [(cb, rb)]) Lb) : Cells), ⟨rfl, rfl⟩, (Nat.le_of_ble_eq_true rfl), fun j acc μ' hI => ?_, fun j d acc μ' hd hI => ?_, fun acc μ' hI pz1 => ?_⟩
          · obtain ⟨rfl, _⟩ := hI
            exact List.length_take_le _ _
          · obtain ⟨rfl, rfl⟩ := hI
            rcases j with _ | _ | _ | j
            · cases hd
              intro s1 H1 C cl fp
              refine (show WGo _ _ _ (.a p) _ _ _ from ?_)
              refine wg_name 10 sc_apart_right_l.nd n10 (by walk_at "loc") (by first | exact .inl rfl | exact .inr rfl) (by decide) ?_
              intro s1 H1 C cl fp
              refine wts_nil ?_
              refine itT rfl ?_
              intro s1 H1 C cl fp
              refine we_ordQ ?_
              refine we_fz ?_
              refine we_clS [5, 5, 5] (wc_pos c_law_seen_of (by walk_at "room") rfl ?_)
              refine wa_one ?_
              walk_at "e"
              refine ⟨_, _, ⟨_, _, rfl, rfl, _, _, rfl, rfl, _, _, rfl, rfl, rfl, rfl⟩, ?_⟩
              refine ⟨p, a, l, Sa, ca, ra, La, rfl, rfl, hcoa, by first | omega | (simp only [List.length_append, List.length_cons, List.length_nil, lgs_len]; omega), fun p6 => ⟨p6, _, _, rfl, rfl, seenL_pl _ _ _, ?_⟩⟩
              refine ⟨(Hall c_Gathering hp2 ha2 hl2 ((Sc ++ [(cc, rc)]) ++ [(c9, r9)]) (Lc ++ lgs w9) ++ ([(b, Cont.l bs2), (pdu, [PyData.list (seenL Sa.length ca ra), PyData.list (seenL Sb.length cb rb), PyData.list (seenL (Sc ++ [(cc, rc)]).length c9 r9)])] : Cells) ++ Hall c_Gathering p a l (Sa ++ [(ca, ra)]) La ++ Hall c_Gathering hp1 ha1 hl1 (Sb ++ [(cb, rb)]) Lb), lent_perm (js := [3, 3, 3, 3, 3, 0, 0, 0, 0, 0, 0]) ⟨_, _, rfl, rfl, _, _, rfl, rfl, _, _, rfl, rfl, _, _, rfl, rfl, _, _, rfl, rfl, _, _, rfl, rfl, _, _, rfl, rfl, _, _, rfl, rfl, _, _, rfl, rfl, _, _, rfl, rfl, _, _, rfl, rfl, rfl, rfl⟩, ?_⟩
              exact ⟨fun z => ⟨(fun e => by cases e), (fun ns e => by cases e)⟩, rfl, rfl⟩
            · cases hd
              intro s1 H1 C cl fp
              refine (show WGo _ _ _ (.a hp1) _ _ _ from ?_)
              refine wg_name 10 sc_apart_right_l.nd n10 (by walk_at "loc") (by first | exact .inl rfl | exact .inr rfl) (by decide) ?_
              intro s1 H1 C cl fp
              refine wts_nil ?_
              refine itT rfl ?_
              intro s1 H1 C cl fp
              refine we_ordQ ?_
              refine we_fz ?_
              refine we_clS [8, 8, 8] (wc_pos c_law_seen_of (by walk_at "room") rfl ?_)
              refine wa_one ?_
              walk_at "e"
              refine ⟨_, _, ⟨_, _, rfl, rfl, _, _, rfl, rfl, _, _, rfl, rfl, rfl, rfl⟩, ?_⟩
              refine ⟨hp1, ha1, hl1, Sb, cb, rb, Lb, rfl, rfl, hcob, by first | omega | (simp only [List.length_append, List.length_cons, List.length_nil, lgs_len]; omega), fun p7 => ⟨p7, _, _, rfl, rfl, seenL_pl _ _ _, ?_⟩⟩
              refine ⟨(Hall c_Gathering hp2 ha2 hl2 ((Sc ++ [(cc, rc)]) ++ [(c9, r9)]) (Lc ++ lgs w9) ++ ([(b, Cont.l bs2), (pdu, [PyData.list (seenL Sa.length ca ra), PyData.list (seenL Sb.length cb rb), PyData.list (seenL (Sc ++ [(cc, rc)]).length c9 r9)])] : Cells) ++ Hall c_Gathering p a l (Sa ++ [(ca, ra)]) La ++ Hall c_Gathering hp1 ha1 hl1 (Sb ++ [(cb, rb)]) Lb), lent_perm (js := [3, 3, 3, 3, 3, 3, 3, 3, 0, 0, 0]) ⟨_, _, rfl, rfl, _, _, rfl, rfl, _, _, rfl, rfl, _, _, rfl, rfl, _, _, rfl, rfl, _, _, rfl, rfl, _, _, rfl, rfl, _, _, rfl, rfl, _, _, rfl, rfl, _, _, rfl, rfl, _, _, rfl, rfl, rfl, rfl⟩, ?_⟩
              exact ⟨fun z => ⟨(fun e => by cases e), (fun ns e => by cases e)⟩, rfl, rfl⟩
            · cases hd
              intro s1 H1 C cl fp
              refine (show WGo _ _ _ (.a hp2) _ _ _ from ?_)
              refine wg_name 10 sc_apart_right_l.nd n10 (by walk_at "loc") (by first | exact .inl rfl | exact .inr rfl) (by decide) ?_
              intro s1 H1 C cl fp
              refine wts_nil ?_
              refine itT rfl ?_
              intro s1 H1 C cl fp
              refine we_ordQ ?_
              refine we_fz ?_
              refine we_clS [0, 0, 0] (wc_pos c_law_seen_of (by walk_at "room") rfl ?_)
              refine wa_one ?_
              walk_at "e"
              refine ⟨_, _, ⟨_, _, rfl, rfl, _, _, rfl, rfl, _, _, rfl, rfl, rfl, rfl⟩, ?_⟩
              refine ⟨hp2, ha2, hl2, (Sc ++ [(cc, rc)]), c9, r9, (Lc ++ lgs w9), rfl, rfl, hco9, by first | omega | (simp only [List.length_append, List.length_cons, List.length_nil, lgs_len]; omega), fun p8 => ⟨p8, _, _, rfl, rfl, seenL_pl _ _ _, ?_⟩⟩
              refine ⟨(Hall c_Gathering hp2 ha2 hl2 ((Sc ++ [(cc, rc)]) ++ [(c9, r9)]) (Lc ++ lgs w9) ++ ([(b, Cont.l bs2), (pdu, [PyData.list (seenL Sa.length ca ra), PyData.list (seenL Sb.length cb rb), PyData.list (seenL (Sc ++ [(cc, rc)]).length c9 r9)])] : Cells) ++ Hall c_Gathering p a l (Sa ++ [(ca, ra)]) La ++ Hall c_Gathering hp1 ha1 hl1 (Sb ++ [(cb, rb)]) Lb), lent_perm (js := [0, 0, 0, 0, 0, 0, 0, 0, 0, 0, 0]) ⟨_, _, rfl, rfl, _, _, rfl, rfl, _, _, rfl, rfl, _, _, rfl, rfl, _, _, rfl, rfl, _, _, rfl, rfl, _, _, rfl, rfl, _, _, rfl, rfl, _, _, rfl, rfl, _, _, rfl, rfl, _, _, rfl, rfl, rfl, rfl⟩, ?_⟩
              exact ⟨fun z => ⟨(fun e => by cases e), (fun ns e => by cases e)⟩, rfl, rfl⟩
            · exact absurd hd (by simp)
          · have hacc : acc = [(.list (seenL Sa.length ca ra)), (.list (seenL Sb.length cb rb)), (.list (seenL (Sc ++ [(cc, rc)]).length c9 r9))] := hI.1
            obtain ⟨_, rfl⟩ := hI
            subst hacc
            refine ⟨pz1, _, _, rfl, rfl, by walk_at "pl", ?_⟩
            refine wa_one ?_
            walk_at "e"
            refine ⟨_, (.keep (.lend (.mk 4 rfl (litems_pl (by walk_at "pl"))) .nil)), _, rfl, fit3 (ga.fit _) (gb.fit _) (g9.fit _), rfl, (fun y hy => by cases hy), ?_⟩
            refine ⟨_, rfl, ?_⟩
            refine itF rfl ?_
            refine wb_nil ?_
            refine wb_ord [4, 3, 3, 3, 3, 3, 3, 3, 0, 0, 0] ⟨_, _, rfl, rfl, _, _, rfl, rfl, _, _, rfl, rfl, _, _, rfl, rfl, _, _, rfl, rfl, _, _, rfl, rfl, _, _, rfl, rfl, _, _, rfl, rfl, _, _, rfl, rfl, _, _, rfl, rfl, _, _, rfl, rfl, rfl, rfl⟩ ?_
            refine wb_nil ?_
            exact ⟨Sa, ca, ra, La, Sb, cb, rb, Lb, (Sc ++ [(cc, rc)]), c9, r9, (Lc ++ lgs w9), bs2, _, rfl, rfl, hA.stepC g9 hl9 (by decide), hb2.mono (by omega)⟩
        · cases hd
          refine wg_name 6 sc_apart_right_l.nd n6 (by walk_at "loc") (by first | exact .inl rfl | exact .inr rfl) (by decide) ?_
          refine wb_cons (ws_expr ?_)
          refine we_clS [1, 1, 1, 1] (wc_pos c_law_led (by walk_at "room") rfl ?_)
          refine wa_cons ?_
          walk_at "e"
          refine wa_one ?_
          walk_at "e"
          walk_at "e"
          walk_at "e"
          refine ow_ixM (atI_nat (j := 0) rfl) (.p _) ?_
          refine ⟨_, _, ⟨_, _, rfl, rfl, _, _, rfl, rfl, _, _, rfl, rfl, _, _, rfl, rfl, rfl, rfl⟩, ?_⟩
          refine ⟨b, bs9, _, p, a, l, Sa, ca, ra, La, rfl, rfl, hb9, ga, hla, by first | omega | (simp only [List.length_append, List.length_cons, List.length_nil, lgs_len]; omega), by first | omega | (simp only [List.length_append, List.length_cons, List.length_nil, lgs_len]; omega), by omega, fun c9 r9 w9 bs3 g9 hl9 hw9 hb3 => ?_⟩
          have hco9 := g9.co
          have hr9 := g9.p.len
          refine wb_cons ?_
          refine ws_asg [] ?_
          refine we_fz ?_
          refine we_clS [1, 1, 1] (wc_pos c_law_seen_of (by walk_at "room") rfl ?_)
          refine wa_one ?_
          walk_at "e"
          walk_at "e"
          walk_at "e"
          refine ow_ixM (atI_nat (j := 0) rfl) (.p _) ?_
          refine ⟨_, _, ⟨_, _, rfl, rfl, _, _, rfl, rfl, _, _, rfl, rfl, rfl, rfl⟩, ?_⟩
          refine ⟨p, a, l, (Sa ++ [(ca, ra)]), c9, r9, (La ++ lgs w9), rfl, rfl, hco9, by first | omega | (simp only [List.length_append, List.length_cons, List.length_nil, lgs_len]; omega), fun p9 => ⟨p9, _, _, rfl, rfl, seenL_pl _ _ _, ?_⟩⟩
          refine wg_setL ?_
          walk_at "e"
          walk_at "e"
          refine ⟨_, _, 0, 4, rfl, rfl, rfl, by simp, ?_⟩
          refine wb_cons (ws_if ?_)
          refine wt_not ?_
          refine wt_val ?_
          refine we_clT (wc_pos c_law_same (by walk_at "room") rfl ?_)
          refine wa_cons ?_
          refine we_fz ?_
          refine we_lcM [("_law_some", 10)] rfl sc_apart_right_l.nd (blkOk_by (N := ["_law_box_here", "_law_hall", "_law_seen", "_law_count", "_law_halls", "_law_due", "_law_at", "_law_turn", "_law_mate", "_law_told", "_law_some"]) (sc := defScope s_apart_right_l) (by decide +kernel)) ?_
          refine wip_m ?_
          walk_at "e"
          refine ⟨_, _, rfl, by intro d hd; simp only [List.mem_cons, List.not_mem_nil, or_false] at hd; rcases hd with rfl | rfl | rfl; all_goals exact .inr ⟨_, rfl⟩, ?_⟩
          refine ⟨fun j acc μ' => acc = ([(.list (seenL (Sa ++ [(ca, ra)]).length c9 r9)), (.list (seenL Sb.length cb rb)), (.list (seenL Sc.length cc rc))] : List PyData).take j ∧ μ' = ((Hall c_Gathering p a l ((Sa ++ [(ca, ra)]) ++ [(c9, r9)]) (La ++ lgs w9) ++ ([(b, Cont.l bs3), (pdu, [PyData.list (seenL (Sa ++ [(ca, ra)]).length c9 r9), PyData.list (seenL Sb.length cb rb), PyData.list (seenL Sc.length cc rc)])] : Cells) ++ Hall c_Gathering hp1 ha1 hl1 (Sb ++ [(cb, rb)]) Lb ++ Hall c_Gathering hp2 ha2 hl2 (Sc ++ [(cc, rc)]) Lc) : Cells), ⟨rfl, rfl⟩, (Nat.le_of_ble_eq_true rfl), fun j acc μ' hI => ?_, fun j d acc μ' hd hI => ?_, fun acc μ' hI pz2 => ?_⟩
          · obtain ⟨rfl, _⟩ := hI
            exact List.length_take_le _ _
          · obtain ⟨rfl, rfl⟩ := hI
            rcases j with _ | _ | _ | j
            · cases hd
              intro s1 H1 C cl fp
              refine (show WGo _ _ _ (.a p) _ _ _ from ?_)
              refine wg_name 10 sc_apart_right_l.nd n10 (by walk_at "loc") (by first | exact .inl rfl | exact .inr rfl) (by decide) ?_
              intro s1 H1 C cl fp
              refine wts_nil ?_
              refine itT rfl ?_
              intro s1 H1 C cl fp
              refine we_ordQ ?_
              refine we_fz ?_
              refine we_clS [0, 0, 0] (wc_pos c_law_seen_of (by walk_at "room") rfl ?_)
              refine wa_one ?_
              walk_at "e"
              refine ⟨_, _, ⟨_, _, rfl, rfl, _, _, rfl, rfl, _, _, rfl, rfl, rfl, rfl⟩, ?_⟩
              refine ⟨p, a, l, (Sa ++ [(ca, ra)]), c9, r9, (La ++ lgs w9), rfl, rfl, hco9, by first | omega | (simp only [List.length_append, List.length_cons, List.length_nil, lgs_len]; omega), fun p10 => ⟨p10, _, _, rfl, rfl, seenL_pl _ _ _, ?_⟩⟩
              refine ⟨(Hall c_Gathering p a l ((Sa ++ [(ca, ra)]) ++ [(c9, r9)]) (La ++ lgs w9) ++ ([(b, Cont.l bs3), (pdu, [PyData.list (seenL (Sa ++ [(ca, ra)]).length c9 r9), PyData.list (seenL Sb.length cb rb), PyData.list (seenL Sc.length cc rc)])] : Cells) ++ Hall c_Gathering hp1 ha1 hl1 (Sb ++ [(cb, rb)]) Lb ++ Hall c_Gathering hp2 ha2 hl2 (Sc ++ [(cc, rc)]) Lc), lent_perm (js := [0, 0, 0, 0, 0, 0, 0, 0, 0, 0, 0]) ⟨_, _, rfl, rfl, _, _, rfl, rfl, _, _, rfl, rfl, _, _, rfl, rfl, _, _, rfl, rfl, _, _, rfl, rfl, _, _, rfl, rfl, _, _, rfl, rfl, _, _, rfl, rfl, _, _, rfl, rfl, _, _, rfl, rfl, rfl, rfl⟩, ?_⟩
              exact ⟨fun z => ⟨(fun e => by cases e), (fun ns e => by cases e)⟩, rfl, rfl⟩
            · cases hd
              intro s1 H1 C cl fp
              refine (show WGo _ _ _ (.a hp1) _ _ _ from ?_)
              refine wg_name 10 sc_apart_right_l.nd n10 (by walk_at "loc") (by first | exact .inl rfl | exact .inr rfl) (by decide) ?_
              intro s1 H1 C cl fp
              refine wts_nil ?_
              refine itT rfl ?_
              intro s1 H1 C cl fp
              refine we_ordQ ?_
              refine we_fz ?_
              refine we_clS [5, 5, 5] (wc_pos c_law_seen_of (by walk_at "room") rfl ?_)
              refine wa_one ?_
              walk_at "e"
              refine ⟨_, _, ⟨_, _, rfl, rfl, _, _, rfl, rfl, _, _, rfl, rfl, rfl, rfl⟩, ?_⟩
              refine ⟨hp1, ha1, hl1, Sb, cb, rb, Lb, rfl, rfl, hcob, by first | omega | (simp only [List.length_append, List.length_cons, List.length_nil, lgs_len]; omega), fun p11 => ⟨p11, _, _, rfl, rfl, seenL_pl _ _ _, ?_⟩⟩
              refine ⟨(Hall c_Gathering p a l ((Sa ++ [(ca, ra)]) ++ [(c9, r9)]) (La ++ lgs w9) ++ ([(b, Cont.l bs3), (pdu, [PyData.list (seenL (Sa ++ [(ca, ra)]).length c9 r9), PyData.list (seenL Sb.length cb rb), PyData.list (seenL Sc.length cc rc)])] : Cells) ++ Hall c_Gathering hp1 ha1 hl1 (Sb ++ [(cb, rb)]) Lb ++ Hall c_Gathering hp2 ha2 hl2 (Sc ++ [(cc, rc)]) Lc), lent_perm (js := [3, 3, 3, 3, 3, 0, 0, 0, 0, 0, 0]) ⟨_, _, rfl, rfl, _, _, rfl, rfl, _, _, rfl, rfl, _, _, rfl, rfl, _, _, rfl, rfl, _, _, rfl, rfl, _, _, rfl, rfl, _, _, rfl, rfl, _, _, rfl, rfl, _, _, rfl, rfl, _, _, rfl, rfl, rfl, rfl⟩, ?_⟩
              exact ⟨fun z => ⟨(fun e => by cases e), (fun ns e => by cases e)⟩, rfl, rfl⟩
            · cases hd
              intro s1 H1 C cl fp
              refine (show WGo _ _ _ (.a hp2) _ _ _ from ?_)
              refine wg_name 10 sc_apart_right_l.nd n10 (by walk_at "loc") (by first | exact .inl rfl | exact .inr rfl) (by decide) ?_
              intro s1 H1 C cl fp
              refine wts_nil ?_
              refine itT rfl ?_
              intro s1 H1 C cl fp
              refine we_ordQ ?_
              refine we_fz ?_
              refine we_clS [8, 8, 8] (wc_pos c_law_seen_of (by walk_at "room") rfl ?_)
              refine wa_one ?_
              walk_at "e"
              refine ⟨_, _, ⟨_, _, rfl, rfl, _, _, rfl, rfl, _, _, rfl, rfl, rfl, rfl⟩, ?_⟩
              refine ⟨hp2, ha2, hl2, Sc, cc, rc, Lc, rfl, rfl, hcoc, by first | omega | (simp only [List.length_append, List.length_cons, List.length_nil, lgs_len]; omega), fun p12 => ⟨p12, _, _, rfl, rfl, seenL_pl _ _ _, ?_⟩⟩
              refine ⟨(Hall c_Gathering p a l ((Sa ++ [(ca, ra)]) ++ [(c9, r9)]) (La ++ lgs w9) ++ ([(b, Cont.l bs3), (pdu, [PyData.list (seenL (Sa ++ [(ca, ra)]).length c9 r9), PyData.list (seenL Sb.length cb rb), PyData.list (seenL Sc.length cc rc)])] : Cells) ++ Hall c_Gathering hp1 ha1 hl1 (Sb ++ [(cb, rb)]) Lb ++ Hall c_Gathering hp2 ha2 hl2 (Sc ++ [(cc, rc)]) Lc), lent_perm (js := [3, 3, 3, 3, 3, 3, 3, 3, 0, 0, 0]) ⟨_, _, rfl, rfl, _, _, rfl, rfl, _, _, rfl, rfl, _, _, rfl, rfl, _, _, rfl, rfl, _, _, rfl, rfl, _, _, rfl, rfl, _, _, rfl, rfl, _, _, rfl, rfl, _, _, rfl, rfl, _, _, rfl, rfl, rfl, rfl⟩, ?_⟩
              exact ⟨fun z => ⟨(fun e => by cases e), (fun ns e => by cases e)⟩, rfl, rfl⟩
            · exact absurd hd (by simp)
          · have hacc : acc = [(.list (seenL (Sa ++ [(ca, ra)]).length c9 r9)), (.list (seenL Sb.length cb rb)), (.list (seenL Sc.length cc rc))] := hI.1
            obtain ⟨_, rfl⟩ := hI
            subst hacc
            refine ⟨pz2, _, _, rfl, rfl, by walk_at "pl", ?_⟩
            refine wa_one ?_
            walk_at "e"
            refine ⟨_, (.keep (.lend (.mk 4 rfl (litems_pl (by walk_at "pl"))) .nil)), _, rfl, fit3 (g9.fit _) (gb.fit _) (gc.fit _), rfl, (fun y hy => by cases hy), ?_⟩
            refine ⟨_, rfl, ?_⟩
            refine itF rfl ?_
            refine wb_nil ?_
            refine wb_ord [4, 3, 0, 0, 0, 0, 0, 0, 0, 0, 0] ⟨_, _, rfl, rfl, _, _, rfl, rfl, _, _, rfl, rfl, _, _, rfl, rfl, _, _, rfl, rfl, _, _, rfl, rfl, _, _, rfl, rfl, _, _, rfl, rfl, _, _, rfl, rfl, _, _, rfl, rfl, _, _, rfl, rfl, rfl, rfl⟩ ?_
            refine wb_nil ?_
            exact ⟨(Sa ++ [(ca, ra)]), c9, r9, (La ++ lgs w9), Sb, cb, rb, Lb, Sc, cc, rc, Lc, bs3, _, rfl, rfl, hA.stepA g9 hl9 (by decide), hb3.mono (by omega)⟩
        · cases hd
          refine wg_name 6 sc_apart_right_l.nd n6 (by walk_at "loc") (by first | exact .inl rfl | exact .inr rfl) (by decide) ?_
          refine wb_cons (ws_expr ?_)
          refine we_clS [1, 4, 4, 4] (wc_pos c_law_led (by walk_at "room") rfl ?_)
          refine wa_cons ?_
          walk_at "e"
          refine wa_one ?_
          walk_at "e"
          walk_at "e"
          walk_at "e"
          refine ow_ixM (atI_nat (j := 1) rfl) (.p _) ?_
          refine ⟨_, _, ⟨_, _, rfl, rfl, _, _, rfl, rfl, _, _, rfl, rfl, _, _, rfl, rfl, rfl, rfl⟩, ?_⟩
          refine ⟨b, bs9, _, hp1, ha1, hl1, Sb, cb, rb, Lb, rfl, rfl, hb9, gb, hlb, by first | omega | (simp only [List.length_append, List.length_cons, List.length_nil, lgs_len]; omega), by first | omega | (simp only [List.length_append, List.length_cons, List.length_nil, lgs_len]; omega), by omega, fun c9 r9 w9 bs4 g9 hl9 hw9 hb4 => ?_⟩
          have hco9 := g9.co
          have hr9 := g9.p.len
          refine wb_cons ?_
          refine ws_asg [] ?_
          refine we_fz ?_
          refine we_clS [1, 1, 1] (wc_pos c_law_seen_of (by walk_at "room") rfl ?_)
          refine wa_one ?_
          walk_at "e"
          walk_at "e"
          walk_at "e"
          refine ow_ixM (atI_nat (j := 1) rfl) (.p _) ?_
          refine ⟨_, _, ⟨_, _, rfl, rfl, _, _, rfl, rfl, _, _, rfl, rfl, rfl, rfl⟩, ?_⟩
          refine ⟨hp1, ha1, hl1, (Sb ++ [(cb, rb)]), c9, r9, (Lb ++ lgs w9), rfl, rfl, hco9, by first | omega | (simp only [List.length_append, List.length_cons, List.length_nil, lgs_len]; omega), fun p13 => ⟨p13, _, _, rfl, rfl, seenL_pl _ _ _, ?_⟩⟩
          refine wg_setL ?_
          walk_at "e"
          walk_at "e"
          refine ⟨_, _, 1, 4, rfl, rfl, rfl, by simp, ?_⟩
          refine wb_cons (ws_if ?_)
          refine wt_not ?_
          refine wt_val ?_
          refine we_clT (wc_pos c_law_same (by walk_at "room") rfl ?_)
          refine wa_cons ?_
          refine we_fz ?_
          refine we_lcM [("_law_some", 10)] rfl sc_apart_right_l.nd (blkOk_by (N := ["_law_box_here", "_law_hall", "_law_seen", "_law_count", "_law_halls", "_law_due", "_law_at", "_law_turn", "_law_mate", "_law_told", "_law_some"]) (sc := defScope s_apart_right_l) (by decide +kernel)) ?_
          refine wip_m ?_
          walk_at "e"
          refine ⟨_, _, rfl, by intro d hd; simp only [List.mem_cons, List.not_mem_nil, or_false] at hd; rcases hd with rfl | rfl | rfl; all_goals exact .inr ⟨_, rfl⟩, ?_⟩
          refine ⟨fun j acc μ' => acc = ([(.list (seenL Sa.length ca ra)), (.list (seenL (Sb ++ [(cb, rb)]).length c9 r9)), (.list (seenL Sc.length cc rc))] : List PyData).take j ∧ μ' = ((Hall c_Gathering hp1 ha1 hl1 ((Sb ++ [(cb, rb)]) ++ [(c9, r9)]) (Lb ++ lgs w9) ++ ([(b, Cont.l bs4), (pdu, [PyData.list (seenL Sa.length ca ra), PyData.list (seenL (Sb ++ [(cb, rb)]).length c9 r9), PyData.list (seenL Sc.length cc rc)])] : Cells) ++ Hall c_Gathering p a l (Sa ++ [(ca, ra)]) La ++ Hall c_Gathering hp2 ha2 hl2 (Sc ++ [(cc, rc)]) Lc) : Cells), ⟨rfl, rfl⟩, (Nat.le_of_ble_eq_true rfl), fun j acc μ' hI => ?_, fun j d acc μ' hd hI => ?_, fun acc μ' hI pz3 => ?_⟩
          · obtain ⟨rfl, _⟩ := hI
            exact List.length_take_le _ _
          · obtain ⟨rfl, rfl⟩ := hI
            rcases j with _ | _ | _ | j
            · cases hd
              intro s1 H1 C cl fp
              refine (show WGo _ _ _ (.a p) _ _ _ from ?_)
              refine wg_name 10 sc_apart_right_l.nd n10 (by walk_at "loc") (by first | exact .inl rfl | exact .inr rfl) (by decide) ?_
              intro s1 H1 C cl fp
              refine wts_nil ?_
              refine itT rfl ?_
              intro s1 H1 C cl fp
              refine we_ordQ ?_
              refine we_fz ?_
              refine we_clS [5, 5, 5] (wc_pos c_law_seen_of (by walk_at "room") rfl ?_)
              refine wa_one ?_
              walk_at "e"
              refine ⟨_, _, ⟨_, _, rfl, rfl, _, _, rfl, rfl, _, _, rfl, rfl, rfl, rfl⟩, ?_⟩
              refine ⟨p, a, l, Sa, ca, ra, La, rfl, rfl, hcoa, by first | omega | (simp only [List.length_append, List.length_cons, List.length_nil, lgs_len]; omega), fun p14 => ⟨p14, _, _, rfl, rfl, seenL_pl _ _ _, ?_⟩⟩
              refine ⟨(Hall c_Gathering hp1 ha1 hl1 ((Sb ++ [(cb, rb)]) ++ [(c9, r9)]) (Lb ++ lgs w9) ++ ([(b, Cont.l bs4), (pdu, [PyData.list (seenL Sa.length ca ra), PyData.list (seenL (Sb ++ [(cb, rb)]).length c9 r9), PyData.list (seenL Sc.length cc rc)])] : Cells) ++ Hall c_Gathering p a l (Sa ++ [(ca, ra)]) La ++ Hall c_Gathering hp2 ha2 hl2 (Sc ++ [(cc, rc)]) Lc), lent_perm (js := [3, 3, 3, 3, 3, 0, 0, 0, 0, 0, 0]) ⟨_, _, rfl, rfl, _, _, rfl, rfl, _, _, rfl, rfl, _, _, rfl, rfl, _, _, rfl, rfl, _, _, rfl, rfl, _, _, rfl, rfl, _, _, rfl, rfl, _, _, rfl, rfl, _, _, rfl, rfl, _, _, rfl, rfl, rfl, rfl⟩, ?_⟩
              exact ⟨fun z => ⟨(fun e => by cases e), (fun ns e => by cases e)⟩, rfl, rfl⟩
            · cases hd
              intro s1 H1 C cl fp
              refine (show WGo _ _ _ (.a hp1) _ _ _ from ?_)
              refine wg_name 10 sc_apart_right_l.nd n10 (by walk_at "loc") (by first | exact .inl rfl | exact .inr rfl) (by decide) ?_
              intro s1 H1 C cl fp
              refine wts_nil ?_
              refine itT rfl ?_
              intro s1 H1 C cl fp
              refine we_ordQ ?_
              refine we_fz ?_
              refine we_clS [0, 0, 0] (wc_pos c_law_seen_of (by walk_at "room") rfl ?_)
              refine wa_one ?_
              walk_at "e"
              refine ⟨_, _, ⟨_, _, rfl, rfl, _, _, rfl, rfl, _, _, rfl, rfl, rfl, rfl⟩, ?_⟩
              refine ⟨hp1, ha1, hl1, (Sb ++ [(cb, rb)]), c9, r9, (Lb ++ lgs w9), rfl, rfl, hco9, by first | omega | (simp only [List.length_append, List.length_cons, List.length_nil, lgs_len]; omega), fun p15 => ⟨p15, _, _, rfl, rfl, seenL_pl _ _ _, ?_⟩⟩
              refine ⟨(Hall c_Gathering hp1 ha1 hl1 ((Sb ++ [(cb, rb)]) ++ [(c9, r9)]) (Lb ++ lgs w9) ++ ([(b, Cont.l bs4), (pdu, [PyData.list (seenL Sa.length ca ra), PyData.list (seenL (Sb ++ [(cb, rb)]).length c9 r9), PyData.list (seenL Sc.length cc rc)])] : Cells) ++ Hall c_Gathering p a l (Sa ++ [(ca, ra)]) La ++ Hall c_Gathering hp2 ha2 hl2 (Sc ++ [(cc, rc)]) Lc), lent_perm (js := [0, 0, 0, 0, 0, 0, 0, 0, 0, 0, 0]) ⟨_, _, rfl, rfl, _, _, rfl, rfl, _, _, rfl, rfl, _, _, rfl, rfl, _, _, rfl, rfl, _, _, rfl, rfl, _, _, rfl, rfl, _, _, rfl, rfl, _, _, rfl, rfl, _, _, rfl, rfl, _, _, rfl, rfl, rfl, rfl⟩, ?_⟩
              exact ⟨fun z => ⟨(fun e => by cases e), (fun ns e => by cases e)⟩, rfl, rfl⟩
            · cases hd
              intro s1 H1 C cl fp
              refine (show WGo _ _ _ (.a hp2) _ _ _ from ?_)
              refine wg_name 10 sc_apart_right_l.nd n10 (by walk_at "loc") (by first | exact .inl rfl | exact .inr rfl) (by decide) ?_
              intro s1 H1 C cl fp
              refine wts_nil ?_
              refine itT rfl ?_
              intro s1 H1 C cl fp
              refine we_ordQ ?_
              refine we_fz ?_
              refine we_clS [8, 8, 8] (wc_pos c_law_seen_of (by walk_at "room") rfl ?_)
              refine wa_one ?_
              walk_at "e"
              refine ⟨_, _, ⟨_, _, rfl, rfl, _, _, rfl, rfl, _, _, rfl, rfl, rfl, rfl⟩, ?_⟩
              refine ⟨hp2, ha2, hl2, Sc, cc, rc, Lc, rfl, rfl, hcoc, by first | omega | (simp only [List.length_append, List.length_cons, List.length_nil, lgs_len]; omega), fun p16 => ⟨p16, _, _, rfl, rfl, seenL_pl _ _ _, ?_⟩⟩
              refine ⟨(Hall c_Gathering hp1 ha1 hl1 ((Sb ++ [(cb, rb)]) ++ [(c9, r9)]) (Lb ++ lgs w9) ++ ([(b, Cont.l bs4), (pdu, [PyData.list (seenL Sa.length ca ra), PyData.list (seenL (Sb ++ [(cb, rb)]).length c9 r9), PyData.list (seenL Sc.length cc rc)])] : Cells) ++ Hall c_Gathering p a l (Sa ++ [(ca, ra)]) La ++ Hall c_Gathering hp2 ha2 hl2 (Sc ++ [(cc, rc)]) Lc), lent_perm (js := [3, 3, 3, 3, 3, 3, 3, 3, 0, 0, 0]) ⟨_, _, rfl, rfl, _, _, rfl, rfl, _, _, rfl, rfl, _, _, rfl, rfl, _, _, rfl, rfl, _, _, rfl, rfl, _, _, rfl, rfl, _, _, rfl, rfl, _, _, rfl, rfl, _, _, rfl, rfl, _, _, rfl, rfl, rfl, rfl⟩, ?_⟩
              exact ⟨fun z => ⟨(fun e => by cases e), (fun ns e => by cases e)⟩, rfl, rfl⟩
            · exact absurd hd (by simp)
          · have hacc : acc = [(.list (seenL Sa.length ca ra)), (.list (seenL (Sb ++ [(cb, rb)]).length c9 r9)), (.list (seenL Sc.length cc rc))] := hI.1
            obtain ⟨_, rfl⟩ := hI
            subst hacc
            refine ⟨pz3, _, _, rfl, rfl, by walk_at "pl", ?_⟩
            refine wa_one ?_
            walk_at "e"
            refine ⟨_, (.keep (.lend (.mk 4 rfl (litems_pl (by walk_at "pl"))) .nil)), _, rfl, fit3 (ga.fit _) (g9.fit _) (gc.fit _), rfl, (fun y hy => by cases hy), ?_⟩
            refine ⟨_, rfl, ?_⟩
            refine itF rfl ?_
            refine wb_nil ?_
            refine wb_ord [4, 3, 3, 3, 3, 0, 0, 0, 0, 0, 0] ⟨_, _, rfl, rfl, _, _, rfl, rfl, _, _, rfl, rfl, _, _, rfl, rfl, _, _, rfl, rfl, _, _, rfl, rfl, _, _, rfl, rfl, _, _, rfl, rfl, _, _, rfl, rfl, _, _, rfl, rfl, _, _, rfl, rfl, rfl, rfl⟩ ?_
            refine wb_nil ?_
            exact ⟨Sa, ca, ra, La, (Sb ++ [(cb, rb)]), c9, r9, (Lb ++ lgs w9), Sc, cc, rc, Lc, bs4, _, rfl, rfl, hA.stepB g9 hl9, hb4.mono (by omega)⟩
        · exact absurd hd (by simp)
      · obtain ⟨Sa, ca, ra, La, Sb, cb, rb, Lb, Sc, cc, rc, Lc, bs9, x6, rfl, rfl, hA, hb9⟩ := hI
        have hA : Ar S1 c1 r1 3 Sa ca ra La Sb cb rb Lb Sc cc rc Lc := hA
        have hb9 : BoxOk (m + 1 + 100 * 3) bs9 := hb9
        have ga := hA.a.lastG
        have gb := hA.b.lastG
        have gc := hA.c.lastG
        have hcoa := ga.co
        have hcob := gb.co
        have hcoc := gc.co
        have hla := hA.a.lastL
        have hlb := hA.b.lastL
        have hlc := hA.c.lastL
        have hra := ga.p.len
        have hrb := gb.p.len
        have hrc := gc.p.len
        have hna := hA.na
        have hnb := hA.nb
        have hnc := hA.nc
        have hma := hA.ma
        have hmb := hA.mb
        have hmc := hA.mc
        have hSb := hA.b1 (by decide)
        subst hSb
        obtain ⟨S0, c0, r0, hT0, hS0, hx0⟩ := take_pick (T := S ++ [(c, r)]) (k := 0) (by rw [List.length_append, List.length_singleton]; omega)
        obtain rfl : S0 = [] := List.eq_nil_of_length_eq_zero hS0
        have hg0 : Good c0 r0 := (hG (c0, r0) (List.mem_of_getElem? hx0)).1
        have hco0 := hg0.co
        have hl0 := hg0.l
        have hr0 := hg0.p.len
        have hsg0 := seeT_get hx0
        refine wb_cons ?_
        refine ws_for [7] PassesOwn.never rfl ?_
        refine wi_range1 rfl B.range ?_
        refine wa_one ?_
        walk_at "e"
        refine we_clS [2, 2, 2] (wc_mt0 m_operations ocl (by walk_at "room") ?_)
        walk_at "e"
        refine ⟨p, ⟨rfl, _, List.mem_of_getElem? (i := 2) rfl, hall_no (by decide +kernel) (by decide +kernel)⟩, ?_⟩
        refine ⟨_, _, ⟨_, _, rfl, rfl, _, _, rfl, rfl, _, _, rfl, rfl, rfl, rfl⟩, ?_⟩
        refine ⟨p, a, l, Sa, (ca, ra), La, rfl, rfl, ?_⟩
        refine we_max2 B rfl rfl ?_
        walk_at "e"
        walk_at "e"
        walk_at "e"
        walk_at "e"
        refine ow_sub ?_
        refine ⟨_, _, rfl, rfl, ?_⟩
        refine ow_sub ?_
        obtain ⟨N, hN, hN1, hN2⟩ : ∃ N : Int, (((Sa.length : Nat) : Int) - (if 0 < (((S1.length : Nat) : Int) - 1) then (((S1.length : Nat) : Int) - 1) else 0)) = N ∧ -100000 ≤ N ∧ N ≤ 60 := ⟨_, rfl, by split <;> omega, by split <;> omega⟩
        rw [hN]
        refine ⟨N, rfl, hN1, by omega, fun i δ' μ' => ∃ S5 c5 r5 L5 x6 x7, δ' = [some (.a b), some (.a p), some (.d (.list (seeT (S ++ [(c, r)])))), some (.d (.int ((S1.length : Nat) : Int))), some (.m ph1 false ([ptr p, ptr hp1, ptr hp2])), some (.a pdu), x6, x7, none, none, none] ∧ μ' = ((Hall c_Gathering p a l (S5 ++ [(c5, r5)]) L5 ++ ([(pdu, [PyData.list (seenL Sa.length ca ra), PyData.list (seenL (S1 ++ [(c1, r1)]).length cb rb), PyData.list (seenL Sc.length cc rc)]), (b, Cont.l bs9)] : Cells) ++ Hall c_Gathering hp1 ha1 hl1 ((S1 ++ [(c1, r1)]) ++ [(cb, rb)]) Lb ++ Hall c_Gathering hp2 ha2 hl2 (Sc ++ [(cc, rc)]) Lc) : Cells) ∧ Gd (S5 ++ [(c5, r5)]) ∧ S5.length ≤ 60 ∧ L5.length ≤ 500 + 2 * i, ⟨Sa, ca, ra, La, _, _, rfl, rfl, hA.a, by omega, by omega⟩, fun i d δ' μ' hd hI => ?_, fun δ' μ' hI => ?_⟩
        · obtain ⟨S5, c5, r5, L5, x6, x7, rfl, rfl, hG5, hS5, hL5⟩ := hI
          have hi9 := (List.getElem?_eq_some_iff.mp hd).1
          rw [rangeD_len] at hi9
          rw [rangeD_get hi9] at hd
          cases hd
          refine wg_name 7 sc_apart_right_l.nd n7 (by walk_at "loc") (by first | exact .inl rfl | exact .inr rfl) (by decide) ?_
          rcases snoc_cases S5 with rfl | ⟨S6, ⟨c6, r6⟩, rfl⟩
          · skip
            refine wb_cons (ws_expr ?_)
            refine we_clS [0, 0, 0] (wc_mt0 m_undo ocl (by walk_at "room") ?_)
            walk_at "e"
            refine ⟨p, ⟨rfl, _, List.mem_of_getElem? (i := 0) rfl, hall_no (by decide +kernel) (by decide +kernel)⟩, ?_⟩
            refine ⟨_, _, ⟨_, _, rfl, rfl, _, _, rfl, rfl, _, _, rfl, rfl, rfl, rfl⟩, ?_⟩
            refine ⟨p, a, l, ([] : List (Co × List Int)), (c5, r5), L5, rfl, rfl, by first | omega | (simp only [List.length_append, List.length_cons, List.length_nil, lgs_len]; omega), by first | omega | (simp only [List.length_append, List.length_cons, List.length_nil, lgs_len]; omega), ?_⟩
            rw [show unS ([] : List (Co × List Int)) (c5, r5) = ([] : List (Co × List Int)) ++ [(c5, r5)] from rfl]
            refine wb_nil ?_
            exact ⟨([] : List (Co × List Int)), c5, r5, (L5 ++ lgs "undo"), _, _, rfl, rfl, hG5, by simp, by rw [List.length_append, lgs_len]; omega⟩
          · skip
            refine wb_cons (ws_expr ?_)
            refine we_clS [0, 0, 0] (wc_mt0 m_undo ocl (by walk_at "room") ?_)
            walk_at "e"
            refine ⟨p, ⟨rfl, _, List.mem_of_getElem? (i := 0) rfl, hall_no (by decide +kernel) (by decide +kernel)⟩, ?_⟩
            refine ⟨_, _, ⟨_, _, rfl, rfl, _, _, rfl, rfl, _, _, rfl, rfl, rfl, rfl⟩, ?_⟩
            refine ⟨p, a, l, (S6 ++ [(c6, r6)]), (c5, r5), L5, rfl, rfl, by first | omega | (simp only [List.length_append, List.length_cons, List.length_nil, lgs_len]; omega), by first | omega | (simp only [List.length_append, List.length_cons, List.length_nil, lgs_len]; omega), ?_⟩
            rw [show unS (S6 ++ [(c6, r6)]) (c5, r5) = S6 ++ [(c6, r6)] from unS_pop]
            refine wb_nil ?_
            exact ⟨S6, c6, r6, (L5 ++ lgs "undo"), _, _, rfl, rfl, hG5.init, by rw [List.length_append] at hS5; omega, by rw [List.length_append, lgs_len]; omega⟩
        · obtain ⟨S5, c5, r5, L5, x6, x7, rfl, rfl, hG5, hS5, hL5⟩ := hI
          rw [rangeD_len] at hL5
          have g5 := hG5.lastG
          have hl5 := hG5.lastL
          have hco5 := g5.co
          have g6 : Good (c5 ++ [([], 0)]) r5 := g5.add List.Pairwise.nil (fun _ z => by cases z) (by decide) (by decide) (by omega)
          have hco6 := g6.co
          have hr5 := g5.p.len
          have hc5 : c5.length < 20 := by omega
          refine wb_cons (ws_expr ?_)
          refine we_x0 ?_
          refine wex_clS [0, 0, 0] (wcx_mt m_add_person takes0 ocl (by walk_at "room") ?_)
          walk_at "e"
          refine ⟨p, ⟨rfl, _, List.mem_of_getElem? (i := 0) rfl, hall_no (by decide +kernel) (by decide +kernel)⟩, ?_⟩
          refine wa_cons ?_
          refine we_tup ?_
          refine wa_nil ?_
          refine ⟨[], rfl, by simp, ?_⟩
          refine wa_one ?_
          walk_at "e"
          refine ⟨_, _, ⟨_, _, rfl, rfl, _, _, rfl, rfl, _, _, rfl, rfl, rfl, rfl⟩, ?_⟩
          refine ⟨p, a, l, S5, c5, r5, L5, _, [], 0, rfl, rfl, .inr rfl, hco5, by first | omega | (simp only [List.length_append, List.length_cons, List.length_nil, lgs_len]; omega), by first | omega | (simp only [List.length_append, List.length_cons, List.length_nil, lgs_len]; omega), (fun q z => by cases z), by first | omega | (simp only [List.length_append, List.length_cons, List.length_nil, lgs_len]; omega), by first | omega | (simp only [List.length_append, List.length_cons, List.length_nil, lgs_len]; omega), fun zx1 zx2 => ?_, fun _ z => (by rw [(rfl : bad _ [] = none)] at z; cases z), fun _ z => absurd z (by have := hc5; omega)⟩
          clear zx1 zx2
          refine wb_cons (ws_expr ?_)
          refine we_clS [0, 0, 0] (wc_mt0 m_meet ocl (by walk_at "room") ?_)
          walk_at "e"
          refine ⟨p, ⟨rfl, _, List.mem_of_getElem? (i := 0) rfl, hall_no (by decide +kernel) (by decide +kernel)⟩, ?_⟩
          refine ⟨_, _, ⟨_, _, rfl, rfl, _, _, rfl, rfl, _, _, rfl, rfl, rfl, rfl⟩, ?_⟩
          refine ⟨p, a, l, (S5 ++ [(c5, r5)]), (c5 ++ [([], 0)]), r5, (L5 ++ lgs "add_person"), rfl, rfl, hco6, by first | omega | (simp only [List.length_append, List.length_cons, List.length_nil, lgs_len]; omega), by first | omega | (simp only [List.length_append, List.length_cons, List.length_nil, lgs_len]; omega), by first | omega | (simp only [List.length_append, List.length_cons, List.length_nil, lgs_len]; omega), by first | omega | (simp only [List.length_append, List.length_cons, List.length_nil, lgs_len]; omega), fun p17 => ?_⟩
          refine wb_dropAt 0 rfl ?_
          refine wb_cons (ws_if ?_)
          refine wt_not ?_
          refine wt_val ?_
          refine we_callP c_law_same (by walk_at "room") rfl ?_
          refine wa_cons ?_
          refine we_fz ?_
          refine we_lcM [("_law_some", 10)] rfl sc_apart_right_l.nd (blkOk_by (N := ["_law_box_here", "_law_hall", "_law_seen", "_law_count", "_law_halls", "_law_due", "_law_at", "_law_turn", "_law_mate", "_law_told", "_law_some"]) (sc := defScope s_apart_right_l) (by decide +kernel)) ?_
          refine wip_m ?_
          refine we_slM ?_
          walk_at "e"
          refine wo_some ?_
          walk_at "e"
          refine ⟨_, rfl, ?_⟩
          refine wo_none ?_
          refine ⟨_, _, rfl, fun pq1 => ?_⟩
          refine ⟨_, [ptr hp1, ptr hp2], rfl, by intro d hd; simp only [List.mem_cons, List.not_mem_nil, or_false] at hd; rcases hd with rfl | rfl; all_goals exact .inr ⟨_, rfl⟩, ?_⟩
          refine ⟨fun j acc μ' => acc = ([(.list (seenL (S1 ++ [(c1, r1)]).length cb rb)), (.list (seenL Sc.length cc rc))] : List PyData).take j ∧ μ' = ((Hall c_Gathering p a l (((S5 ++ [(c5, r5)]) ++ [((c5 ++ [([], 0)]), r5)]) ++ [((c5 ++ [([], 0)]), (r5 ++ nexts (c5 ++ [([], 0)]) r5))]) ((L5 ++ lgs "add_person") ++ lgs "meet") ++ ([(pdu, [PyData.list (seenL Sa.length ca ra), PyData.list (seenL (S1 ++ [(c1, r1)]).length cb rb), PyData.list (seenL Sc.length cc rc)]), (b, Cont.l bs9)] : Cells) ++ Hall c_Gathering hp1 ha1 hl1 ((S1 ++ [(c1, r1)]) ++ [(cb, rb)]) Lb ++ Hall c_Gathering hp2 ha2 hl2 (Sc ++ [(cc, rc)]) Lc) : Cells), ⟨rfl, rfl⟩, (Nat.le_of_ble_eq_true rfl), fun j acc μ' hI => ?_, fun j d acc μ' hd hI => ?_, fun acc μ' hI pz4 => ?_⟩
          · obtain ⟨rfl, _⟩ := hI
            exact List.length_take_le _ _
          · obtain ⟨rfl, rfl⟩ := hI
            rcases j with _ | _ | j
            · cases hd
              intro s1 H1 C cl fp
              refine (show WGo _ _ _ (.a hp1) _ _ _ from ?_)
              refine wg_name 10 sc_apart_right_l.nd n10 (by walk_at "loc") (by first | exact .inl rfl | exact .inr rfl) (by decide) ?_
              intro s1 H1 C cl fp
              refine wts_nil ?_
              refine itT rfl ?_
              intro s1 H1 C cl fp
              refine we_ordQ ?_
              refine we_fz ?_
              refine we_clS [5, 5, 5] (wc_pos c_law_seen_of (by walk_at "room") rfl ?_)
              refine wa_one ?_
              walk_at "e"
              refine ⟨_, _, ⟨_, _, rfl, rfl, _, _, rfl, rfl, _, _, rfl, rfl, rfl, rfl⟩, ?_⟩
              refine ⟨hp1, ha1, hl1, (S1 ++ [(c1, r1)]), cb, rb, Lb, rfl, rfl, hcob, by first | omega | (simp only [List.length_append, List.length_cons, List.length_nil, lgs_len]; omega), fun p18 => ⟨p18, _, _, rfl, rfl, seenL_pl _ _ _, ?_⟩⟩
              refine ⟨(Hall c_Gathering p a l (((S5 ++ [(c5, r5)]) ++ [((c5 ++ [([], 0)]), r5)]) ++ [((c5 ++ [([], 0)]), (r5 ++ nexts (c5 ++ [([], 0)]) r5))]) ((L5 ++ lgs "add_person") ++ lgs "meet") ++ ([(pdu, [PyData.list (seenL Sa.length ca ra), PyData.list (seenL (S1 ++ [(c1, r1)]).length cb rb), PyData.list (seenL Sc.length cc rc)]), (b, Cont.l bs9)] : Cells) ++ Hall c_Gathering hp1 ha1 hl1 ((S1 ++ [(c1, r1)]) ++ [(cb, rb)]) Lb ++ Hall c_Gathering hp2 ha2 hl2 (Sc ++ [(cc, rc)]) Lc), lent_perm (js := [3, 3, 3, 3, 3, 0, 0, 0, 0, 0, 0]) ⟨_, _, rfl, rfl, _, _, rfl, rfl, _, _, rfl, rfl, _, _, rfl, rfl, _, _, rfl, rfl, _, _, rfl, rfl, _, _, rfl, rfl, _, _, rfl, rfl, _, _, rfl, rfl, _, _, rfl, rfl, _, _, rfl, rfl, rfl, rfl⟩, ?_⟩
              exact ⟨fun z => ⟨(fun e => by cases e), (fun ns e => by cases e)⟩, rfl, rfl⟩
            · cases hd
              intro s1 H1 C cl fp
              refine (show WGo _ _ _ (.a hp2) _ _ _ from ?_)
              refine wg_name 10 sc_apart_right_l.nd n10 (by walk_at "loc") (by first | exact .inl rfl | exact .inr rfl) (by decide) ?_
              intro s1 H1 C cl fp
              refine wts_nil ?_
              refine itT rfl ?_
              intro s1 H1 C cl fp
              refine we_ordQ ?_
              refine we_fz ?_
              refine we_clS [8, 8, 8] (wc_pos c_law_seen_of (by walk_at "room") rfl ?_)
              refine wa_one ?_
              walk_at "e"
              refine ⟨_, _, ⟨_, _, rfl, rfl, _, _, rfl, rfl, _, _, rfl, rfl, rfl, rfl⟩, ?_⟩
              refine ⟨hp2, ha2, hl2, Sc, cc, rc, Lc, rfl, rfl, hcoc, by first | omega | (simp only [List.length_append, List.length_cons, List.length_nil, lgs_len]; omega), fun p19 => ⟨p19, _, _, rfl, rfl, seenL_pl _ _ _, ?_⟩⟩
              refine ⟨(Hall c_Gathering p a l (((S5 ++ [(c5, r5)]) ++ [((c5 ++ [([], 0)]), r5)]) ++ [((c5 ++ [([], 0)]), (r5 ++ nexts (c5 ++ [([], 0)]) r5))]) ((L5 ++ lgs "add_person") ++ lgs "meet") ++ ([(pdu, [PyData.list (seenL Sa.length ca ra), PyData.list (seenL (S1 ++ [(c1, r1)]).length cb rb), PyData.list (seenL Sc.length cc rc)]), (b, Cont.l bs9)] : Cells) ++ Hall c_Gathering hp1 ha1 hl1 ((S1 ++ [(c1, r1)]) ++ [(cb, rb)]) Lb ++ Hall c_Gathering hp2 ha2 hl2 (Sc ++ [(cc, rc)]) Lc), lent_perm (js := [3, 3, 3, 3, 3, 3, 3, 3, 0, 0, 0]) ⟨_, _, rfl, rfl, _, _, rfl, rfl, _, _, rfl, rfl, _, _, rfl, rfl, _, _, rfl, rfl, _, _, rfl, rfl, _, _, rfl, rfl, _, _, rfl, rfl, _, _, rfl, rfl, _, _, rfl, rfl, _, _, rfl, rfl, rfl, rfl⟩, ?_⟩
              exact ⟨fun z => ⟨(fun e => by cases e), (fun ns e => by cases e)⟩, rfl, rfl⟩
            · exact absurd hd (by simp)
          · have hacc : acc = [(.list (seenL (S1 ++ [(c1, r1)]).length cb rb)), (.list (seenL Sc.length cc rc))] := hI.1
            obtain ⟨_, rfl⟩ := hI
            subst hacc
            refine ⟨pz4, _, _, rfl, rfl, by walk_at "pl", ?_⟩
            refine wa_one ?_
            refine we_fz ?_
            refine we_slL ?_
            walk_at "e"
            refine wo_some ?_
            walk_at "e"
            refine ⟨_, rfl, ?_⟩
            refine wo_none ?_
            refine ⟨_, (.c 3 rfl), (fun _ z => by cases z), ?_⟩
            skip
            refine fun p20 => ⟨p20, _, _, rfl, rfl, by walk_at "pl", ?_⟩
            refine ⟨_, rfl, fit2 (gb.fit _) (gc.fit _), ?_⟩
            refine ⟨_, rfl, ?_⟩
            refine itF rfl ?_
            refine wb_nil ?_
            have hnb9 := hA.nb
            have hS1l : (S1 ++ [(c1, r1)]).length ≤ 60 := by omega
            refine wb_cons ?_
            refine ws_set 8 sc_apart_right_l.nd n8 (by walk_at "loc") (by first | exact .inl rfl | exact .inr rfl) ?_
            walk_at "e"
            walk_at "e"
            walk_at "e"
            refine ow_ixM (atI_nat (j := 1) rfl) (.p _) ?_
            refine wb_cons ?_
            refine ws_set 9 sc_apart_right_l.nd n9 (by walk_at "loc") (by first | exact .inl rfl | exact .inr rfl) ?_
            refine we_fz ?_
            refine we_lst ?_
            refine wa_cons ?_
            refine we_fz ?_
            refine we_clS [0, 0, 0] (wc_pos c_law_seen_of (by walk_at "room") rfl ?_)
            refine wa_one ?_
            refine we_clS [5, 5, 5] (wc_mt0 m_twin ocl (by walk_at "room") ?_)
            walk_at "e"
            refine ⟨hp1, ⟨rfl, _, List.mem_of_getElem? (i := 5) rfl, hall_no (by decide +kernel) (by decide +kernel)⟩, ?_⟩
            refine ⟨_, _, ⟨_, _, rfl, rfl, _, _, rfl, rfl, _, _, rfl, rfl, rfl, rfl⟩, ?_⟩
            refine ⟨hp1, ha1, hl1, (S1 ++ [(c1, r1)]), (cb, rb), Lb, rfl, rfl, by first | omega | (simp only [List.length_append, List.length_cons, List.length_nil, lgs_len]; omega), fun hp3 ha3 hl3 => ?_⟩
            refine ⟨_, _, ⟨_, _, rfl, rfl, _, _, rfl, rfl, _, _, rfl, rfl, rfl, rfl⟩, ?_⟩
            refine ⟨hp3, ha3, hl3, (S1 ++ [(c1, r1)]), cb, rb, [], rfl, rfl, hcob, by first | omega | (simp only [List.length_append, List.length_cons, List.length_nil, lgs_len]; omega), fun p21 => ⟨p21, _, _, rfl, rfl, seenL_pl _ _ _, ?_⟩⟩
            refine wa_cons ?_
            refine we_fz ?_
            refine we_clS [0, 0, 0] (wc_pos c_law_seen_of (by walk_at "room") rfl ?_)
            refine wa_one ?_
            refine we_x0 (wex_clS [3, 3, 3] (wcx_mt m_as_of takes0 ocl (by walk_at "room") ?_))
            walk_at "e"
            refine ⟨hp1, ⟨rfl, _, List.mem_of_getElem? (i := 3) rfl, hall_no (by decide +kernel) (by decide +kernel)⟩, ?_⟩
            refine wa_one ?_
            walk_at "e"
            refine ⟨_, _, ⟨_, _, rfl, rfl, _, _, rfl, rfl, _, _, rfl, rfl, rfl, rfl⟩, ?_⟩
            refine ⟨hp1, ha1, hl1, (S1 ++ [(c1, r1)]), (cb, rb), Lb, ((S1.length : Nat) : Int), rfl, rfl, by first | omega | (simp only [List.length_append, List.length_cons, List.length_nil, lgs_len]; omega), log_nat (by omega), fun nn hq hn hp4 ha4 hl4 => ?_, fun z => absurd ⟨by omega, by have := (show S1.length ≤ (S1 ++ [(c1, r1)]).length by rw [List.length_append]; omega); omega⟩ z⟩
            rw [show nn = S1.length from by omega, take_in _ _ _]
            refine ⟨_, _, ⟨_, _, rfl, rfl, _, _, rfl, rfl, _, _, rfl, rfl, rfl, rfl⟩, ?_⟩
            refine ⟨hp4, ha4, hl4, S1, c1, r1, [], rfl, rfl, hco1, by first | omega | (simp only [List.length_append, List.length_cons, List.length_nil, lgs_len]; omega), fun p22 => ⟨p22, _, _, rfl, rfl, seenL_pl _ _ _, ?_⟩⟩
            refine wa_one ?_
            refine we_fz ?_
            refine we_clS [0, 0, 0] (wc_pos c_law_seen_of (by walk_at "room") rfl ?_)
            refine wa_one ?_
            refine we_x0 (wex_clS [3, 3, 3] (wcx_mt m_as_of takes0 ocl (by walk_at "room") ?_))
            walk_at "e"
            refine ⟨hp1, ⟨rfl, _, List.mem_of_getElem? (i := 3) rfl, hall_no (by decide +kernel) (by decide +kernel)⟩, ?_⟩
            refine wa_one ?_
            walk_at "e"
            refine ⟨_, _, ⟨_, _, rfl, rfl, _, _, rfl, rfl, _, _, rfl, rfl, rfl, rfl⟩, ?_⟩
            refine ⟨hp1, ha1, hl1, (S1 ++ [(c1, r1)]), (cb, rb), Lb, 0, rfl, rfl, by first | omega | (simp only [List.length_append, List.length_cons, List.length_nil, lgs_len]; omega), log42 (by decide) (by decide), fun nn hq hn hp5 ha5 hl5 => ?_, fun z => absurd ⟨by omega, by have := (show 0 ≤ (S1 ++ [(c1, r1)]).length from Nat.zero_le _); omega⟩ z⟩
            rw [show nn = 0 from by omega, take_first hT1 hT0]
            refine ⟨_, _, ⟨_, _, rfl, rfl, _, _, rfl, rfl, _, _, rfl, rfl, rfl, rfl⟩, ?_⟩
            refine ⟨hp5, ha5, hl5, ([] : List (Co × List Int)), c0, r0, [], rfl, rfl, hco0, by first | omega | (simp only [List.length_append, List.length_cons, List.length_nil, lgs_len]; omega), fun p23 => ⟨p23, _, _, rfl, rfl, seenL_pl _ _ _, ?_⟩⟩
            refine ⟨[(.list (seenL (S1 ++ [(c1, r1)]).length cb rb)), (.list (seenL S1.length c1 r1)), (.list (seenL ([] : List (Co × List Int)).length c0 r0))], rfl, by simp, fun p24 => ⟨p24, _, _, rfl, rfl, by walk_at "pl", ?_⟩⟩
            refine wb_cons (ws_if ?_)
            refine wt_not ?_
            refine wt_val ?_
            refine we_callP c_law_same (by walk_at "room") rfl ?_
            refine wa_cons ?_
            walk_at "e"
            refine wa_one ?_
            refine we_fz ?_
            refine we_lst ?_
            refine wa_cons ?_
            walk_at "e"
            walk_at "e"
            walk_at "e"
            refine ow_ix (.c 15 rfl) (atI_nat (j := 1) rfl) ?_
            refine wa_cons ?_
            walk_at "e"
            walk_at "e"
            walk_at "e"
            refine ow_ix (.l _) (atI_nat hsg1) ?_
            refine wa_one ?_
            walk_at "e"
            walk_at "e"
            walk_at "e"
            refine ow_ix (.l _) (atI_nat (j := 0) hsg0) ?_
            refine ⟨[(.list (seenL (S1 ++ [(c1, r1)]).length cb rb)), (.list (seenL S1.length c1 r1)), (.list (seenL 0 c0 r0))], rfl, by simp, fun p25 => ⟨p25, _, _, rfl, rfl, by walk_at "pl", ?_⟩⟩
            refine ⟨_, rfl, fit3 (gb.fit _) hfit1 (hg0.fit _), ?_⟩
            refine ⟨_, rfl, ?_⟩
            refine itF rfl ?_
            refine wb_nil ?_
            refine wb_one (ws_ret ?_)
            refine we_and ?_
            refine we_cmp (op := .Is) op_is_bl (nomark _) ?_
            refine we_clS [3, 3, 3] (wc_mt0 m_undo ocl (by walk_at "room") ?_)
            walk_at "e"
            refine ⟨hp1, ⟨rfl, _, List.mem_of_getElem? (i := 3) rfl, hall_no (by decide +kernel) (by decide +kernel)⟩, ?_⟩
            refine ⟨_, _, ⟨_, _, rfl, rfl, _, _, rfl, rfl, _, _, rfl, rfl, rfl, rfl⟩, ?_⟩
            refine ⟨hp1, ha1, hl1, (S1 ++ [(c1, r1)]), (cb, rb), Lb, rfl, rfl, by first | omega | (simp only [List.length_append, List.length_cons, List.length_nil, lgs_len]; omega), by first | omega | (simp only [List.length_append, List.length_cons, List.length_nil, lgs_len]; omega), ?_⟩
            rw [show unS (S1 ++ [(c1, r1)]) (cb, rb) = S1 ++ [(c1, r1)] from unS_pop]
            walk_at "e"
            refine ow_isB ?_
            refine ⟨_, rfl, itT (undo_t3) ?_⟩
            refine we_one ?_
            refine we_callP c_law_same (by walk_at "room") rfl ?_
            refine wa_cons ?_
            refine we_fz ?_
            refine we_clS [0, 0, 0] (wc_pos c_law_seen_of (by walk_at "room") rfl ?_)
            refine wa_one ?_
            walk_at "e"
            refine ⟨_, _, ⟨_, _, rfl, rfl, _, _, rfl, rfl, _, _, rfl, rfl, rfl, rfl⟩, ?_⟩
            refine ⟨hp1, ha1, hl1, S1, c1, r1, (Lb ++ lgs "undo"), rfl, rfl, hco1, by first | omega | (simp only [List.length_append, List.length_cons, List.length_nil, lgs_len]; omega), fun p26 => ⟨p26, _, _, rfl, rfl, seenL_pl _ _ _, ?_⟩⟩
            refine wa_one ?_
            walk_at "e"
            walk_at "e"
            walk_at "e"
            refine ow_ix (.l _) (atI_nat hsg1) ?_
            refine ⟨_, rfl, fits_mono hfit1 (by decide), ?_⟩
            exact keep_mid (A := (Hall c_Gathering hp1 ha1 hl1 (S1 ++ [(c1, r1)]) (Lb ++ lgs "undo") ++ Hall c_Gathering hp5 ha5 hl5 (([] : List (Co × List Int)) ++ [(c0, r0)]) ([]) ++ Hall c_Gathering hp4 ha4 hl4 (S1 ++ [(c1, r1)]) ([]) ++ Hall c_Gathering hp3 ha3 hl3 ((S1 ++ [(c1, r1)]) ++ [(cb, rb)]) ([]) ++ Hall c_Gathering p a l (((S5 ++ [(c5, r5)]) ++ [((c5 ++ [([], 0)]), r5)]) ++ [((c5 ++ [([], 0)]), (r5 ++ nexts (c5 ++ [([], 0)]) r5))]) ((L5 ++ lgs "add_person") ++ lgs "meet") ++ ([(pdu, [PyData.list (seenL Sa.length ca ra), PyData.list (seenL (S1 ++ [(c1, r1)]).length cb rb), PyData.list (seenL Sc.length cc rc)])] : Cells))) (B := (([(b, Cont.l bs9)] : Cells))) (C := (Hall c_Gathering hp2 ha2 hl2 (Sc ++ [(cc, rc)]) Lc)) (hR _ (hb9.mono (by omega)))
theorem ok_equal_right_l {f : Addr} {fd : FuncData} (F : Fun K "_law_equal_right" "_law_equal_right" s_equal_right_l f fd) (B : Bl mg) (m_twin : CalM P w K mg base 5 c_Gathering "twin" (T_twin c_Gathering)) (ocl : L2.Cls K c_Gathering) (m_eq : CalM P w K mg base 1 c_Gathering "__eq__" (T_heq42 c_Gathering)) (one_ : ONe K c_Gathering) (m_add_person : CalMX P w K mg base 4 c_Gathering "add_person" (T_addp c_Gathering c_NoPerson c_Full)) (m_come_all : CalMX P w K mg base 5 c_Gathering "come_all" (T_call c_Gathering c_NoPerson c_Here c_Early)) (m_company : CalM P w K mg base 1 c_Gathering "company" (T_comp c_Gathering)) (c_ini : CalI P w K mg base 2 "Gathering" c_Gathering (T_init2 c_Gathering)) (m_undo : CalM P w K mg base 2 c_Gathering "undo" (T_undo c_Gathering)) (m_came : CalM P w K mg base 1 c_Gathering "came" (T_came c_Gathering)) (m_repr : CalM P w K mg base 4 c_Gathering "__repr__" (T_hrepr c_Gathering)) (ki : OKi K c_Gathering) : FnG P w K mg base CX0 8 f fd ["_law_hall"] (spW K (T_er42 c_Gathering)) := by
  refine fn_w F sc_equal_right_l (by decide) (fun xs μ R h => ?_) fun cdv A outer s H E hr hgd xs μ R hT => ?_
  · obtain ⟨p, a, l, S, c, r, L, rfl, _⟩ := h
    rfl
  · obtain ⟨p, a, l, S, c, r, L, rfl, rfl, g, hl, hS, hL, hR⟩ := hT
    refine wb_names (N := ["_law_hall", "_law_twin", "_law_size", "_law_other_twin", "_law_others", "_law_some"]) rfl fun hn => ?_
    have n0 := hn 0 _ rfl
    have n1 := hn 1 _ rfl
    have n2 := hn 2 _ rfl
    have n3 := hn 3 _ rfl
    have n4 := hn 4 _ rfl
    have n5 := hn 5 _ rfl
    have hco := g.co
    have hrl := g.p.len
    have hE := er_of g hl
    have hco1 := hE.g1.co
    have hco2 := hE.g2.co
    have hc0 : c.length < 20 := by omega
    have hc1 : (c ++ [(([] : List Int), (0 : Int))]).length < 20 := by rw [List.length_append, List.length_singleton]; omega
    refine wb_cons ?_
    refine ws_set 1 sc_equal_right_l.nd n1 (by walk_at "loc") (by first | exact .inl rfl | exact .inr rfl) ?_
    refine we_clS [0, 0, 0] (wc_mt0 m_twin ocl (by walk_at "room") ?_)
    walk_at "e"
    refine ⟨p, ⟨rfl, _, List.mem_of_getElem? (i := 0) rfl, hall_no (by decide +kernel) (by decide +kernel)⟩, ?_⟩
    refine ⟨_, _, ⟨_, _, rfl, rfl, _, _, rfl, rfl, _, _, rfl, rfl, rfl, rfl⟩, ?_⟩
    refine ⟨p, a, l, S, (c, r), L, rfl, rfl, by first | omega | (simp only [List.length_append, List.length_cons, List.length_nil, lgs_len]; omega), fun hp1 ha1 hl1 => ?_⟩
    refine wb_cons (ws_if ?_)
    refine wt_w ?_
    refine ww_or ?_
    refine wt_cmp (op := .NotEq) (op_neO m_eq one_ (by walk_at "room") (by assumption) rfl) (nomark _) ?_
    walk_at "e"
    walk_at "e"
    refine ow_neO [0, 0, 0, 0, 0, 0] ⟨hp1, p, _, _, _, _, rfl, rfl, List.mem_of_getElem? (i := 0) rfl, List.mem_of_getElem? (i := 3) rfl, ⟨_, _, rfl, rfl, _, _, rfl, rfl, _, _, rfl, rfl, _, _, rfl, rfl, _, _, rfl, rfl, _, _, rfl, rfl, rfl, rfl⟩, .inl ⟨hp1, ha1, hl1, S, (c, r), [], p, a, l, S, (c, r), L, rfl, rfl, hco, hco, by first | omega | (simp only [List.length_append, List.length_cons, List.length_nil, lgs_len]; omega), by first | omega | (simp only [List.length_append, List.length_cons, List.length_nil, lgs_len]; omega), by first | omega | (simp only [List.length_append, List.length_cons, List.length_nil, lgs_len]; omega), by first | omega | (simp only [List.length_append, List.length_cons, List.length_nil, lgs_len]; omega), _, rfl, ⟨_, rfl, ?_⟩⟩⟩
    refine itF (by rw [er_eq]; rfl) ?_
    refine ww_or1 ?_
    refine wt_not ?_
    refine wt_cmp (op := .Eq) (op_eqO m_eq (by walk_at "room") (by assumption) rfl) (nomark _) ?_
    walk_at "e"
    walk_at "e"
    refine ow_eqO [0, 0, 0, 0, 0, 0] ⟨hp1, p, _, _, _, _, rfl, rfl, List.mem_of_getElem? (i := 0) rfl, List.mem_of_getElem? (i := 3) rfl, ⟨_, _, rfl, rfl, _, _, rfl, rfl, _, _, rfl, rfl, _, _, rfl, rfl, _, _, rfl, rfl, _, _, rfl, rfl, rfl, rfl⟩, .inl ⟨hp1, ha1, hl1, S, (c, r), [], p, a, l, S, (c, r), L, rfl, rfl, hco, hco, by first | omega | (simp only [List.length_append, List.length_cons, List.length_nil, lgs_len]; omega), by first | omega | (simp only [List.length_append, List.length_cons, List.length_nil, lgs_len]; omega), by first | omega | (simp only [List.length_append, List.length_cons, List.length_nil, lgs_len]; omega), by first | omega | (simp only [List.length_append, List.length_cons, List.length_nil, lgs_len]; omega), _, rfl, ⟨_, rfl, ?_⟩⟩⟩
    refine itF (by rw [er_eq]; rfl) ?_
    refine wb_nil ?_
    refine wb_cons ?_
    refine ws_set 2 sc_equal_right_l.nd n2 (by walk_at "loc") (by first | exact .inl rfl | exact .inr rfl) ?_
    refine we_x0 ?_
    refine wex_clS [0, 0, 0] (wcx_mt m_add_person takes0 ocl (by walk_at "room") ?_)
    walk_at "e"
    refine ⟨hp1, ⟨rfl, _, List.mem_of_getElem? (i := 0) rfl, hall_no (by decide +kernel) (by decide +kernel)⟩, ?_⟩
    refine wa_cons ?_
    refine we_tup ?_
    refine wa_nil ?_
    refine ⟨[], rfl, by simp, ?_⟩
    refine wa_one ?_
    walk_at "e"
    refine ⟨_, _, ⟨_, _, rfl, rfl, _, _, rfl, rfl, _, _, rfl, rfl, rfl, rfl⟩, ?_⟩
    refine ⟨hp1, ha1, hl1, S, c, r, [], _, [], 0, rfl, rfl, .inr rfl, hco, by first | omega | (simp only [List.length_append, List.length_cons, List.length_nil, lgs_len]; omega), by first | omega | (simp only [List.length_append, List.length_cons, List.length_nil, lgs_len]; omega), (fun q z => by cases z), by first | omega | (simp only [List.length_append, List.length_cons, List.length_nil, lgs_len]; omega), by first | omega | (simp only [List.length_append, List.length_cons, List.length_nil, lgs_len]; omega), fun zx1 zx2 => ?_, fun _ z => (by rw [(rfl : bad _ [] = none)] at z; cases z), fun _ z => absurd z (by have := hc0; omega)⟩
    clear zx1 zx2
    refine wb_cons (ws_if ?_)
    refine wt_w ?_
    refine ww_or ?_
    refine wt_cmp (op := .Eq) (op_eqO m_eq (by walk_at "room") (by assumption) rfl) (nomark _) ?_
    walk_at "e"
    walk_at "e"
    refine ow_eqO [0, 0, 0, 0, 0, 0] ⟨hp1, p, _, _, _, _, rfl, rfl, List.mem_of_getElem? (i := 0) rfl, List.mem_of_getElem? (i := 3) rfl, ⟨_, _, rfl, rfl, _, _, rfl, rfl, _, _, rfl, rfl, _, _, rfl, rfl, _, _, rfl, rfl, _, _, rfl, rfl, rfl, rfl⟩, .inl ⟨hp1, ha1, hl1, (S ++ [(c, r)]), ((c ++ [([], 0)]), r), ([] ++ lgs "add_person"), p, a, l, S, (c, r), L, rfl, rfl, hco1, hco, by first | omega | (simp only [List.length_append, List.length_cons, List.length_nil, lgs_len]; omega), by first | omega | (simp only [List.length_append, List.length_cons, List.length_nil, lgs_len]; omega), by first | omega | (simp only [List.length_append, List.length_cons, List.length_nil, lgs_len]; omega), by first | omega | (simp only [List.length_append, List.length_cons, List.length_nil, lgs_len]; omega), _, rfl, ⟨_, rfl, ?_⟩⟩⟩
    refine itF (er_ne1) ?_
    refine ww_or1 ?_
    refine wt_not ?_
    refine wt_cmp (op := .NotEq) (op_neO m_eq one_ (by walk_at "room") (by assumption) rfl) (nomark _) ?_
    walk_at "e"
    walk_at "e"
    refine ow_neO [0, 0, 0, 0, 0, 0] ⟨hp1, p, _, _, _, _, rfl, rfl, List.mem_of_getElem? (i := 0) rfl, List.mem_of_getElem? (i := 3) rfl, ⟨_, _, rfl, rfl, _, _, rfl, rfl, _, _, rfl, rfl, _, _, rfl, rfl, _, _, rfl, rfl, _, _, rfl, rfl, rfl, rfl⟩, .inl ⟨hp1, ha1, hl1, (S ++ [(c, r)]), ((c ++ [([], 0)]), r), ([] ++ lgs "add_person"), p, a, l, S, (c, r), L, rfl, rfl, hco1, hco, by first | omega | (simp only [List.length_append, List.length_cons, List.length_nil, lgs_len]; omega), by first | omega | (simp only [List.length_append, List.length_cons, List.length_nil, lgs_len]; omega), by first | omega | (simp only [List.length_append, List.length_cons, List.length_nil, lgs_len]; omega), by first | omega | (simp only [List.length_append, List.length_cons, List.length_nil, lgs_len]; omega), _, rfl, ⟨_, rfl, ?_⟩⟩⟩
    refine itF (by rw [er_ne1]; rfl) ?_
    refine wb_nil ?_
    refine wb_cons ?_
    refine ws_set 3 sc_equal_right_l.nd n3 (by walk_at "loc") (by first | exact .inl rfl | exact .inr rfl) ?_
    refine we_clS [0, 0, 0] (wc_mt0 m_twin ocl (by walk_at "room") ?_)
    walk_at "e"
    refine ⟨hp1, ⟨rfl, _, List.mem_of_getElem? (i := 0) rfl, hall_no (by decide +kernel) (by decide +kernel)⟩, ?_⟩
    refine ⟨_, _, ⟨_, _, rfl, rfl, _, _, rfl, rfl, _, _, rfl, rfl, rfl, rfl⟩, ?_⟩
    refine ⟨hp1, ha1, hl1, (S ++ [(c, r)]), ((c ++ [([], 0)]), r), ([] ++ lgs "add_person"), rfl, rfl, by first | omega | (simp only [List.length_append, List.length_cons, List.length_nil, lgs_len]; omega), fun hp2 ha2 hl2 => ?_⟩
    refine wb_cons (ws_expr ?_)
    refine we_x0 ?_
    refine wex_clS [3, 3, 3] (wcx_mt m_add_person takes0 ocl (by walk_at "room") ?_)
    walk_at "e"
    refine ⟨hp1, ⟨rfl, _, List.mem_of_getElem? (i := 3) rfl, hall_no (by decide +kernel) (by decide +kernel)⟩, ?_⟩
    refine wa_cons ?_
    refine we_tup ?_
    refine wa_nil ?_
    refine ⟨[], rfl, by simp, ?_⟩
    refine wa_one ?_
    walk_at "e"
    refine ⟨_, _, ⟨_, _, rfl, rfl, _, _, rfl, rfl, _, _, rfl, rfl, rfl, rfl⟩, ?_⟩
    refine ⟨hp1, ha1, hl1, (S ++ [(c, r)]), (c ++ [([], 0)]), r, ([] ++ lgs "add_person"), _, [], 0, rfl, rfl, .inr rfl, hco1, by first | omega | (simp only [List.length_append, List.length_cons, List.length_nil, lgs_len]; omega), by first | omega | (simp only [List.length_append, List.length_cons, List.length_nil, lgs_len]; omega), (fun q z => by cases z), by first | omega | (simp only [List.length_append, List.length_cons, List.length_nil, lgs_len]; omega), by first | omega | (simp only [List.length_append, List.length_cons, List.length_nil, lgs_len]; omega), fun zx1 zx2 => ?_, fun _ z => (by rw [(rfl : bad _ [] = none)] at z; cases z), fun _ z => absurd z (by have := hc1; omega)⟩
    clear zx1 zx2
    refine wb_cons (ws_expr ?_)
    refine we_x0 ?_
    refine wex_clS [3, 3, 3] (wcx_mt m_add_person takes0 ocl (by walk_at "room") ?_)
    walk_at "e"
    refine ⟨hp2, ⟨rfl, _, List.mem_of_getElem? (i := 3) rfl, hall_no (by decide +kernel) (by decide +kernel)⟩, ?_⟩
    refine wa_cons ?_
    refine we_tup ?_
    refine wa_nil ?_
    refine ⟨[], rfl, by simp, ?_⟩
    refine wa_one ?_
    walk_at "e"
    refine ⟨_, _, ⟨_, _, rfl, rfl, _, _, rfl, rfl, _, _, rfl, rfl, rfl, rfl⟩, ?_⟩
    refine ⟨hp2, ha2, hl2, (S ++ [(c, r)]), (c ++ [([], 0)]), r, [], _, [], 0, rfl, rfl, .inr rfl, hco1, by first | omega | (simp only [List.length_append, List.length_cons, List.length_nil, lgs_len]; omega), by first | omega | (simp only [List.length_append, List.length_cons, List.length_nil, lgs_len]; omega), (fun q z => by cases z), by first | omega | (simp only [List.length_append, List.length_cons, List.length_nil, lgs_len]; omega), by first | omega | (simp only [List.length_append, List.length_cons, List.length_nil, lgs_len]; omega), fun zx1 zx2 => ?_, fun _ z => (by rw [(rfl : bad _ [] = none)] at z; cases z), fun _ z => absurd z (by have := hc1; omega)⟩
    clear zx1 zx2
    refine wb_cons (ws_expr ?_)
    refine we_x0 ?_
    refine wex_clS [3, 3, 3] (wcx_mt m_come_all takes0 ocl (by walk_at "room") ?_)
    walk_at "e"
    refine ⟨hp1, ⟨rfl, _, List.mem_of_getElem? (i := 3) rfl, hall_no (by decide +kernel) (by decide +kernel)⟩, ?_⟩
    refine wa_one ?_
    refine we_fz ?_
    refine we_lst ?_
    refine wa_cons ?_
    walk_at "e"
    refine wa_one ?_
    walk_at "e"
    walk_at "e"
    walk_at "e"
    refine ow_add ?_
    refine ⟨intsD [((c.length : Nat) : Int), (((c.length : Nat) : Int) + 1)], rfl, by simp, fun p1 => ⟨p1, _, _, rfl, rfl, by walk_at "pl", ?_⟩⟩
    refine ⟨_, _, ⟨_, _, rfl, rfl, _, _, rfl, rfl, _, _, rfl, rfl, rfl, rfl⟩, ?_⟩
    refine ⟨hp1, ha1, hl1, ((S ++ [(c, r)]) ++ [((c ++ [([], 0)]), r)]), ((c ++ [([], 0)]) ++ [([], 0)]), r, (([] ++ lgs "add_person") ++ lgs "add_person"), _, [((c.length : Nat) : Int), (((c.length : Nat) : Int) + 1)], rfl, rfl, .inl rfl, hco2, by first | omega | (simp only [List.length_append, List.length_cons, List.length_nil, lgs_len]; omega), by first | omega | (simp only [List.length_append, List.length_cons, List.length_nil, lgs_len]; omega), hE.lo, by first | omega | (simp only [List.length_append, List.length_cons, List.length_nil, lgs_len]; omega), by first | omega | (simp only [List.length_append, List.length_cons, List.length_nil, lgs_len]; omega), fun zx1 => ?_, fun z => absurd (hE.l1.symm.trans z) (by decide), fun z => absurd (hE.l1.symm.trans z) (by decide), fun z => absurd (hE.l1.symm.trans z) (by decide)⟩
    clear zx1
    refine wb_cons (ws_expr ?_)
    refine we_x0 ?_
    refine wex_clS [3, 3, 3] (wcx_mt m_come_all takes0 ocl (by walk_at "room") ?_)
    walk_at "e"
    refine ⟨hp2, ⟨rfl, _, List.mem_of_getElem? (i := 3) rfl, hall_no (by decide +kernel) (by decide +kernel)⟩, ?_⟩
    refine wa_one ?_
    refine we_fz ?_
    refine we_lst ?_
    refine wa_cons ?_
    walk_at "e"
    walk_at "e"
    walk_at "e"
    refine ow_add ?_
    refine wa_one ?_
    walk_at "e"
    refine ⟨intsD [(((c.length : Nat) : Int) + 1), ((c.length : Nat) : Int)], rfl, by simp, fun p2 => ⟨p2, _, _, rfl, rfl, by walk_at "pl", ?_⟩⟩
    refine ⟨_, _, ⟨_, _, rfl, rfl, _, _, rfl, rfl, _, _, rfl, rfl, rfl, rfl⟩, ?_⟩
    refine ⟨hp2, ha2, hl2, ((S ++ [(c, r)]) ++ [((c ++ [([], 0)]), r)]), ((c ++ [([], 0)]) ++ [([], 0)]), r, ([] ++ lgs "add_person"), _, [(((c.length : Nat) : Int) + 1), ((c.length : Nat) : Int)], rfl, rfl, .inl rfl, hco2, by first | omega | (simp only [List.length_append, List.length_cons, List.length_nil, lgs_len]; omega), by first | omega | (simp only [List.length_append, List.length_cons, List.length_nil, lgs_len]; omega), hE.lp, by first | omega | (simp only [List.length_append, List.length_cons, List.length_nil, lgs_len]; omega), by first | omega | (simp only [List.length_append, List.length_cons, List.length_nil, lgs_len]; omega), fun zx1 => ?_, fun z => absurd (hE.l2.symm.trans z) (by decide), fun z => absurd (hE.l2.symm.trans z) (by decide), fun z => absurd (hE.l2.symm.trans z) (by decide)⟩
    clear zx1
    refine wb_cons (ws_if ?_)
    refine wt_w ?_
    refine ww_or ?_
    refine wt_cmp (op := .Eq) (op_eqO m_eq (by walk_at "room") (by assumption) rfl) (nomark _) ?_
    walk_at "e"
    walk_at "e"
    refine ow_eqO [3, 3, 3, 0, 0, 0] ⟨hp1, hp2, _, _, _, _, rfl, rfl, List.mem_of_getElem? (i := 3) rfl, List.mem_of_getElem? (i := 0) rfl, ⟨_, _, rfl, rfl, _, _, rfl, rfl, _, _, rfl, rfl, _, _, rfl, rfl, _, _, rfl, rfl, _, _, rfl, rfl, rfl, rfl⟩, .inl ⟨hp1, ha1, hl1, (((S ++ [(c, r)]) ++ [((c ++ [([], 0)]), r)]) ++ [(((c ++ [([], 0)]) ++ [([], 0)]), r)]), (((c ++ [([], 0)]) ++ [([], 0)]), (r ++ [((c.length : Nat) : Int), (((c.length : Nat) : Int) + 1)])), ((([] ++ lgs "add_person") ++ lgs "add_person") ++ lgs "come_all"), hp2, ha2, hl2, (((S ++ [(c, r)]) ++ [((c ++ [([], 0)]), r)]) ++ [(((c ++ [([], 0)]) ++ [([], 0)]), r)]), (((c ++ [([], 0)]) ++ [([], 0)]), (r ++ [(((c.length : Nat) : Int) + 1), ((c.length : Nat) : Int)])), (([] ++ lgs "add_person") ++ lgs "come_all"), rfl, rfl, hco2, hco2, by first | omega | (simp only [List.length_append, List.length_cons, List.length_nil, lgs_len]; omega), by first | omega | (simp only [List.length_append, List.length_cons, List.length_nil, lgs_len]; omega), by first | omega | (simp only [List.length_append, List.length_cons, List.length_nil, lgs_len]; omega), by first | omega | (simp only [List.length_append, List.length_cons, List.length_nil, lgs_len]; omega), _, rfl, ⟨_, rfl, ?_⟩⟩⟩
    refine itF (er_ne2) ?_
    refine ww_or ?_
    refine wt_cmp (op := .NotEq) (op_neD (Room.units (k := 0) (by with_unfolding_all exact Room.mono (by assumption) (Nat.zero_le _)))) (nomark _) ?_
    refine we_clS [0, 0, 0] (wc_mt0 m_company ocl (by walk_at "room") ?_)
    walk_at "e"
    refine ⟨hp1, ⟨rfl, _, List.mem_of_getElem? (i := 0) rfl, hall_no (by decide +kernel) (by decide +kernel)⟩, ?_⟩
    refine ⟨_, _, ⟨_, _, rfl, rfl, _, _, rfl, rfl, _, _, rfl, rfl, rfl, rfl⟩, ?_⟩
    refine ⟨hp1, ha1, hl1, (((S ++ [(c, r)]) ++ [((c ++ [([], 0)]), r)]) ++ [(((c ++ [([], 0)]) ++ [([], 0)]), r)]), ((c ++ [([], 0)]) ++ [([], 0)]), (r ++ [((c.length : Nat) : Int), (((c.length : Nat) : Int) + 1)]), ((([] ++ lgs "add_person") ++ lgs "add_person") ++ lgs "come_all"), rfl, rfl, ?_⟩
    refine we_clS [3, 3, 3] (wc_mt0 m_company ocl (by walk_at "room") ?_)
    walk_at "e"
    refine ⟨hp2, ⟨rfl, _, List.mem_of_getElem? (i := 3) rfl, hall_no (by decide +kernel) (by decide +kernel)⟩, ?_⟩
    refine ⟨_, _, ⟨_, _, rfl, rfl, _, _, rfl, rfl, _, _, rfl, rfl, rfl, rfl⟩, ?_⟩
    refine ⟨hp2, ha2, hl2, (((S ++ [(c, r)]) ++ [((c ++ [([], 0)]), r)]) ++ [(((c ++ [([], 0)]) ++ [([], 0)]), r)]), ((c ++ [([], 0)]) ++ [([], 0)]), (r ++ [(((c.length : Nat) : Int) + 1), ((c.length : Nat) : Int)]), (([] ++ lgs "add_person") ++ lgs "come_all"), rfl, rfl, ?_⟩
    refine ow_ne (.d _) (.d _) hE.g2.cos hE.g2.cos ⟨_, rfl, ?_⟩
    rw [eqv_co9, decide_eq_true rfl]
    refine itF (rfl) ?_
    refine ww_or1 ?_
    refine wt_cmp (op := .Eq) (op_eqO m_eq (by walk_at "room") (by assumption) rfl) (nomark _) ?_
    refine we_mk c_ini (by walk_at "room") rfl ?_
    refine wa_one ?_
    refine we_clS [3, 3, 3] (wc_mt0 m_company ocl (by walk_at "room") ?_)
    walk_at "e"
    refine ⟨hp1, ⟨rfl, _, List.mem_of_getElem? (i := 3) rfl, hall_no (by decide +kernel) (by decide +kernel)⟩, ?_⟩
    refine ⟨_, _, ⟨_, _, rfl, rfl, _, _, rfl, rfl, _, _, rfl, rfl, rfl, rfl⟩, ?_⟩
    refine ⟨hp1, ha1, hl1, (((S ++ [(c, r)]) ++ [((c ++ [([], 0)]), r)]) ++ [(((c ++ [([], 0)]) ++ [([], 0)]), r)]), ((c ++ [([], 0)]) ++ [([], 0)]), (r ++ [((c.length : Nat) : Int), (((c.length : Nat) : Int) + 1)]), ((([] ++ lgs "add_person") ++ lgs "add_person") ++ lgs "come_all"), rfl, rfl, ?_⟩
    refine fun hp3 => .inl ⟨hp3, _, ((c ++ [([], 0)]) ++ [([], 0)]), rfl, rfl, hco2, fun ha3 hl3 => ⟨rfl, ?_⟩⟩
    walk_at "e"
    refine ow_eqO [0, 0, 0, 0, 0, 0] ⟨hp3, hp1, _, _, _, _, rfl, rfl, List.mem_of_getElem? (i := 0) rfl, List.mem_of_getElem? (i := 3) rfl, ⟨_, _, rfl, rfl, _, _, rfl, rfl, _, _, rfl, rfl, _, _, rfl, rfl, _, _, rfl, rfl, _, _, rfl, rfl, rfl, rfl⟩, .inl ⟨hp3, ha3, hl3, [], (((c ++ [([], 0)]) ++ [([], 0)]), []), [], hp1, ha1, hl1, (((S ++ [(c, r)]) ++ [((c ++ [([], 0)]), r)]) ++ [(((c ++ [([], 0)]) ++ [([], 0)]), r)]), (((c ++ [([], 0)]) ++ [([], 0)]), (r ++ [((c.length : Nat) : Int), (((c.length : Nat) : Int) + 1)])), ((([] ++ lgs "add_person") ++ lgs "add_person") ++ lgs "come_all"), rfl, rfl, hco2, hco2, by first | omega | (simp only [List.length_append, List.length_cons, List.length_nil, lgs_len]; omega), by first | omega | (simp only [List.length_append, List.length_cons, List.length_nil, lgs_len]; omega), by first | omega | (simp only [List.length_append, List.length_cons, List.length_nil, lgs_len]; omega), by first | omega | (simp only [List.length_append, List.length_cons, List.length_nil, lgs_len]; omega), _, rfl, ⟨_, rfl, ?_⟩⟩⟩
    refine itF (er_ne3) ?_
    refine wb_nil ?_
    refine wb_cons (ws_expr ?_)
    refine we_clS [3, 3, 3] (wc_mt0 m_undo ocl (by walk_at "room") ?_)
    walk_at "e"
    refine ⟨hp1, ⟨rfl, _, List.mem_of_getElem? (i := 3) rfl, hall_no (by decide +kernel) (by decide +kernel)⟩, ?_⟩
    refine ⟨_, _, ⟨_, _, rfl, rfl, _, _, rfl, rfl, _, _, rfl, rfl, rfl, rfl⟩, ?_⟩
    refine ⟨hp1, ha1, hl1, (((S ++ [(c, r)]) ++ [((c ++ [([], 0)]), r)]) ++ [(((c ++ [([], 0)]) ++ [([], 0)]), r)]), (((c ++ [([], 0)]) ++ [([], 0)]), (r ++ [((c.length : Nat) : Int), (((c.length : Nat) : Int) + 1)])), ((([] ++ lgs "add_person") ++ lgs "add_person") ++ lgs "come_all"), rfl, rfl, by first | omega | (simp only [List.length_append, List.length_cons, List.length_nil, lgs_len]; omega), by first | omega | (simp only [List.length_append, List.length_cons, List.length_nil, lgs_len]; omega), ?_⟩
    rw [show unS (((S ++ [(c, r)]) ++ [((c ++ [([], 0)]), r)]) ++ [(((c ++ [([], 0)]) ++ [([], 0)]), r)]) (((c ++ [([], 0)]) ++ [([], 0)]), (r ++ [((c.length : Nat) : Int), (((c.length : Nat) : Int) + 1)])) = (S ++ [(c, r)] ++ [((c ++ [([], 0)]), r)]) ++ [(((c ++ [([], 0)]) ++ [([], 0)]), r)] from unS_pop]
    refine wb_cons (ws_expr ?_)
    refine we_clS [6, 6, 6] (wc_mt0 m_undo ocl (by walk_at "room") ?_)
    walk_at "e"
    refine ⟨hp2, ⟨rfl, _, List.mem_of_getElem? (i := 6) rfl, hall_no (by decide +kernel) (by decide +kernel)⟩, ?_⟩
    refine ⟨_, _, ⟨_, _, rfl, rfl, _, _, rfl, rfl, _, _, rfl, rfl, rfl, rfl⟩, ?_⟩
    refine ⟨hp2, ha2, hl2, (((S ++ [(c, r)]) ++ [((c ++ [([], 0)]), r)]) ++ [(((c ++ [([], 0)]) ++ [([], 0)]), r)]), (((c ++ [([], 0)]) ++ [([], 0)]), (r ++ [(((c.length : Nat) : Int) + 1), ((c.length : Nat) : Int)])), (([] ++ lgs "add_person") ++ lgs "come_all"), rfl, rfl, by first | omega | (simp only [List.length_append, List.length_cons, List.length_nil, lgs_len]; omega), by first | omega | (simp only [List.length_append, List.length_cons, List.length_nil, lgs_len]; omega), ?_⟩
    rw [show unS (((S ++ [(c, r)]) ++ [((c ++ [([], 0)]), r)]) ++ [(((c ++ [([], 0)]) ++ [([], 0)]), r)]) (((c ++ [([], 0)]) ++ [([], 0)]), (r ++ [(((c.length : Nat) : Int) + 1), ((c.length : Nat) : Int)])) = (S ++ [(c, r)] ++ [((c ++ [([], 0)]), r)]) ++ [(((c ++ [([], 0)]) ++ [([], 0)]), r)] from unS_pop]
    refine wb_cons ?_
    refine ws_set 4 sc_equal_right_l.nd n4 (by walk_at "loc") (by first | exact .inl rfl | exact .inr rfl) ?_
    refine we_fz ?_
    refine we_lst ?_
    refine wa_cons ?_
    walk_at "e"
    refine wa_cons ?_
    walk_at "e"
    refine wa_cons ?_
    refine we_clS [9, 9, 9] (wc_mt0 m_company ocl (by walk_at "room") ?_)
    walk_at "e"
    refine ⟨p, ⟨rfl, _, List.mem_of_getElem? (i := 9) rfl, hall_no (by decide +kernel) (by decide +kernel)⟩, ?_⟩
    refine ⟨_, _, ⟨_, _, rfl, rfl, _, _, rfl, rfl, _, _, rfl, rfl, rfl, rfl⟩, ?_⟩
    refine ⟨p, a, l, S, c, r, L, rfl, rfl, ?_⟩
    refine wa_cons ?_
    refine we_clS [0, 0, 0] (wc_mt0 m_came ocl (by walk_at "room") ?_)
    walk_at "e"
    refine ⟨p, ⟨rfl, _, List.mem_of_getElem? (i := 0) rfl, hall_no (by decide +kernel) (by decide +kernel)⟩, ?_⟩
    refine ⟨_, _, ⟨_, _, rfl, rfl, _, _, rfl, rfl, _, _, rfl, rfl, rfl, rfl⟩, ?_⟩
    refine ⟨p, a, l, S, c, r, L, rfl, rfl, ?_⟩
    refine wa_cons ?_
    refine we_reprO [0, 0, 0] m_repr B (by walk_at "room") rfl ?_
    walk_at "e"
    refine ⟨p, _, _, _, rfl, List.mem_of_getElem? (i := 0) rfl, ⟨_, _, rfl, rfl, _, _, rfl, rfl, _, _, rfl, rfl, rfl, rfl⟩, p, a, l, S, c, r, L, rfl, rfl, by first | omega | (simp only [List.length_append, List.length_cons, List.length_nil, lgs_len]; omega), by first | omega | (simp only [List.length_append, List.length_cons, List.length_nil, lgs_len]; omega), _, rfl, ?_⟩
    refine wa_cons ?_
    refine we_fz ?_
    refine we_lst ?_
    refine wa_nil ?_
    refine ⟨[], rfl, by simp, fun p3 => ⟨p3, _, _, rfl, rfl, by walk_at "pl", ?_⟩⟩
    refine wa_one ?_
    refine we_tup ?_
    refine wa_cons ?_
    refine we_clS [0, 0, 0] (wc_mt0 m_company ocl (by walk_at "room") ?_)
    walk_at "e"
    refine ⟨p, ⟨rfl, _, List.mem_of_getElem? (i := 0) rfl, hall_no (by decide +kernel) (by decide +kernel)⟩, ?_⟩
    refine ⟨_, _, ⟨_, _, rfl, rfl, _, _, rfl, rfl, _, _, rfl, rfl, rfl, rfl⟩, ?_⟩
    refine ⟨p, a, l, S, c, r, L, rfl, rfl, ?_⟩
    refine wa_one ?_
    refine we_clS [0, 0, 0] (wc_mt0 m_came ocl (by walk_at "room") ?_)
    walk_at "e"
    refine ⟨p, ⟨rfl, _, List.mem_of_getElem? (i := 0) rfl, hall_no (by decide +kernel) (by decide +kernel)⟩, ?_⟩
    refine ⟨_, _, ⟨_, _, rfl, rfl, _, _, rfl, rfl, _, _, rfl, rfl, rfl, rfl⟩, ?_⟩
    refine ⟨p, a, l, S, c, r, L, rfl, rfl, ?_⟩
    refine ⟨[(coD c), (.tuple (intsD r))], rfl, by simp, ?_⟩
    refine ⟨[.none, (.int 0), (coD c), (.tuple (intsD r)), (.str (hallT r.length c.length)), (.list (intsD [])), (.tuple [(coD c), (.tuple (intsD r))])], rfl, by simp, fun p4 => ⟨p4, _, _, rfl, rfl, by walk_at "pl", ?_⟩⟩
    obtain ⟨os, hos⟩ : ∃ t : List PyData, t = [.none, (.int 0), (coD c), (.tuple (intsD r)), (.str (hallT r.length c.length)), (.list (intsD [])), (.tuple [(coD c), (.tuple (intsD r))])] := ⟨_, rfl⟩
    rw [show (PyData.list [.none, (.int 0), (coD c), (.tuple (intsD r)), (.str (hallT r.length c.length)), (.list (intsD [])), (.tuple [(coD c), (.tuple (intsD r))])]) = .list os from by rw [hos]]
    have hok : ∀ x ∈ os, kinD x = true := by
      rw [hos]
      intro x hx
      simp only [List.mem_cons, List.not_mem_nil, or_false] at hx
      rcases hx with rfl | rfl | rfl | rfl | rfl | rfl | rfl <;> rfl
    have hol : os.length = 7 := by rw [hos]; rfl
    clear hos
    refine wb_cons (ws_if ?_)
    refine wt_val ?_
    refine we_anyM B rfl rfl (we_fz ?_)
    refine we_lc [("_law_some", 5)] rfl sc_equal_right_l.nd (blkOk_by (N := ["_law_hall", "_law_twin", "_law_size", "_law_other_twin", "_law_others", "_law_some"]) (sc := defScope s_equal_right_l) (by decide +kernel)) (lcP id (fun _ => true) (fun _ => .bool false) ?_)
    refine wi_seq ?_
    walk_at "e"
    refine ⟨_, (.l _), os, (List.map_id _).symm, by rw [hol]; decide, fun x hx => ?_, fun zq => ?_⟩
    · have hk := hok x hx
      intro s1 H1 C kl fp
      refine wg_name 5 sc_equal_right_l.nd n5 (by walk_at "loc") (by first | exact .inl rfl | exact .inr rfl) (by decide) ?_
      intro s1 H1 C kl fp
      refine wts_nil ⟨rfl, itT rfl ?_⟩
      intro s1 H1 C kl fp
      refine we_or ?_
      refine we_cmp (op := .Eq) (op_eqOD m_eq ki (by walk_at "room") (by assumption) rfl) (nomark _) ?_
      walk_at "e"
      walk_at "e"
      refine ow_eqOD [0, 0, 0] ⟨p, _, _, _, x, rfl, rfl, List.mem_of_getElem? (i := 0) rfl, hk, ⟨_, _, rfl, rfl, _, _, rfl, rfl, _, _, rfl, rfl, rfl, rfl⟩, .inr ⟨p, a, l, _, _, x, rfl, rfl, false, rfl, ?_⟩⟩
      refine ⟨_, rfl, itF rfl ?_⟩
      refine we_or ?_
      refine we_cmp (op := .Eq) (op_eqDO m_eq ki (by walk_at "room") (by assumption) rfl) (nomark _) ?_
      walk_at "e"
      walk_at "e"
      refine ow_eqDO [0, 0, 0] ⟨p, _, _, _, x, rfl, rfl, List.mem_of_getElem? (i := 0) rfl, hk, ⟨_, _, rfl, rfl, _, _, rfl, rfl, _, _, rfl, rfl, rfl, rfl⟩, .inr ⟨p, a, l, _, _, x, rfl, rfl, false, rfl, ?_⟩⟩
      refine ⟨_, rfl, itF rfl ?_⟩
      refine we_one ?_
      refine we_not ?_
      refine we_cmp (op := .NotEq) (op_neOD m_eq ki one_ (by walk_at "room") (by assumption) rfl) (nomark _) ?_
      walk_at "e"
      walk_at "e"
      refine ow_neOD [0, 0, 0] ⟨p, _, _, _, x, rfl, rfl, List.mem_of_getElem? (i := 0) rfl, hk, ⟨_, _, rfl, rfl, _, _, rfl, rfl, _, _, rfl, rfl, rfl, rfl⟩, .inr ⟨p, a, l, _, _, x, rfl, rfl, false, rfl, ?_⟩⟩
      refine ⟨_, rfl, ?_⟩
      exact ⟨rfl, rfl⟩
    rw [filt_all]
    refine ⟨zq, _, _, rfl, rfl, by walk_at "pl", ?_⟩
    refine ⟨_, _, _, rfl, ?_⟩
    refine ⟨_, rfl, ?_⟩
    refine itF (any_no _) ?_
    refine wb_nil ?_
    refine wb_ord [3, 3, 3, 3, 3, 3, 3, 3, 3, 0, 0, 0] ⟨_, _, rfl, rfl, _, _, rfl, rfl, _, _, rfl, rfl, _, _, rfl, rfl, _, _, rfl, rfl, _, _, rfl, rfl, _, _, rfl, rfl, _, _, rfl, rfl, _, _, rfl, rfl, _, _, rfl, rfl, _, _, rfl, rfl, _, _, rfl, rfl, rfl, rfl⟩ ?_
    refine wb_one (ws_ret ?_)
    refine we_and ?_
    refine we_cmp (op := .Eq) (op_eqO m_eq (by walk_at "room") (by assumption) rfl) (nomark _) ?_
    walk_at "e"
    walk_at "e"
    refine ow_eqO [3, 3, 3, 0, 0, 0] ⟨hp1, hp2, _, _, _, _, rfl, rfl, List.mem_of_getElem? (i := 3) rfl, List.mem_of_getElem? (i := 0) rfl, ⟨_, _, rfl, rfl, _, _, rfl, rfl, _, _, rfl, rfl, _, _, rfl, rfl, _, _, rfl, rfl, _, _, rfl, rfl, rfl, rfl⟩, .inl ⟨hp1, ha1, hl1, (S ++ [(c, r)] ++ [((c ++ [([], 0)]), r)]), (((c ++ [([], 0)]) ++ [([], 0)]), r), (((([] ++ lgs "add_person") ++ lgs "add_person") ++ lgs "come_all") ++ lgs "undo"), hp2, ha2, hl2, (S ++ [(c, r)] ++ [((c ++ [([], 0)]), r)]), (((c ++ [([], 0)]) ++ [([], 0)]), r), ((([] ++ lgs "add_person") ++ lgs "come_all") ++ lgs "undo"), rfl, rfl, hco2, hco2, by first | omega | (simp only [List.length_append, List.length_cons, List.length_nil, lgs_len]; omega), by first | omega | (simp only [List.length_append, List.length_cons, List.length_nil, lgs_len]; omega), by first | omega | (simp only [List.length_append, List.length_cons, List.length_nil, lgs_len]; omega), by first | omega | (simp only [List.length_append, List.length_cons, List.length_nil, lgs_len]; omega), _, rfl, ?_⟩⟩
    refine ⟨_, rfl, itT (er_eq) ?_⟩
    refine we_and ?_
    refine we_cmp (op := .Is) op_is_bl (nomark _) ?_
    refine we_clS [0, 0, 0] (wc_mt0 m_undo ocl (by walk_at "room") ?_)
    walk_at "e"
    refine ⟨hp1, ⟨rfl, _, List.mem_of_getElem? (i := 0) rfl, hall_no (by decide +kernel) (by decide +kernel)⟩, ?_⟩
    refine ⟨_, _, ⟨_, _, rfl, rfl, _, _, rfl, rfl, _, _, rfl, rfl, rfl, rfl⟩, ?_⟩
    refine ⟨hp1, ha1, hl1, (S ++ [(c, r)] ++ [((c ++ [([], 0)]), r)]), (((c ++ [([], 0)]) ++ [([], 0)]), r), (((([] ++ lgs "add_person") ++ lgs "add_person") ++ lgs "come_all") ++ lgs "undo"), rfl, rfl, by first | omega | (simp only [List.length_append, List.length_cons, List.length_nil, lgs_len]; omega), by first | omega | (simp only [List.length_append, List.length_cons, List.length_nil, lgs_len]; omega), ?_⟩
    rw [show unS (S ++ [(c, r)] ++ [((c ++ [([], 0)]), r)]) (((c ++ [([], 0)]) ++ [([], 0)]), r) = (S ++ [(c, r)]) ++ [((c ++ [([], 0)]), r)] from unS_pop]
    walk_at "e"
    refine ow_isB ?_
    refine ⟨_, rfl, itT (undo_t3) ?_⟩
    refine we_and ?_
    refine we_cmp (op := .Is) op_is_bl (nomark _) ?_
    refine we_clS [0, 0, 0] (wc_mt0 m_undo ocl (by walk_at "room") ?_)
    walk_at "e"
    refine ⟨hp1, ⟨rfl, _, List.mem_of_getElem? (i := 0) rfl, hall_no (by decide +kernel) (by decide +kernel)⟩, ?_⟩
    refine ⟨_, _, ⟨_, _, rfl, rfl, _, _, rfl, rfl, _, _, rfl, rfl, rfl, rfl⟩, ?_⟩
    refine ⟨hp1, ha1, hl1, (S ++ [(c, r)]), ((c ++ [([], 0)]), r), ((((([] ++ lgs "add_person") ++ lgs "add_person") ++ lgs "come_all") ++ lgs "undo") ++ lgs "undo"), rfl, rfl, by first | omega | (simp only [List.length_append, List.length_cons, List.length_nil, lgs_len]; omega), by first | omega | (simp only [List.length_append, List.length_cons, List.length_nil, lgs_len]; omega), ?_⟩
    rw [show unS (S ++ [(c, r)]) ((c ++ [([], 0)]), r) = S ++ [(c, r)] from unS_pop]
    walk_at "e"
    refine ow_isB ?_
    refine ⟨_, rfl, itT (undo_t3) ?_⟩
    refine we_one ?_
    refine we_cmp (op := .Eq) (op_eqO m_eq (by walk_at "room") (by assumption) rfl) (nomark _) ?_
    walk_at "e"
    walk_at "e"
    refine ow_eqO [0, 0, 0, 6, 6, 6] ⟨hp1, p, _, _, _, _, rfl, rfl, List.mem_of_getElem? (i := 0) rfl, List.mem_of_getElem? (i := 9) rfl, ⟨_, _, rfl, rfl, _, _, rfl, rfl, _, _, rfl, rfl, _, _, rfl, rfl, _, _, rfl, rfl, _, _, rfl, rfl, rfl, rfl⟩, .inl ⟨hp1, ha1, hl1, S, (c, r), (((((([] ++ lgs "add_person") ++ lgs "add_person") ++ lgs "come_all") ++ lgs "undo") ++ lgs "undo") ++ lgs "undo"), p, a, l, S, (c, r), L, rfl, rfl, hco, hco, by first | omega | (simp only [List.length_append, List.length_cons, List.length_nil, lgs_len]; omega), by first | omega | (simp only [List.length_append, List.length_cons, List.length_nil, lgs_len]; omega), by first | omega | (simp only [List.length_append, List.length_cons, List.length_nil, lgs_len]; omega), by first | omega | (simp only [List.length_append, List.length_cons, List.length_nil, lgs_len]; omega), _, rfl, ?_⟩⟩
    rw [er_eq]
    exact keep_mid (A := (Hall c_Gathering hp1 ha1 hl1 (S ++ [(c, r)]) (((((([] ++ lgs "add_person") ++ lgs "add_person") ++ lgs "come_all") ++ lgs "undo") ++ lgs "undo") ++ lgs "undo"))) (B := (Hall c_Gathering p a l (S ++ [(c, r)]) L)) (C := (Hall c_Gathering hp2 ha2 hl2 ((S ++ [(c, r)] ++ [((c ++ [([], 0)]), r)]) ++ [(((c ++ [([], 0)]) ++ [([], 0)]), r)]) ((([] ++ lgs "add_person") ++ lgs "come_all") ++ lgs "undo") ++ Hall c_Gathering hp3 ha3 hl3 (([]) ++ [(((c ++ [([], 0)]) ++ [([], 0)]), [])]) ([]))) hR
theorem ok_right_l {f : Addr} {fd : FuncData} (F : Fun K "_law_right" "_law_right" s_right_l f fd) (B : Bl mg) (c_ini : CalI P w K mg base 2 "Gathering" c_Gathering (T_init2 c_Gathering)) (c_law_crowd : Cal P w K mg base 3 "_law_crowd" T_crowd) (c_law_seen_of : Cal P w K mg base 7 "_law_seen_of" (T_seen c_Gathering)) (c_law_take : Cal P w K mg base 1 "_law_take" T_take) (c_law_led : Cal P w K mg base 7 "_law_led" (T_led42 c_Gathering)) (m_undo : CalM P w K mg base 2 c_Gathering "undo" (T_undo c_Gathering)) (ocl : L2.Cls K c_Gathering) (c_law_same : Cal P w K mg base 6 "_law_same" (T_same 5)) (m_log : CalM P w K mg base 1 c_Gathering "log" (T_log c_Gathering)) (m_as_of : CalMX P w K mg base 4 c_Gathering "as_of" (T_asof c_Gathering c_NoOperation)) (m_twin : CalM P w K mg base 5 c_Gathering "twin" (T_twin c_Gathering)) (m_eq : CalM P w K mg base 1 c_Gathering "__eq__" (T_heq42 c_Gathering)) (one_ : ONe K c_Gathering) (c_law_copy_right : Cal P w K mg base 8 "_law_copy_right" (T_cr42 c_Gathering)) (c_law_equal_right : Cal P w K mg base 8 "_law_equal_right" (T_er42 c_Gathering)) (c_law_apart_right : Cal P w K mg base 9 "_law_apart_right" (T_ar42 c_Gathering)) : FnG P w K mg base CX0 12 f fd ["_law_box_here"] (spW K (T_right 20000)) := by
  refine fn_w F sc_right_l (by decide) (fun xs μ R h => ?_) fun cdv A outer s H E hr hgd xs μ R hT => ?_
  · obtain ⟨b, bs, m, rfl, _⟩ := h
    rfl
  · obtain ⟨b, bs, m, rfl, rfl, hb, hm, hR⟩ := hT
    refine wb_names (N := ["_law_box_here", "_law_hall", "_law_seen", "_law_turn", "_law_at", "_law_due", "_law_log", "_law_copy"]) rfl fun hn => ?_
    have n0 := hn 0 _ rfl
    have n1 := hn 1 _ rfl
    have n2 := hn 2 _ rfl
    have n3 := hn 3 _ rfl
    have n4 := hn 4 _ rfl
    have n5 := hn 5 _ rfl
    have n6 := hn 6 _ rfl
    have n7 := hn 7 _ rfl
    refine wb_cons ?_
    refine ws_set 1 sc_right_l.nd n1 (by walk_at "loc") (by first | exact .inl rfl | exact .inr rfl) ?_
    refine we_mk c_ini (by walk_at "room") rfl ?_
    refine wa_one ?_
    refine we_callB 0 c_law_crowd (by walk_at "room") rfl ?_
    refine wa_cons ?_
    walk_at "e"
    refine wa_one ?_
    walk_at "e"
    refine ⟨b, bs, rfl, b, bs, 8, _, rfl, rfl, hb, by decide, by omega, fun c0 bs1 hl0 hw0 hb1 => ⟨[], bs1, rfl, ?_⟩⟩
    refine fun hp1 => .inl ⟨hp1, _, c0, rfl, rfl, (coD_ok' (c := c0) (by omega) (hw0.frs (by omega))), fun ha1 hl1 => ⟨rfl, ?_⟩⟩
    have hg0 : Good c0 [] := ⟨hw0, POrd.nil c0, by omega⟩
    have hco0 := hg0.co
    refine wb_cons ?_
    refine ws_set 2 sc_right_l.nd n2 (by walk_at "loc") (by first | exact .inl rfl | exact .inr rfl) ?_
    refine we_lst ?_
    refine wa_one ?_
    refine we_fz ?_
    refine we_clS [0, 0, 0] (wc_pos c_law_seen_of (by walk_at "room") rfl ?_)
    refine wa_one ?_
    walk_at "e"
    refine ⟨_, _, ⟨_, _, rfl, rfl, _, _, rfl, rfl, _, _, rfl, rfl, rfl, rfl⟩, ?_⟩
    refine ⟨hp1, ha1, hl1, [], c0, [], [], rfl, rfl, hco0, by first | omega | (simp only [List.length_append, List.length_cons, List.length_nil, lgs_len]; omega), fun p1 => ⟨p1, _, _, rfl, rfl, seenL_pl _ _ _, ?_⟩⟩
    refine ⟨[(.list (seenL ([]).length c0 ([])))], rfl, by simp, fun p2 => ?_⟩
    refine wb_ord [0, 3, 0, 0, 0] ⟨_, _, rfl, rfl, _, _, rfl, rfl, _, _, rfl, rfl, _, _, rfl, rfl, _, _, rfl, rfl, rfl, rfl⟩ ?_
    refine wb_cons ?_
    refine ws_for [3] PassesOwn.never rfl ?_
    refine wi_rng rfl B.range ?_
    walk_at "e"
    walk_at "e"
    refine we_callB 1 c_law_take (by walk_at "room") rfl ?_
    refine wa_cons ?_
    walk_at "e"
    refine wa_one ?_
    walk_at "e"
    refine ⟨b, bs1, rfl, b, bs1, 12, _, rfl, rfl, hb1, by omega, by omega, by omega, fun t bs2 ta tb hb2 => ⟨[], bs2, rfl, ?_⟩⟩
    refine ow_add ?_
    obtain ⟨k1, rfl⟩ : ∃ k : Nat, t = k := ⟨t.toNat, by omega⟩
    rw [show ((1 : Int) + (k1 : Int)) = ((1 + k1 : Nat) : Int) from by omega]
    refine ⟨(1 + k1), rfl, by walk_at "so", fun i δ' μ' => ∃ S c r L xs k x3 x4 x5 x6 x7, δ' = [some (.a b), some (.a hp1), some (.a p2), x3, x4, x5, x6, x7] ∧ μ' = ((([(p2, (seeT (S ++ [(c, r)]))), (b, Cont.l xs)] : Cells) ++ Hall c_Gathering hp1 ha1 hl1 (S ++ [(c, r)]) L) : Cells) ∧ Gd (S ++ [(c, r)]) ∧ S.length ≤ i ∧ L.length ≤ 4 * i ∧ LogOk L ∧ BoxOk k xs ∧ k ≤ m + 6000 + 200 * i, ⟨[], c0, [], [], bs2, _, _, _, _, _, _, rfl, rfl, ⟨(fun x z => by cases List.mem_singleton.mp z; exact ⟨hg0, (show c0.length ≤ 15 by omega)⟩), by simp, by simp, LogOk.nil, hb2, by omega⟩⟩, fun i d δ' μ' hd hI => ?_, fun δ' μ' hI => ?_⟩
    · obtain ⟨S, c, r, L, xs, k, x3, x4, x5, x6, x7, rfl, rfl, ⟨hG, hS, hL, hLo, hk, hkm⟩⟩ := hI
      obtain ⟨hi, rfl⟩ := rng_item hd
      have hi9 : i < 1 + k1 := hi
      have gg := hG.lastG
      have ggl := hG.lastL
      have hrl := gg.p.len
      have hco := gg.co
      have hlT : (S ++ [(c, r)]).length = S.length + 1 := by rw [List.length_append, List.length_singleton]
      refine wg_name 3 sc_right_l.nd n3 (by walk_at "loc") (by first | exact .inl rfl | exact .inr rfl) (by decide) ?_
      refine wb_cons (ws_if ?_)
      walk_at "t"
      refine wt_cmp (op := .Eq) (op_eqD (Room.units (k := 0) (by with_unfolding_all exact Room.mono (by assumption) (Nat.zero_le _)))) (nomark _) ?_
      refine we_callB 1 c_law_take (by walk_at "room") rfl ?_
      refine wa_cons ?_
      walk_at "e"
      refine wa_one ?_
      walk_at "e"
      refine ⟨b, xs, rfl, b, xs, 5, _, rfl, rfl, hk, by omega, by omega, by omega, fun u bs3 ua ub hb3 => ⟨[], bs3, rfl, ?_⟩⟩
      walk_at "e"
      refine ow_eq (.d _) (.d _) rfl rfl ⟨_, rfl, ?_⟩
      rw [eqv_dint]
      by_cases hu : u = 0
      · skip
        refine itT (decide_eq_true hu) ?_
        refine ww_and1 ?_
        refine wt_cmp (op := .Gt) op_gt (nomark _) ?_
        refine we_len B rfl ?_
        walk_at "e"
        refine ⟨_, (.c 0 rfl), ?_⟩
        walk_at "e"
        refine ow_cmp ⟨_, rfl, ?_⟩
        by_cases hS0 : S = []
        · skip
          refine itF (decide_eq_false (by rw [seeT_len, hS0]; simp)) ?_
          refine wb_cons (ws_expr ?_)
          refine we_clS [1, 1, 1, 1] (wc_pos c_law_led (by walk_at "room") rfl ?_)
          refine wa_cons ?_
          walk_at "e"
          refine wa_one ?_
          walk_at "e"
          refine ⟨_, _, ⟨_, _, rfl, rfl, _, _, rfl, rfl, _, _, rfl, rfl, _, _, rfl, rfl, rfl, rfl⟩, ?_⟩
          refine ⟨b, bs3, _, hp1, ha1, hl1, S, c, r, L, rfl, rfl, hb3, gg, ggl, by first | omega | (simp only [List.length_append, List.length_cons, List.length_nil, lgs_len]; omega), by first | omega | (simp only [List.length_append, List.length_cons, List.length_nil, lgs_len]; omega), by omega, fun c9 r9 w9 bs4 g9 hl9 hw9 hb4 => ?_⟩
          have hco9 := g9.co
          have hr9 := g9.p.len
          refine wb_cons (ws_expr ?_)
          refine we_append ?_
          walk_at "e"
          refine ⟨p2, _, ⟨4, rfl⟩, rfl, ?_⟩
          refine we_fz ?_
          refine we_clS [1, 1, 1] (wc_pos c_law_seen_of (by walk_at "room") rfl ?_)
          refine wa_one ?_
          walk_at "e"
          refine ⟨_, _, ⟨_, _, rfl, rfl, _, _, rfl, rfl, _, _, rfl, rfl, rfl, rfl⟩, ?_⟩
          refine ⟨hp1, ha1, hl1, (S ++ [(c, r)]), c9, r9, (L ++ lgs w9), rfl, rfl, hco9, by first | omega | (simp only [List.length_append, List.length_cons, List.length_nil, lgs_len]; omega), fun p3 => ⟨p3, _, _, rfl, rfl, seenL_pl _ _ _, ?_⟩⟩
          refine ⟨_, _, 4, rfl, rfl, by rw [seeT_len, List.length_append, List.length_singleton]; omega, ?_⟩
          refine wb_ord [4, 3, 0, 0, 0] ⟨_, _, rfl, rfl, _, _, rfl, rfl, _, _, rfl, rfl, _, _, rfl, rfl, _, _, rfl, rfl, rfl, rfl⟩ ?_
          refine wb_nil ?_
          refine wb_nil ?_
          exact ⟨(S ++ [(c, r)]), c9, r9, (L ++ lgs w9), bs4, _, _, _, _, _, _, rfl, by rw [seeT_snoc (S ++ [(c, r)])] <;> rfl, ⟨hG.snoc g9 hl9, by rw [List.length_append, List.length_singleton]; omega, by rw [List.length_append, lgs_len]; omega, hLo.lgs (wd_ok hw9), hb4, by omega⟩⟩
        · skip
          refine itT (decide_eq_true (by rw [seeT_len, hlT]; have := List.length_pos_iff.mpr hS0; omega)) ?_
          obtain ⟨S', ⟨c', r'⟩, rfl⟩ := snoc_of hS0
          have hG' := hG.init
          have g' := hG'.lastG
          have hco' := g'.co
          have hl' := g'.l
          have hr' := g'.p.len
          have hlS : (S' ++ [(c', r')]).length = S'.length + 1 := by rw [List.length_append, List.length_singleton]
          have hfit' := g'.fit S'.length
          refine wb_cons (ws_expr ?_)
          refine we_pop0 ?_
          walk_at "e"
          refine ⟨_, (seeT (S' ++ [(c', r')])), .list (seenL (S' ++ [(c', r')]).length c r), 0, rfl, (by rw [seeT_snoc (S' ++ [(c', r')])]; rfl), rfl, ?_⟩
          refine wb_cons (ws_if ?_)
          refine wt_w ?_
          refine ww_or ?_
          refine wt_cmp (op := .IsNot) op_isnot_bl (nomark _) ?_
          refine we_clS [2, 2, 2] (wc_mt0 m_undo ocl (by walk_at "room") ?_)
          walk_at "e"
          refine ⟨hp1, ⟨rfl, _, List.mem_of_getElem? (i := 2) rfl, hall_no (by decide +kernel) (by decide +kernel)⟩, ?_⟩
          refine ⟨_, _, ⟨_, _, rfl, rfl, _, _, rfl, rfl, _, _, rfl, rfl, rfl, rfl⟩, ?_⟩
          refine ⟨hp1, ha1, hl1, (S' ++ [(c', r')]), (c, r), L, rfl, rfl, by first | omega | (simp only [List.length_append, List.length_cons, List.length_nil, lgs_len]; omega), by first | omega | (simp only [List.length_append, List.length_cons, List.length_nil, lgs_len]; omega), ?_⟩
          rw [show unS (S' ++ [(c', r')]) (c, r) = S' ++ [(c', r')] from unS_pop]
          walk_at "e"
          refine ow_inB ⟨_, rfl, ?_⟩
          refine itF (undo_t2) ?_
          refine ww_or1 ?_
          refine wt_not ?_
          refine wt_val ?_
          refine we_callP c_law_same (by walk_at "room") rfl ?_
          refine wa_cons ?_
          refine we_fz ?_
          refine we_clS [0, 0, 0] (wc_pos c_law_seen_of (by walk_at "room") rfl ?_)
          refine wa_one ?_
          walk_at "e"
          refine ⟨_, _, ⟨_, _, rfl, rfl, _, _, rfl, rfl, _, _, rfl, rfl, rfl, rfl⟩, ?_⟩
          refine ⟨hp1, ha1, hl1, S', c', r', (L ++ lgs "undo"), rfl, rfl, hco', by first | omega | (simp only [List.length_append, List.length_cons, List.length_nil, lgs_len]; omega), fun p3 => ⟨p3, _, _, rfl, rfl, seenL_pl _ _ _, ?_⟩⟩
          refine wa_one ?_
          walk_at "e"
          walk_at "e"
          walk_at "e"
          walk_at "e"
          refine uw_neg ?_
          refine ow_ix (.c 3 rfl) (atI_last9 (seeT_get (x := (c', r')) List.getElem?_concat_length) (by rw [seeT_len, hlS])) ?_
          refine ⟨_, rfl, fits_mono hfit' (by decide), ?_⟩
          refine ⟨_, rfl, ?_⟩
          refine itF rfl ?_
          refine wb_nil ?_
          refine wb_ord [3, 3, 0, 0, 0] ⟨_, _, rfl, rfl, _, _, rfl, rfl, _, _, rfl, rfl, _, _, rfl, rfl, _, _, rfl, rfl, rfl, rfl⟩ ?_
          refine wb_nil ?_
          refine wb_nil ?_
          exact ⟨S', c', r', _, bs3, _, _, _, _, _, _, rfl, rfl, ⟨hG', by omega, by rw [List.length_append, lgs_len]; omega, hLo.lgs (by decide +kernel), hb3, by omega⟩⟩
      · skip
        refine itF (decide_eq_false hu) ?_
        refine wb_cons (ws_expr ?_)
        refine we_clS [1, 1, 1, 1] (wc_pos c_law_led (by walk_at "room") rfl ?_)
        refine wa_cons ?_
        walk_at "e"
        refine wa_one ?_
        walk_at "e"
        refine ⟨_, _, ⟨_, _, rfl, rfl, _, _, rfl, rfl, _, _, rfl, rfl, _, _, rfl, rfl, rfl, rfl⟩, ?_⟩
        refine ⟨b, bs3, _, hp1, ha1, hl1, S, c, r, L, rfl, rfl, hb3, gg, ggl, by first | omega | (simp only [List.length_append, List.length_cons, List.length_nil, lgs_len]; omega), by first | omega | (simp only [List.length_append, List.length_cons, List.length_nil, lgs_len]; omega), by omega, fun c9 r9 w9 bs4 g9 hl9 hw9 hb4 => ?_⟩
        have hco9 := g9.co
        have hr9 := g9.p.len
        refine wb_cons (ws_expr ?_)
        refine we_append ?_
        walk_at "e"
        refine ⟨p2, _, ⟨4, rfl⟩, rfl, ?_⟩
        refine we_fz ?_
        refine we_clS [1, 1, 1] (wc_pos c_law_seen_of (by walk_at "room") rfl ?_)
        refine wa_one ?_
        walk_at "e"
        refine ⟨_, _, ⟨_, _, rfl, rfl, _, _, rfl, rfl, _, _, rfl, rfl, rfl, rfl⟩, ?_⟩
        refine ⟨hp1, ha1, hl1, (S ++ [(c, r)]), c9, r9, (L ++ lgs w9), rfl, rfl, hco9, by first | omega | (simp only [List.length_append, List.length_cons, List.length_nil, lgs_len]; omega), fun p3 => ⟨p3, _, _, rfl, rfl, seenL_pl _ _ _, ?_⟩⟩
        refine ⟨_, _, 4, rfl, rfl, by rw [seeT_len, List.length_append, List.length_singleton]; omega, ?_⟩
        refine wb_ord [4, 3, 0, 0, 0] ⟨_, _, rfl, rfl, _, _, rfl, rfl, _, _, rfl, rfl, _, _, rfl, rfl, _, _, rfl, rfl, rfl, rfl⟩ ?_
        refine wb_nil ?_
        refine wb_nil ?_
        exact ⟨(S ++ [(c, r)]), c9, r9, (L ++ lgs w9), bs4, _, _, _, _, _, _, rfl, by rw [seeT_snoc (S ++ [(c, r)])] <;> rfl, ⟨hG.snoc g9 hl9, by rw [List.length_append, List.length_singleton]; omega, by rw [List.length_append, lgs_len]; omega, hLo.lgs (wd_ok hw9), hb4, by omega⟩⟩
    · rw [rng_items _] at hI
      obtain ⟨S, c, r, L, xs, k, x3, x4, x5, x6, x7, rfl, rfl, ⟨hG, hS, hL, hLo, hk, hkm⟩⟩ := hI
      have gg := hG.lastG
      have ggl := hG.lastL
      have hrl := gg.p.len
      have hco := gg.co
      have hlT : (S ++ [(c, r)]).length = S.length + 1 := by rw [List.length_append, List.length_singleton]
      refine wb_frz 0 [2] rfl (fun j hj => by cases List.mem_singleton.mp hj; rfl) ?_ (pl := (seeT_pl _))
      refine wb_cons ?_
      refine ws_forW [4, 5] PassesOwn.never rfl ?_
      refine wi_enum rfl B.enum ?_
      refine wa_one ?_
      walk_at "e"
      refine ⟨_, _, rfl, (.l _), fun j δ' μ' => ∃ ys k2 x3 x4 x5 x6 x7, δ' = [some (.a b), some (.a hp1), some (.d (.list (seeT (S ++ [(c, r)])))), x3, x4, x5, x6, x7] ∧ μ' = ((([(b, Cont.l ys)] : Cells) ++ Hall c_Gathering hp1 ha1 hl1 (S ++ [(c, r)]) L) : Cells) ∧ BoxOk k2 ys ∧ k2 ≤ m + 9000 + 100 * j, ⟨xs, _, _, _, _, _, _, rfl, rfl, ⟨hk, by omega⟩⟩, fun j d δ' μ' hd hI => ?_, fun δ' μ' hI => ?_⟩
      · obtain ⟨ys, k2, x3, x4, x5, x6, x7, rfl, rfl, ⟨hk2, hkm2⟩⟩ := hI
        obtain ⟨x, hx, rfl⟩ := enumD_get hd
        refine wg_tupW (ds := [_, _]) rfl ?_
        refine wgs_cons ?_
        refine wg_name 4 sc_right_l.nd n4 (by walk_at "loc") (by first | exact .inl rfl | exact .inr rfl) (by decide) ?_
        refine wgs_cons ?_
        refine wg_name 5 sc_right_l.nd n5 (by walk_at "loc") (by first | exact .inl rfl | exact .inr rfl) (by decide) ?_
        refine wgs_nil ?_
        have hj9 : j < (S ++ [(c, r)]).length := by
          have := (List.getElem?_eq_some_iff.mp hx).1
          rwa [seeT_len] at this
        obtain ⟨S1, c1, r1, hT1, hS1, hx1⟩ := take_pick hj9
        obtain rfl : x = .list (seenL S1.length c1 r1) := Option.some.inj (hx.symm.trans (by rw [seeT_get hx1, hS1]))
        have g1 : Good c1 r1 := (hG _ (List.mem_of_getElem? hx1)).1
        have hcl1 : c1.length ≤ 15 := (hG _ (List.mem_of_getElem? hx1)).2
        have hco1 := g1.co
        have hr1 := g1.p.len
        have hfit := gg.fit S.length
        have hfL := hLo.fit4 (by omega)
        have hfN := LogOk.nil.fit4 (by simp)
        have hlst : atI (seeT (S ++ [(c, r)])) (-1) = some (.list (seenL S.length c r)) := atI_last9 (seeT_get (x := (c, r)) List.getElem?_concat_length) (by rw [seeT_len, hlT])
        have hshp : SeqAt.shaped (.list [coD c, .tuple (intsD r)]) = true := st_shp42 gg
        have hshp1 : SeqAt.shaped (.list [coD c1, .tuple (intsD r1)]) = true := st_shp42 g1
        obtain ⟨dah, hdah, hdok⟩ := prev_of hG hT1 hS1
        refine wb_cons ?_
        refine ws_par 6 7 rfl sc_right_l.nd n6 n7 (by decide) rfl rfl ?_ (by rfl)
        refine we_fz ?_
        refine we_clS [1, 1, 1] (wc_mt0 m_log ocl (by walk_at "room") ?_)
        walk_at "e"
        refine ⟨hp1, ⟨rfl, _, List.mem_of_getElem? (i := 1) rfl, hall_no (by decide +kernel) (by decide +kernel)⟩, ?_⟩
        refine ⟨_, _, ⟨_, _, rfl, rfl, _, _, rfl, rfl, _, _, rfl, rfl, rfl, rfl⟩, ?_⟩
        refine ⟨hp1, ha1, hl1, S, (c, r), L, rfl, rfl, fun p4 => ⟨p4, _, _, rfl, rfl, plS_map fun _ => rfl, ?_⟩⟩
        refine we_x0 (wex_clS [0, 0, 0] (wcx_mt m_as_of takes0 ocl (by walk_at "room") ?_))
        walk_at "e"
        refine ⟨hp1, ⟨rfl, _, List.mem_of_getElem? (i := 0) rfl, hall_no (by decide +kernel) (by decide +kernel)⟩, ?_⟩
        refine wa_one ?_
        walk_at "e"
        refine ⟨_, _, ⟨_, _, rfl, rfl, _, _, rfl, rfl, _, _, rfl, rfl, rfl, rfl⟩, ?_⟩
        refine ⟨hp1, ha1, hl1, S, (c, r), L, ((j : Nat) : Int), rfl, rfl, by first | omega | (simp only [List.length_append, List.length_cons, List.length_nil, lgs_len]; omega), log_nat (by omega), fun nn hq hn hp2 ha2 hl2 => ?_, fun z => absurd ⟨by omega, by have := (show j ≤ S.length by omega); omega⟩ z⟩
        rw [show nn = j from by omega, hT1]
        refine wb_cons (ws_if ?_)
        refine wt_not ?_
        refine wt_val ?_
        refine we_callP c_law_same (by walk_at "room") rfl ?_
        refine wa_cons ?_
        refine we_fz ?_
        refine we_lst ?_
        refine wa_cons ?_
        refine we_fz ?_
        refine we_clS [3, 3, 3] (wc_mt0 m_log ocl (by walk_at "room") ?_)
        walk_at "e"
        refine ⟨hp1, ⟨rfl, _, List.mem_of_getElem? (i := 3) rfl, hall_no (by decide +kernel) (by decide +kernel)⟩, ?_⟩
        refine ⟨_, _, ⟨_, _, rfl, rfl, _, _, rfl, rfl, _, _, rfl, rfl, rfl, rfl⟩, ?_⟩
        refine ⟨hp1, ha1, hl1, S, (c, r), L, rfl, rfl, fun p5 => ⟨p5, _, _, rfl, rfl, plS_map fun _ => rfl, ?_⟩⟩
        refine wa_cons ?_
        refine we_fz ?_
        refine we_clS [3, 3, 3] (wc_mt0 m_log ocl (by walk_at "room") ?_)
        walk_at "e"
        refine ⟨hp2, ⟨rfl, _, List.mem_of_getElem? (i := 3) rfl, hall_no (by decide +kernel) (by decide +kernel)⟩, ?_⟩
        refine ⟨_, _, ⟨_, _, rfl, rfl, _, _, rfl, rfl, _, _, rfl, rfl, rfl, rfl⟩, ?_⟩
        refine ⟨hp2, ha2, hl2, S1, (c1, r1), [], rfl, rfl, fun p6 => ⟨p6, _, _, rfl, rfl, plS_map fun _ => rfl, ?_⟩⟩
        refine wa_cons ?_
        refine we_fz ?_
        refine we_clS [0, 0, 0] (wc_mt0 m_log ocl (by walk_at "room") ?_)
        refine we_clS [3, 3, 3] (wc_mt0 m_twin ocl (by walk_at "room") ?_)
        walk_at "e"
        refine ⟨hp1, ⟨rfl, _, List.mem_of_getElem? (i := 3) rfl, hall_no (by decide +kernel) (by decide +kernel)⟩, ?_⟩
        refine ⟨_, _, ⟨_, _, rfl, rfl, _, _, rfl, rfl, _, _, rfl, rfl, rfl, rfl⟩, ?_⟩
        refine ⟨hp1, ha1, hl1, S, (c, r), L, rfl, rfl, by first | omega | (simp only [List.length_append, List.length_cons, List.length_nil, lgs_len]; omega), fun hp3 ha3 hl3 => ?_⟩
        refine ⟨hp3, ⟨rfl, _, List.mem_of_getElem? (i := 0) rfl, hall_no (by decide +kernel) (by decide +kernel)⟩, ?_⟩
        refine ⟨_, _, ⟨_, _, rfl, rfl, _, _, rfl, rfl, _, _, rfl, rfl, rfl, rfl⟩, ?_⟩
        refine ⟨hp3, ha3, hl3, S, (c, r), [], rfl, rfl, fun p7 => ⟨p7, _, _, rfl, rfl, plS_map fun _ => rfl, ?_⟩⟩
        refine wa_one ?_
        refine we_fz ?_
        refine we_clS [3, 3, 3] (wc_mt0 m_log ocl (by walk_at "room") ?_)
        walk_at "e"
        refine ⟨hp1, ⟨rfl, _, List.mem_of_getElem? (i := 3) rfl, hall_no (by decide +kernel) (by decide +kernel)⟩, ?_⟩
        refine ⟨_, _, ⟨_, _, rfl, rfl, _, _, rfl, rfl, _, _, rfl, rfl, rfl, rfl⟩, ?_⟩
        refine ⟨hp1, ha1, hl1, S, (c, r), L, rfl, rfl, fun p8 => ⟨p8, _, _, rfl, rfl, plS_map fun _ => rfl, ?_⟩⟩
        refine ⟨[(.list (L.map lgD)), (.list (([]).map lgD)), (.list (([]).map lgD)), (.list (L.map lgD))], rfl, by simp, fun p9 => ⟨p9, _, _, rfl, rfl, by walk_at "pl", ?_⟩⟩
        refine wa_one ?_
        refine we_fz ?_
        refine we_lst ?_
        refine wa_cons ?_
        walk_at "e"
        refine wa_cons ?_
        refine we_fz ?_
        refine we_lst ?_
        refine wa_nil ?_
        refine ⟨[], rfl, by simp, fun p10 => ⟨p10, _, _, rfl, rfl, by walk_at "pl", ?_⟩⟩
        refine wa_cons ?_
        refine we_fz ?_
        refine we_lst ?_
        refine wa_nil ?_
        refine ⟨[], rfl, by simp, fun p11 => ⟨p11, _, _, rfl, rfl, by walk_at "pl", ?_⟩⟩
        refine wa_one ?_
        walk_at "e"
        refine ⟨[(.list (L.map lgD)), (.list (intsD [])), (.list (intsD [])), (.list (L.map lgD))], rfl, by simp, fun p12 => ⟨p12, _, _, rfl, rfl, by walk_at "pl", ?_⟩⟩
        refine ⟨_, rfl, fit4l hfL hfN hfN hfL, ?_⟩
        refine ⟨_, rfl, ?_⟩
        refine itF rfl ?_
        refine wb_nil ?_
        refine wb_cons (ws_if ?_)
        refine wt_w ?_
        refine ww_or ?_
        refine wt_cmp (op := .NotEq) (op_neD (Room.units (k := 0) (by with_unfolding_all exact Room.mono (by assumption) (Nat.zero_le _)))) (nomark _) ?_
        refine we_cmp (op := .Eq) (op_eqO m_eq (by walk_at "room") (by assumption) rfl) (nomark _) ?_
        walk_at "e"
        walk_at "e"
        refine ow_eqO [6, 6, 6, 0, 0, 0] ⟨hp2, hp1, _, _, _, _, rfl, rfl, List.mem_of_getElem? (i := 6) rfl, List.mem_of_getElem? (i := 0) rfl, ⟨_, _, rfl, rfl, _, _, rfl, rfl, _, _, rfl, rfl, _, _, rfl, rfl, _, _, rfl, rfl, _, _, rfl, rfl, rfl, rfl⟩, .inl ⟨hp2, ha2, hl2, S1, (c1, r1), [], hp1, ha1, hl1, S, (c, r), L, rfl, rfl, hco1, hco, by first | omega | (simp only [List.length_append, List.length_cons, List.length_nil, lgs_len]; omega), by first | omega | (simp only [List.length_append, List.length_cons, List.length_nil, lgs_len]; omega), by first | omega | (simp only [List.length_append, List.length_cons, List.length_nil, lgs_len]; omega), by first | omega | (simp only [List.length_append, List.length_cons, List.length_nil, lgs_len]; omega), _, rfl, ?_⟩⟩
        refine we_cmp (op := .Eq) (op_eqD (Room.units (k := 0) (by with_unfolding_all exact Room.mono (by assumption) (Nat.zero_le _)))) (nomark _) ?_
        refine we_fz ?_
        refine we_slL ?_
        walk_at "e"
        refine wo_none ?_
        refine wo_some ?_
        walk_at "e"
        refine ⟨_, rfl, ?_⟩
        refine ⟨_, (.l _), (fun _ z => by cases z), ?_⟩
        rw [show cutZ (seenL S1.length c1 r1) none (some 2) = [coD c1, .tuple (intsD r1)] from rfl]
        refine fun p13 => ⟨p13, _, _, rfl, rfl, by walk_at "pl", ?_⟩
        refine we_fz ?_
        refine we_slL ?_
        walk_at "e"
        walk_at "e"
        walk_at "e"
        walk_at "e"
        refine uw_neg ?_
        refine ow_ix (.l _) (hlst) ?_
        refine wo_none ?_
        refine wo_some ?_
        walk_at "e"
        refine ⟨_, rfl, ?_⟩
        refine ⟨_, (.l _), (fun _ z => by cases z), ?_⟩
        rw [show cutZ (seenL S.length c r) none (some 2) = [coD c, .tuple (intsD r)] from rfl]
        refine fun p14 => ⟨p14, _, _, rfl, rfl, by walk_at "pl", ?_⟩
        refine ow_eq (.d _) (.d _) hshp1 hshp ?_
        rw [eqv_sl42]
        refine ow_ne (.d _) (.d _) rfl rfl ⟨_, rfl, ?_⟩
        rw [eqv_dbool]
        refine itF (by rw [decide_eq_true rfl]; rfl) ?_
        refine ww_or1 ?_
        refine wt_cmp (op := .Eq) (op_eqD (Room.units (k := 0) (by with_unfolding_all exact Room.mono (by assumption) (Nat.zero_le _)))) (nomark _) ?_
        refine we_cmp (op := .NotEq) (op_neO m_eq one_ (by walk_at "room") (by assumption) rfl) (nomark _) ?_
        walk_at "e"
        walk_at "e"
        refine ow_neO [0, 0, 0, 0, 0, 0] ⟨hp2, hp1, _, _, _, _, rfl, rfl, List.mem_of_getElem? (i := 0) rfl, List.mem_of_getElem? (i := 3) rfl, ⟨_, _, rfl, rfl, _, _, rfl, rfl, _, _, rfl, rfl, _, _, rfl, rfl, _, _, rfl, rfl, _, _, rfl, rfl, rfl, rfl⟩, .inl ⟨hp2, ha2, hl2, S1, (c1, r1), [], hp1, ha1, hl1, S, (c, r), L, rfl, rfl, hco1, hco, by first | omega | (simp only [List.length_append, List.length_cons, List.length_nil, lgs_len]; omega), by first | omega | (simp only [List.length_append, List.length_cons, List.length_nil, lgs_len]; omega), by first | omega | (simp only [List.length_append, List.length_cons, List.length_nil, lgs_len]; omega), by first | omega | (simp only [List.length_append, List.length_cons, List.length_nil, lgs_len]; omega), _, rfl, ?_⟩⟩
        refine we_cmp (op := .Eq) (op_eqO m_eq (by walk_at "room") (by assumption) rfl) (nomark _) ?_
        walk_at "e"
        walk_at "e"
        refine ow_eqO [0, 0, 0, 0, 0, 0] ⟨hp2, hp1, _, _, _, _, rfl, rfl, List.mem_of_getElem? (i := 0) rfl, List.mem_of_getElem? (i := 3) rfl, ⟨_, _, rfl, rfl, _, _, rfl, rfl, _, _, rfl, rfl, _, _, rfl, rfl, _, _, rfl, rfl, _, _, rfl, rfl, rfl, rfl⟩, .inl ⟨hp2, ha2, hl2, S1, (c1, r1), [], hp1, ha1, hl1, S, (c, r), L, rfl, rfl, hco1, hco, by first | omega | (simp only [List.length_append, List.length_cons, List.length_nil, lgs_len]; omega), by first | omega | (simp only [List.length_append, List.length_cons, List.length_nil, lgs_len]; omega), by first | omega | (simp only [List.length_append, List.length_cons, List.length_nil, lgs_len]; omega), by first | omega | (simp only [List.length_append, List.length_cons, List.length_nil, lgs_len]; omega), _, rfl, ?_⟩⟩
        refine ow_eq (.d _) (.d _) rfl rfl ⟨_, rfl, ?_⟩
        rw [eqv_dbool]
        refine itF (by cases (decide ((c1, r1) = (c, r))) <;> rfl) ?_
        refine wb_nil ?_
        refine wb_cons (ws_if ?_)
        refine wt_not ?_
        refine wt_val ?_
        refine we_clS [9, 3, 3, 3, 0, 0, 0] (wc_pos c_law_copy_right (by walk_at "room") rfl ?_)
        refine wa_cons ?_
        walk_at "e"
        refine wa_cons ?_
        walk_at "e"
        refine wa_cons ?_
        walk_at "e"
        refine wa_cons ?_
        walk_at "e"
        refine wa_one ?_
        refine we_ia (.d dah) ?_ ?_
        · skip
          rcases hdah with ⟨h0, h1⟩ | ⟨h0, h1⟩
          · skip
            refine we_if ?_
            refine wt_cmp (op := .Gt) op_gt (nomark _) ?_
            walk_at "e"
            walk_at "e"
            refine ow_cmp ⟨_, rfl, ?_⟩
            refine itF (decide_eq_false (by omega)) ?_
            walk_at "e"
            exact ⟨congrArg Vd.d h1.symm, rfl⟩
          · skip
            refine we_if ?_
            refine wt_cmp (op := .Gt) op_gt (nomark _) ?_
            walk_at "e"
            walk_at "e"
            refine ow_cmp ⟨_, rfl, ?_⟩
            refine itT (decide_eq_true (by omega)) ?_
            walk_at "e"
            walk_at "e"
            walk_at "e"
            walk_at "e"
            walk_at "e"
            refine ow_sub ?_
            refine ow_ix (.l _) ((by rw [show ((j : Nat) : Int) - 1 = ((j - 1 : Nat) : Int) from by omega]; exact atI_nat h1)) ?_
            exact ⟨rfl, rfl⟩
        refine ⟨_, _, ⟨_, _, rfl, rfl, _, _, rfl, rfl, _, _, rfl, rfl, _, _, rfl, rfl, _, _, rfl, rfl, _, _, rfl, rfl, _, _, rfl, rfl, rfl, rfl⟩, ?_⟩
        refine ⟨b, ys, _, hp1, ha1, hl1, S, c, r, L, hp2, ha2, hl2, S1, c1, r1, dah, rfl, rfl, hk2, gg, by first | omega | (simp only [List.length_append, List.length_cons, List.length_nil, lgs_len]; omega), by first | omega | (simp only [List.length_append, List.length_cons, List.length_nil, lgs_len]; omega), hLo, g1, by first | omega | (simp only [List.length_append, List.length_cons, List.length_nil, lgs_len]; omega), by first | omega | (simp only [List.length_append, List.length_cons, List.length_nil, lgs_len]; omega), by omega, hdok, fun bs5 hb5 => ?_⟩
        refine ⟨_, rfl, ?_⟩
        refine itF rfl ?_
        refine wb_nil ?_
        refine wb_ord [4, 4, 4, 0, 0, 0, 0] ⟨_, _, rfl, rfl, _, _, rfl, rfl, _, _, rfl, rfl, _, _, rfl, rfl, _, _, rfl, rfl, _, _, rfl, rfl, _, _, rfl, rfl, rfl, rfl⟩ ?_
        refine wb_drop ?_
        refine wb_drop ?_
        refine wb_drop ?_
        refine wb_nil ?_
        exact ⟨bs5, _, _, _, _, _, _, rfl, rfl, ⟨hb5, by omega⟩⟩
      · rw [enumD_len] at hI
        obtain ⟨ys, k2, x3, x4, x5, x6, x7, rfl, rfl, ⟨hk2, hkm2⟩⟩ := hI
        have hkm2 : k2 ≤ m + 9000 + 100 * (S.length + 1) := by rw [seeT_len, hlT] at hkm2; exact hkm2
        have hlst : atI (seeT (S ++ [(c, r)])) (-1) = some (.list (seenL S.length c r)) := atI_last9 (seeT_get (x := (c, r)) List.getElem?_concat_length) (by rw [seeT_len, hlT])
        refine wb_cons (ws_if ?_)
        refine wt_not ?_
        refine wt_val ?_
        refine we_clS [6, 3, 3, 3, 0, 0, 0] (wc_pos c_law_copy_right (by walk_at "room") rfl ?_)
        refine wa_cons ?_
        walk_at "e"
        refine wa_cons ?_
        walk_at "e"
        refine wa_cons ?_
        refine we_clS [1, 1, 1] (wc_mt0 m_twin ocl (by walk_at "room") ?_)
        walk_at "e"
        refine ⟨hp1, ⟨rfl, _, List.mem_of_getElem? (i := 1) rfl, hall_no (by decide +kernel) (by decide +kernel)⟩, ?_⟩
        refine ⟨_, _, ⟨_, _, rfl, rfl, _, _, rfl, rfl, _, _, rfl, rfl, rfl, rfl⟩, ?_⟩
        refine ⟨hp1, ha1, hl1, S, (c, r), L, rfl, rfl, by first | omega | (simp only [List.length_append, List.length_cons, List.length_nil, lgs_len]; omega), fun hp4 ha4 hl4 => ?_⟩
        refine wa_cons ?_
        walk_at "e"
        walk_at "e"
        walk_at "e"
        walk_at "e"
        refine uw_neg ?_
        refine ow_ix (.l _) (hlst) ?_
        refine wa_one ?_
        walk_at "e"
        refine ⟨_, _, ⟨_, _, rfl, rfl, _, _, rfl, rfl, _, _, rfl, rfl, _, _, rfl, rfl, _, _, rfl, rfl, _, _, rfl, rfl, _, _, rfl, rfl, rfl, rfl⟩, ?_⟩
        refine ⟨b, ys, _, hp1, ha1, hl1, S, c, r, L, hp4, ha4, hl4, S, c, r, .none, rfl, rfl, hk2, gg, by first | omega | (simp only [List.length_append, List.length_cons, List.length_nil, lgs_len]; omega), by first | omega | (simp only [List.length_append, List.length_cons, List.length_nil, lgs_len]; omega), hLo, gg, by first | omega | (simp only [List.length_append, List.length_cons, List.length_nil, lgs_len]; omega), by first | omega | (simp only [List.length_append, List.length_cons, List.length_nil, lgs_len]; omega), by omega, .inl rfl, fun bs6 hb6 => ?_⟩
        refine ⟨_, rfl, ?_⟩
        refine itF rfl ?_
        refine wb_nil ?_
        refine wb_one (ws_ret ?_)
        refine we_and ?_
        refine we_clS [1, 1, 1] (wc_pos c_law_equal_right (by walk_at "room") rfl ?_)
        refine wa_one ?_
        walk_at "e"
        refine ⟨_, _, ⟨_, _, rfl, rfl, _, _, rfl, rfl, _, _, rfl, rfl, rfl, rfl⟩, ?_⟩
        refine ⟨hp1, ha1, hl1, S, c, r, L, rfl, rfl, gg, ggl, by first | omega | (simp only [List.length_append, List.length_cons, List.length_nil, lgs_len]; omega), by first | omega | (simp only [List.length_append, List.length_cons, List.length_nil, lgs_len]; omega), ?_⟩
        refine ⟨_, rfl, itT (rfl) ?_⟩
        refine we_one ?_
        refine we_clS [3, 0, 0, 0] (wc_pos c_law_apart_right (by walk_at "room") rfl ?_)
        refine wa_cons ?_
        walk_at "e"
        refine wa_cons ?_
        walk_at "e"
        refine wa_one ?_
        walk_at "e"
        refine ⟨_, _, ⟨_, _, rfl, rfl, _, _, rfl, rfl, _, _, rfl, rfl, _, _, rfl, rfl, rfl, rfl⟩, ?_⟩
        refine ⟨b, bs6, _, hp1, ha1, hl1, S, c, r, L, rfl, rfl, hb6, hG, by first | omega | (simp only [List.length_append, List.length_cons, List.length_nil, lgs_len]; omega), by first | omega | (simp only [List.length_append, List.length_cons, List.length_nil, lgs_len]; omega), by omega, fun bs7 hb7 => ?_⟩
        exact keep (hR _ (hb7.mono (by omega)))
theorem ok_law {f : Addr} {fd : FuncData} (F : Fun K "law" "law" s_law f fd) (B : Bl mg) (c1 : Cal P w K mg base 2 "_law_box" T_box) (c2 : Cal P w K mg base 12 "_law_right" (T_right 20000)) : FnG P w K mg base CX0 13 f fd ["_law_script"] (spW K T_law) := by
  refine fn_w F sc_law (by decide) (fun xs μ R h => ?_) fun cdv A outer s H E hr hgd xs μ R hT => ?_
  · obtain ⟨ns, rfl, _⟩ := h
    rfl
  · obtain ⟨ns, rfl, hl, rfl, hR⟩ := hT
    refine wb_names (N := ["_law_script", "_law_k"]) rfl fun hn => ?_
    have n0 := hn 0 _ rfl
    have n1 := hn 1 _ rfl
    refine wb_one (ws_ret ?_)
    refine we_all B rfl rfl ?_
    refine we_lc [("_law_k", 1)] rfl sc_law.nd (blkOk_by (N := ["_law_script", "_law_k"]) (sc := defScope s_law) (by decide +kernel)) ?_
    refine wi_range1 rfl B.range ?_
    refine wa_one ?_
    walk_at "e"
    walk_at "e"
    refine we_min2 B rfl rfl ?_
    refine we_int ?_
    refine we_len B rfl ?_
    walk_at "e"
    refine ⟨_, .s _, _, _, rfl, rfl, ?_⟩
    refine ow_add ?_
    have hlo : (0 : Int) ≤ (if (((intsD ns).length : Nat) : Int) < 3 then (((intsD ns).length : Nat) : Int) else 3) := by split <;> omega
    have hhi : (if (((intsD ns).length : Nat) : Int) < 3 then (((intsD ns).length : Nat) : Int) else 3) ≤ 3 := by split <;> omega
    generalize (if (((intsD ns).length : Nat) : Int) < 3 then (((intsD ns).length : Nat) : Int) else 3) = lim at hlo hhi
    refine ⟨_, rfl, by omega, by omega, ?_⟩
    refine ⟨fun j acc μ' => acc = blsD (List.replicate j true), rfl, by rw [rangeD_len]; omega, fun j acc μ' hI => ?_, fun j d acc μ' hd hI => ?_, fun acc μ' hI p => ?_⟩
    · rw [hI, List.length_map, List.length_replicate]
      exact Nat.le_refl _
    · subst hI
      have hj := (List.getElem?_eq_some_iff.mp hd).1
      rw [rangeD_len] at hj
      rw [rangeD_get hj] at hd
      cases hd
      rw [Int.zero_add]
      intro s1 H1 C cl fp
      refine wg_name 1 sc_law.nd n1 (by walk_at "loc") (by first | exact .inl rfl | exact .inr rfl) (by decide) ?_
      intro s1 H1 C cl fp
      refine wts_nil ?_
      refine itT rfl ?_
      intro s1 H1 C cl fp
      refine we_callB 0 c2 (by walk_at "room") rfl ?_
      refine wa_one ?_
      refine we_callP c1 (by walk_at "room") rfl ?_
      walk_at "go"
      refine ⟨ns, j, rfl, by omega, fun b ds hb => ?_⟩
      refine ⟨b, ds, rfl, b, ds, _, rfl, rfl, hb, by omega, fun ds2 hb2 => ⟨[], ds2, rfl, _, rfl, ?_⟩⟩
      show blsD (List.replicate j true) ++ [PyData.bool true] = blsD (List.replicate (j + 1) true)
      rw [List.replicate_succ']
      simp [blsD]
    · subst hI
      refine ⟨List.replicate _ true, .c 0 rfl, (fun _ z => by cases z), ?_⟩
      have e : ∀ k, ((List.replicate k true).all id) = true := fun k => List.all_eq_true.mpr fun x hx => (List.mem_replicate.mp hx).2
      rw [e]
      exact keep_all hR
end
def spLaw (K : PySem.W.Frag) : Sp := fun vs H Q _ => ∃ (a : Addr) (ns : List Int), vs = [.ref a] ∧ SqL K H a (ns.map V.int) ∧ ns.length ≤ 63 ∧ ∀ H', Q (.bl true) H'
theorem all_mk {l : PySem.W.OpenLaw} {w : World} {K : PySem.W.Frag} {h : Heap} {mg : Str → Option Value} {fa : Addr} (X : K.In h) (G : h.Ns mainGlobals mg) (hfa : mg "law" = some (.ref fa))
    {c_Gathering : Addr}
    {od0 an0 : Option Addr} {sl0 : Array (Option Value)} {oc0 kV0 dc0 pm0 cd0 ct0 : Value} {f0 : Addr}
    {od1 an1 : Option Addr} {sl1 : Array (Option Value)} {oc1 kV1 dc1 pm1 cd1 ct1 : Value} {f1 : Addr}
    {od2 an2 : Option Addr} {sl2 : Array (Option Value)} {oc2 kV2 dc2 pm2 cd2 ct2 : Value} {f2 : Addr}
    {od3 an3 : Option Addr} {sl3 : Array (Option Value)} {oc3 kV3 dc3 pm3 cd3 ct3 : Value} {f3 : Addr}
    {od4 an4 : Option Addr} {sl4 : Array (Option Value)} {oc4 kV4 dc4 pm4 cd4 ct4 : Value} {f4 : Addr}
    {od5 an5 : Option Addr} {sl5 : Array (Option Value)} {oc5 kV5 dc5 pm5 cd5 ct5 : Value} {f5 : Addr}
    {od6 an6 : Option Addr} {sl6 : Array (Option Value)} {oc6 kV6 dc6 pm6 cd6 ct6 : Value} {f6 : Addr}
    {od7 an7 : Option Addr} {sl7 : Array (Option Value)} {oc7 kV7 dc7 pm7 cd7 ct7 : Value} {f7 : Addr}
    {od8 an8 : Option Addr} {sl8 : Array (Option Value)} {oc8 kV8 dc8 pm8 cd8 ct8 : Value} {f8 : Addr}
    {od9 an9 : Option Addr} {sl9 : Array (Option Value)} {oc9 kV9 dc9 pm9 cd9 ct9 : Value} {f9 : Addr}
    {tD tE : Addr} {oD oE : Obj} {nD nE : Nat}
    {od10 an10 : Option Addr} {sl10 : Array (Option Value)} {oc10 kV10 dc10 pm10 cd10 ct10 : Value} {f10 : Addr}
    {od11 an11 : Option Addr} {sl11 : Array (Option Value)} {oc11 kV11 dc11 pm11 cd11 ct11 : Value} {f11 : Addr}
    {od12 an12 : Option Addr} {sl12 : Array (Option Value)} {oc12 kV12 dc12 pm12 cd12 ct12 : Value} {f12 : Addr}
    {od13 an13 : Option Addr} {sl13 : Array (Option Value)} {oc13 kV13 dc13 pm13 cd13 ct13 : Value} {f13 : Addr}
    {od14 an14 : Option Addr} {sl14 : Array (Option Value)} {oc14 kV14 dc14 pm14 cd14 ct14 : Value} {f14 : Addr}
    {od15 an15 : Option Addr} {sl15 : Array (Option Value)} {oc15 kV15 dc15 pm15 cd15 ct15 : Value} {f15 : Addr}
    {od16 an16 : Option Addr} {sl16 : Array (Option Value)} {oc16 kV16 dc16 pm16 cd16 ct16 : Value} {f16 : Addr}
    {od17 an17 : Option Addr} {sl17 : Array (Option Value)} {oc17 kV17 dc17 pm17 cd17 ct17 : Value} {f17 : Addr}
    {od18 an18 : Option Addr} {sl18 : Array (Option Value)} {oc18 kV18 dc18 pm18 cd18 ct18 : Value} {f18 : Addr}
    {od19 an19 : Option Addr} {sl19 : Array (Option Value)} {oc19 kV19 dc19 pm19 cd19 ct19 : Value} {f19 : Addr}
    {od20 an20 : Option Addr} {sl20 : Array (Option Value)} {oc20 kV20 dc20 pm20 cd20 ct20 : Value} {f20 : Addr}
    {od21 an21 : Option Addr} {sl21 : Array (Option Value)} {oc21 kV21 dc21 pm21 cd21 ct21 : Value} {f21 : Addr}
    {od22 an22 : Option Addr} {sl22 : Array (Option Value)} {oc22 kV22 dc22 pm22 cd22 ct22 : Value} {f22 : Addr}
    {od23 an23 : Option Addr} {sl23 : Array (Option Value)} {oc23 kV23 dc23 pm23 cd23 ct23 : Value} {f23 : Addr}
    {od24 an24 : Option Addr} {sl24 : Array (Option Value)} {oc24 kV24 dc24 pm24 cd24 ct24 : Value} {f24 : Addr}
    {od25 an25 : Option Addr} {sl25 : Array (Option Value)} {oc25 kV25 dc25 pm25 cd25 ct25 : Value} {f25 : Addr}
    {od26 an26 : Option Addr} {sl26 : Array (Option Value)} {oc26 kV26 dc26 pm26 cd26 ct26 : Value} {f26 : Addr}
    {od27 an27 : Option Addr} {sl27 : Array (Option Value)} {oc27 kV27 dc27 pm27 cd27 ct27 : Value} {f27 : Addr}
    {od28 an28 : Option Addr} {sl28 : Array (Option Value)} {oc28 kV28 dc28 pm28 cd28 ct28 : Value} {f28 : Addr}
    {od29 an29 : Option Addr} {sl29 : Array (Option Value)} {oc29 kV29 dc29 pm29 cd29 ct29 : Value} {f29 : Addr}
    {od30 an30 : Option Addr} {sl30 : Array (Option Value)} {oc30 kV30 dc30 pm30 cd30 ct30 : Value} {f30 : Addr}
    {od31 an31 : Option Addr} {sl31 : Array (Option Value)} {oc31 kV31 dc31 pm31 cd31 ct31 : Value} {f31 : Addr}
    {od32 an32 : Option Addr} {sl32 : Array (Option Value)} {oc32 kV32 dc32 pm32 cd32 ct32 : Value} {f32 : Addr}
    {od33 an33 : Option Addr} {sl33 : Array (Option Value)} {oc33 kV33 dc33 pm33 cd33 ct33 : Value} {f33 : Addr}
    {od34 an34 : Option Addr} {sl34 : Array (Option Value)} {oc34 kV34 dc34 pm34 cd34 ct34 : Value} {f34 : Addr}
    {od35 an35 : Option Addr} {sl35 : Array (Option Value)} {oc35 kV35 dc35 pm35 cd35 ct35 : Value} {f35 : Addr}
    {od36 an36 : Option Addr} {sl36 : Array (Option Value)} {oc36 kV36 dc36 pm36 cd36 ct36 : Value} {f36 : Addr}
    {od37 an37 : Option Addr} {sl37 : Array (Option Value)} {oc37 kV37 dc37 pm37 cd37 ct37 : Value} {f37 : Addr}
    {od38 an38 : Option Addr} {sl38 : Array (Option Value)} {oc38 kV38 dc38 pm38 cd38 ct38 : Value} {f38 : Addr}
    {od39 an39 : Option Addr} {sl39 : Array (Option Value)} {oc39 kV39 dc39 pm39 cd39 ct39 : Value} {f39 : Addr}
    {od40 an40 : Option Addr} {sl40 : Array (Option Value)} {oc40 kV40 dc40 pm40 cd40 ct40 : Value} {f40 : Addr}
    {od41 an41 : Option Addr} {sl41 : Array (Option Value)} {oc41 kV41 dc41 pm41 cd41 ct41 : Value} {f41 : Addr}
    {c_NoPerson fINoPerson NNoPerson : Addr} {nmNoPerson qNoPerson : Str} {bsNoPerson subNoPerson : List Value} {snNoPerson : List Str} {abNoPerson : Bool} {colNoPerson : Option Bool} {ddNoPerson odINoPerson anINoPerson : Option Addr} {k0NoPerson k1NoPerson k2NoPerson k3NoPerson k5NoPerson : Option Value} {slINoPerson : Array (Option Value)} {ocINoPerson kVINoPerson dcINoPerson pmINoPerson cdINoPerson ctINoPerson : Value}
    {c_NoOperation fINoOperation NNoOperation : Addr} {nmNoOperation qNoOperation : Str} {bsNoOperation subNoOperation : List Value} {snNoOperation : List Str} {abNoOperation : Bool} {colNoOperation : Option Bool} {ddNoOperation odINoOperation anINoOperation : Option Addr} {k0NoOperation k1NoOperation k2NoOperation k3NoOperation k5NoOperation : Option Value} {slINoOperation : Array (Option Value)} {ocINoOperation kVINoOperation dcINoOperation pmINoOperation cdINoOperation ctINoOperation : Value}
    {c_Early fIEarly NEarly : Addr} {nmEarly qEarly : Str} {bsEarly subEarly : List Value} {snEarly : List Str} {abEarly : Bool} {colEarly : Option Bool} {ddEarly odIEarly anIEarly : Option Addr} {k0Early k1Early k2Early k3Early k5Early : Option Value} {slIEarly : Array (Option Value)} {ocIEarly kVIEarly dcIEarly pmIEarly cdIEarly ctIEarly : Value}
    {c_Here fIHere NHere : Addr} {nmHere qHere : Str} {bsHere subHere : List Value} {snHere : List Str} {abHere : Bool} {colHere : Option Bool} {ddHere odIHere anIHere : Option Addr} {k0Here k1Here k2Here k3Here k5Here : Option Value} {slIHere : Array (Option Value)} {ocIHere kVIHere dcIHere pmIHere cdIHere ctIHere : Value}
    {c_Full fIFull NFull : Addr} {nmFull qFull : Str} {bsFull subFull : List Value} {snFull : List Str} {abFull : Bool} {colFull : Option Bool} {ddFull odIFull anIFull : Option Addr} {k0Full k1Full k2Full k3Full k5Full : Option Value} {slIFull : Array (Option Value)} {ocIFull kVIFull dcIFull pmIFull cdIFull ctIFull : Value}
    {tkMOST_THERE : Tok}
    (a0 : PySem.W.nsIn K mainGlobals "plain" = some (some (.ref f0)))
    (l0 : K.lookup f0 = some ⟨oc0, od0, .func (PySem.W.fnOf "plain" "plain" (defArgs s_plain) (defBody s_plain) (defScope s_plain) .none kV0 dc0 pm0 an0 cd0 ct0), sl0⟩)
    (c0 : PySem.W.codeIn K cd0 "plain" = true)
    (k0 : PySem.W.keepIn K (.ref f0) = true)
    (a1 : PySem.W.nsIn K mainGlobals "look_person" = some (some (.ref f1)))
    (l1 : K.lookup f1 = some ⟨oc1, od1, .func (PySem.W.fnOf "look_person" "look_person" (defArgs s_look_person) (defBody s_look_person) (defScope s_look_person) .none kV1 dc1 pm1 an1 cd1 ct1), sl1⟩)
    (c1 : PySem.W.codeIn K cd1 "look_person" = true)
    (k1 : PySem.W.keepIn K (.ref f1) = true)
    (a2 : PySem.W.nsIn K mainGlobals "with_need" = some (some (.ref f2)))
    (l2 : K.lookup f2 = some ⟨oc2, od2, .func (PySem.W.fnOf "with_need" "with_need" (defArgs s_with_need) (defBody s_with_need) (defScope s_with_need) .none kV2 dc2 pm2 an2 cd2 ct2), sl2⟩)
    (c2 : PySem.W.codeIn K cd2 "with_need" = true)
    (k2 : PySem.W.keepIn K (.ref f2) = true)
    (a3 : PySem.W.nsIn K mainGlobals "count_there" = some (some (.ref f3)))
    (l3 : K.lookup f3 = some ⟨oc3, od3, .func (PySem.W.fnOf "count_there" "count_there" (defArgs s_count_there) (defBody s_count_there) (defScope s_count_there) .none kV3 dc3 pm3 an3 cd3 ct3), sl3⟩)
    (c3 : PySem.W.codeIn K cd3 "count_there" = true)
    (k3 : PySem.W.keepIn K (.ref f3) = true)
    (a4 : PySem.W.nsIn K mainGlobals "can_come" = some (some (.ref f4)))
    (l4 : K.lookup f4 = some ⟨oc4, od4, .func (PySem.W.fnOf "can_come" "can_come" (defArgs s_can_come) (defBody s_can_come) (defScope s_can_come) .none kV4 dc4 pm4 an4 cd4 ct4), sl4⟩)
    (c4 : PySem.W.codeIn K cd4 "can_come" = true)
    (k4 : PySem.W.keepIn K (.ref f4) = true)
    (a5 : PySem.W.nsIn K mainGlobals "next_people" = some (some (.ref f5)))
    (l5 : K.lookup f5 = some ⟨oc5, od5, .func (PySem.W.fnOf "next_people" "next_people" (defArgs s_next_people) (defBody s_next_people) (defScope s_next_people) .none kV5 dc5 pm5 an5 cd5 ct5), sl5⟩)
    (c5 : PySem.W.codeIn K cd5 "next_people" = true)
    (k5 : PySem.W.keepIn K (.ref f5) = true)
    (a6 : PySem.W.nsIn K mainGlobals "all_rounds" = some (some (.ref f6)))
    (l6 : K.lookup f6 = some ⟨oc6, od6, .func (PySem.W.fnOf "all_rounds" "all_rounds" (defArgs s_all_rounds) (defBody s_all_rounds) (defScope s_all_rounds) .none kV6 dc6 pm6 an6 cd6 ct6), sl6⟩)
    (c6 : PySem.W.codeIn K cd6 "all_rounds" = true)
    (k6 : PySem.W.keepIn K (.ref f6) = true)
    (a7 : PySem.W.nsIn K mainGlobals "closure" = some (some (.ref f7)))
    (l7 : K.lookup f7 = some ⟨oc7, od7, .func (PySem.W.fnOf "closure" "closure" (defArgs s_closure) (defBody s_closure) (defScope s_closure) .none kV7 dc7 pm7 an7 cd7 ct7), sl7⟩)
    (c7 : PySem.W.codeIn K cd7 "closure" = true)
    (k7 : PySem.W.keepIn K (.ref f7) = true)
    (a8 : PySem.W.nsIn K mainGlobals "came_later" = some (some (.ref f8)))
    (l8 : K.lookup f8 = some ⟨oc8, od8, .func (PySem.W.fnOf "came_later" "came_later" (defArgs s_came_later) (defBody s_came_later) (defScope s_came_later) .none kV8 dc8 pm8 an8 cd8 ct8), sl8⟩)
    (c8 : PySem.W.codeIn K cd8 "came_later" = true)
    (k8 : PySem.W.keepIn K (.ref f8) = true)
    (a9 : PySem.W.findIn K (.ref c_Gathering) "__init__" = some (some (.ref f9)))
    (i9 : PySem.W.isFn K (.ref f9) = true)
    (tL : K.lookup tD = some oD)
    (tO : oD.data = .seq #[.ref tE] nD)
    (eL : K.lookup tE = some oE)
    (eC : oE.cls = .type "tuple")
    (eO : oE.data = .seq #[] nE)
    (l9 : K.lookup f9 = some ⟨oc9, od9, .func (PySem.W.fnOf "__init__" "Gathering.__init__" (defArgs s_m___init__) (defBody s_m___init__) (defScope s_m___init__) (.ref tD) kV9 dc9 pm9 an9 cd9 ct9), sl9⟩)
    (c9 : PySem.W.codeIn K cd9 "Gathering.__init__" = true)
    (k9 : PySem.W.keepIn K (.ref f9) = true)
    (a10 : PySem.W.findIn K (.ref c_Gathering) "company" = some (some (.ref f10)))
    (i10 : PySem.W.isFn K (.ref f10) = true)
    (l10 : K.lookup f10 = some ⟨oc10, od10, .func (PySem.W.fnOf "company" "Gathering.company" (defArgs s_m_company) (defBody s_m_company) (defScope s_m_company) .none kV10 dc10 pm10 an10 cd10 ct10), sl10⟩)
    (c10 : PySem.W.codeIn K cd10 "Gathering.company" = true)
    (k10 : PySem.W.keepIn K (.ref f10) = true)
    (a11 : PySem.W.findIn K (.ref c_Gathering) "came" = some (some (.ref f11)))
    (i11 : PySem.W.isFn K (.ref f11) = true)
    (l11 : K.lookup f11 = some ⟨oc11, od11, .func (PySem.W.fnOf "came" "Gathering.came" (defArgs s_m_came) (defBody s_m_came) (defScope s_m_came) .none kV11 dc11 pm11 an11 cd11 ct11), sl11⟩)
    (c11 : PySem.W.codeIn K cd11 "Gathering.came" = true)
    (k11 : PySem.W.keepIn K (.ref f11) = true)
    (a12 : PySem.W.findIn K (.ref c_Gathering) "come" = some (some (.ref f12)))
    (i12 : PySem.W.isFn K (.ref f12) = true)
    (l12 : K.lookup f12 = some ⟨oc12, od12, .func (PySem.W.fnOf "come" "Gathering.come" (defArgs s_m_come) (defBody s_m_come) (defScope s_m_come) .none kV12 dc12 pm12 an12 cd12 ct12), sl12⟩)
    (c12 : PySem.W.codeIn K cd12 "Gathering.come" = true)
    (k12 : PySem.W.keepIn K (.ref f12) = true)
    (a13 : PySem.W.findIn K (.ref c_Gathering) "come_all" = some (some (.ref f13)))
    (i13 : PySem.W.isFn K (.ref f13) = true)
    (l13 : K.lookup f13 = some ⟨oc13, od13, .func (PySem.W.fnOf "come_all" "Gathering.come_all" (defArgs s_m_come_all) (defBody s_m_come_all) (defScope s_m_come_all) .none kV13 dc13 pm13 an13 cd13 ct13), sl13⟩)
    (c13 : PySem.W.codeIn K cd13 "Gathering.come_all" = true)
    (k13 : PySem.W.keepIn K (.ref f13) = true)
    (a14 : PySem.W.findIn K (.ref c_Gathering) "meet" = some (some (.ref f14)))
    (i14 : PySem.W.isFn K (.ref f14) = true)
    (l14 : K.lookup f14 = some ⟨oc14, od14, .func (PySem.W.fnOf "meet" "Gathering.meet" (defArgs s_m_meet) (defBody s_m_meet) (defScope s_m_meet) .none kV14 dc14 pm14 an14 cd14 ct14), sl14⟩)
    (c14 : PySem.W.codeIn K cd14 "Gathering.meet" = true)
    (k14 : PySem.W.keepIn K (.ref f14) = true)
    (a15 : PySem.W.findIn K (.ref c_Gathering) "add_person" = some (some (.ref f15)))
    (i15 : PySem.W.isFn K (.ref f15) = true)
    (l15 : K.lookup f15 = some ⟨oc15, od15, .func (PySem.W.fnOf "add_person" "Gathering.add_person" (defArgs s_m_add_person) (defBody s_m_add_person) (defScope s_m_add_person) .none kV15 dc15 pm15 an15 cd15 ct15), sl15⟩)
    (c15 : PySem.W.codeIn K cd15 "Gathering.add_person" = true)
    (k15 : PySem.W.keepIn K (.ref f15) = true)
    (a16 : PySem.W.findIn K (.ref c_Gathering) "set_need" = some (some (.ref f16)))
    (i16 : PySem.W.isFn K (.ref f16) = true)
    (l16 : K.lookup f16 = some ⟨oc16, od16, .func (PySem.W.fnOf "set_need" "Gathering.set_need" (defArgs s_m_set_need) (defBody s_m_set_need) (defScope s_m_set_need) .none kV16 dc16 pm16 an16 cd16 ct16), sl16⟩)
    (c16 : PySem.W.codeIn K cd16 "Gathering.set_need" = true)
    (k16 : PySem.W.keepIn K (.ref f16) = true)
    (a17 : PySem.W.findIn K (.ref c_Gathering) "undo" = some (some (.ref f17)))
    (i17 : PySem.W.isFn K (.ref f17) = true)
    (l17 : K.lookup f17 = some ⟨oc17, od17, .func (PySem.W.fnOf "undo" "Gathering.undo" (defArgs s_m_undo) (defBody s_m_undo) (defScope s_m_undo) .none kV17 dc17 pm17 an17 cd17 ct17), sl17⟩)
    (c17 : PySem.W.codeIn K cd17 "Gathering.undo" = true)
    (k17 : PySem.W.keepIn K (.ref f17) = true)
    (a18 : PySem.W.findIn K (.ref c_Gathering) "waiting" = some (some (.ref f18)))
    (i18 : PySem.W.isFn K (.ref f18) = true)
    (l18 : K.lookup f18 = some ⟨oc18, od18, .func (PySem.W.fnOf "waiting" "Gathering.waiting" (defArgs s_m_waiting) (defBody s_m_waiting) (defScope s_m_waiting) .none kV18 dc18 pm18 an18 cd18 ct18), sl18⟩)
    (c18 : PySem.W.codeIn K cd18 "Gathering.waiting" = true)
    (k18 : PySem.W.keepIn K (.ref f18) = true)
    (a19 : PySem.W.findIn K (.ref c_Gathering) "next_people" = some (some (.ref f19)))
    (i19 : PySem.W.isFn K (.ref f19) = true)
    (l19 : K.lookup f19 = some ⟨oc19, od19, .func (PySem.W.fnOf "next_people" "Gathering.next_people" (defArgs s_m_next_people) (defBody s_m_next_people) (defScope s_m_next_people) .none kV19 dc19 pm19 an19 cd19 ct19), sl19⟩)
    (c19 : PySem.W.codeIn K cd19 "Gathering.next_people" = true)
    (k19 : PySem.W.keepIn K (.ref f19) = true)
    (a20 : PySem.W.findIn K (.ref c_Gathering) "will_never" = some (some (.ref f20)))
    (i20 : PySem.W.isFn K (.ref f20) = true)
    (l20 : K.lookup f20 = some ⟨oc20, od20, .func (PySem.W.fnOf "will_never" "Gathering.will_never" (defArgs s_m_will_never) (defBody s_m_will_never) (defScope s_m_will_never) .none kV20 dc20 pm20 an20 cd20 ct20), sl20⟩)
    (c20 : PySem.W.codeIn K cd20 "Gathering.will_never" = true)
    (k20 : PySem.W.keepIn K (.ref f20) = true)
    (a21 : PySem.W.findIn K (.ref c_Gathering) "operations" = some (some (.ref f21)))
    (i21 : PySem.W.isFn K (.ref f21) = true)
    (l21 : K.lookup f21 = some ⟨oc21, od21, .func (PySem.W.fnOf "operations" "Gathering.operations" (defArgs s_m_operations) (defBody s_m_operations) (defScope s_m_operations) .none kV21 dc21 pm21 an21 cd21 ct21), sl21⟩)
    (c21 : PySem.W.codeIn K cd21 "Gathering.operations" = true)
    (k21 : PySem.W.keepIn K (.ref f21) = true)
    (a22 : PySem.W.findIn K (.ref c_Gathering) "as_of" = some (some (.ref f22)))
    (i22 : PySem.W.isFn K (.ref f22) = true)
    (l22 : K.lookup f22 = some ⟨oc22, od22, .func (PySem.W.fnOf "as_of" "Gathering.as_of" (defArgs s_m_as_of) (defBody s_m_as_of) (defScope s_m_as_of) .none kV22 dc22 pm22 an22 cd22 ct22), sl22⟩)
    (c22 : PySem.W.codeIn K cd22 "Gathering.as_of" = true)
    (k22 : PySem.W.keepIn K (.ref f22) = true)
    (a23 : PySem.W.findIn K (.ref c_Gathering) "twin" = some (some (.ref f23)))
    (i23 : PySem.W.isFn K (.ref f23) = true)
    (l23 : K.lookup f23 = some ⟨oc23, od23, .func (PySem.W.fnOf "twin" "Gathering.twin" (defArgs s_m_twin) (defBody s_m_twin) (defScope s_m_twin) .none kV23 dc23 pm23 an23 cd23 ct23), sl23⟩)
    (c23 : PySem.W.codeIn K cd23 "Gathering.twin" = true)
    (k23 : PySem.W.keepIn K (.ref f23) = true)
    (a24 : PySem.W.findIn K (.ref c_Gathering) "log" = some (some (.ref f24)))
    (i24 : PySem.W.isFn K (.ref f24) = true)
    (l24 : K.lookup f24 = some ⟨oc24, od24, .func (PySem.W.fnOf "log" "Gathering.log" (defArgs s_m_log) (defBody s_m_log) (defScope s_m_log) .none kV24 dc24 pm24 an24 cd24 ct24), sl24⟩)
    (c24 : PySem.W.codeIn K cd24 "Gathering.log" = true)
    (k24 : PySem.W.keepIn K (.ref f24) = true)
    (a25 : PySem.W.findIn K (.ref c_Gathering) "__eq__" = some (some (.ref f25)))
    (i25 : PySem.W.isFn K (.ref f25) = true)
    (l25 : K.lookup f25 = some ⟨oc25, od25, .func (PySem.W.fnOf "__eq__" "Gathering.__eq__" (defArgs s_m___eq__) (defBody s_m___eq__) (defScope s_m___eq__) .none kV25 dc25 pm25 an25 cd25 ct25), sl25⟩)
    (c25 : PySem.W.codeIn K cd25 "Gathering.__eq__" = true)
    (k25 : PySem.W.keepIn K (.ref f25) = true)
    (a26 : PySem.W.findIn K (.ref c_Gathering) "__len__" = some (some (.ref f26)))
    (i26 : PySem.W.isFn K (.ref f26) = true)
    (l26 : K.lookup f26 = some ⟨oc26, od26, .func (PySem.W.fnOf "__len__" "Gathering.__len__" (defArgs s_m___len__) (defBody s_m___len__) (defScope s_m___len__) .none kV26 dc26 pm26 an26 cd26 ct26), sl26⟩)
    (c26 : PySem.W.codeIn K cd26 "Gathering.__len__" = true)
    (k26 : PySem.W.keepIn K (.ref f26) = true)
    (a27 : PySem.W.findIn K (.ref c_Gathering) "__repr__" = some (some (.ref f27)))
    (i27 : PySem.W.isFn K (.ref f27) = true)
    (l27 : K.lookup f27 = some ⟨oc27, od27, .func (PySem.W.fnOf "__repr__" "Gathering.__repr__" (defArgs s_m___repr__) (defBody s_m___repr__) (defScope s_m___repr__) .none kV27 dc27 pm27 an27 cd27 ct27), sl27⟩)
    (c27 : PySem.W.codeIn K cd27 "Gathering.__repr__" = true)
    (k27 : PySem.W.keepIn K (.ref f27) = true)
    (a28 : PySem.W.nsIn K mainGlobals "_law_cell_at" = some (some (.ref f28)))
    (l28 : K.lookup f28 = some ⟨oc28, od28, .func (PySem.W.fnOf "_law_cell_at" "_law_cell_at" (defArgs s_cell_at_l) (defBody s_cell_at_l) (defScope s_cell_at_l) .none kV28 dc28 pm28 an28 cd28 ct28), sl28⟩)
    (c28 : PySem.W.codeIn K cd28 "_law_cell_at" = true)
    (k28 : PySem.W.keepIn K (.ref f28) = true)
    (a29 : PySem.W.nsIn K mainGlobals "_law_box" = some (some (.ref f29)))
    (l29 : K.lookup f29 = some ⟨oc29, od29, .func (PySem.W.fnOf "_law_box" "_law_box" (defArgs s_box_l) (defBody s_box_l) (defScope s_box_l) .none kV29 dc29 pm29 an29 cd29 ct29), sl29⟩)
    (c29 : PySem.W.codeIn K cd29 "_law_box" = true)
    (k29 : PySem.W.keepIn K (.ref f29) = true)
    (a30 : PySem.W.nsIn K mainGlobals "_law_take" = some (some (.ref f30)))
    (l30 : K.lookup f30 = some ⟨oc30, od30, .func (PySem.W.fnOf "_law_take" "_law_take" (defArgs s_take_l) (defBody s_take_l) (defScope s_take_l) .none kV30 dc30 pm30 an30 cd30 ct30), sl30⟩)
    (c30 : PySem.W.codeIn K cd30 "_law_take" = true)
    (k30 : PySem.W.keepIn K (.ref f30) = true)
    (a31 : PySem.W.nsIn K mainGlobals "_law_of" = some (some (.ref f31)))
    (l31 : K.lookup f31 = some ⟨oc31, od31, .func (PySem.W.fnOf "_law_of" "_law_of" (defArgs s_of_l) (defBody s_of_l) (defScope s_of_l) .none kV31 dc31 pm31 an31 cd31 ct31), sl31⟩)
    (c31 : PySem.W.codeIn K cd31 "_law_of" = true)
    (k31 : PySem.W.keepIn K (.ref f31) = true)
    (a32 : PySem.W.nsIn K mainGlobals "_law_same" = some (some (.ref f32)))
    (l32 : K.lookup f32 = some ⟨oc32, od32, .func (PySem.W.fnOf "_law_same" "_law_same" (defArgs s_same_l) (defBody s_same_l) (defScope s_same_l) .none kV32 dc32 pm32 an32 cd32 ct32), sl32⟩)
    (c32 : PySem.W.codeIn K cd32 "_law_same" = true)
    (k32 : PySem.W.keepIn K (.ref f32) = true)
    (a33 : PySem.W.nsIn K mainGlobals "_law_crowd_of" = some (some (.ref f33)))
    (l33 : K.lookup f33 = some ⟨oc33, od33, .func (PySem.W.fnOf "_law_crowd_of" "_law_crowd_of" (defArgs s_crowd_of_l) (defBody s_crowd_of_l) (defScope s_crowd_of_l) .none kV33 dc33 pm33 an33 cd33 ct33), sl33⟩)
    (c33 : PySem.W.codeIn K cd33 "_law_crowd_of" = true)
    (k33 : PySem.W.keepIn K (.ref f33) = true)
    (a34 : PySem.W.nsIn K mainGlobals "_law_crowd" = some (some (.ref f34)))
    (l34 : K.lookup f34 = some ⟨oc34, od34, .func (PySem.W.fnOf "_law_crowd" "_law_crowd" (defArgs s_crowd_l) (defBody s_crowd_l) (defScope s_crowd_l) .none kV34 dc34 pm34 an34 cd34 ct34), sl34⟩)
    (c34 : PySem.W.codeIn K cd34 "_law_crowd" = true)
    (k34 : PySem.W.keepIn K (.ref f34) = true)
    (a35 : PySem.W.nsIn K mainGlobals "_law_seen_of" = some (some (.ref f35)))
    (l35 : K.lookup f35 = some ⟨oc35, od35, .func (PySem.W.fnOf "_law_seen_of" "_law_seen_of" (defArgs s_seen_of_l) (defBody s_seen_of_l) (defScope s_seen_of_l) .none kV35 dc35 pm35 an35 cd35 ct35), sl35⟩)
    (c35 : PySem.W.codeIn K cd35 "_law_seen_of" = true)
    (k35 : PySem.W.keepIn K (.ref f35) = true)
    (a36 : PySem.W.nsIn K mainGlobals "_law_led" = some (some (.ref f36)))
    (l36 : K.lookup f36 = some ⟨oc36, od36, .func (PySem.W.fnOf "_law_led" "_law_led" (defArgs s_led_l) (defBody s_led_l) (defScope s_led_l) .none kV36 dc36 pm36 an36 cd36 ct36), sl36⟩)
    (c36 : PySem.W.codeIn K cd36 "_law_led" = true)
    (k36 : PySem.W.keepIn K (.ref f36) = true)
    (a37 : PySem.W.nsIn K mainGlobals "_law_copy_right" = some (some (.ref f37)))
    (l37 : K.lookup f37 = some ⟨oc37, od37, .func (PySem.W.fnOf "_law_copy_right" "_law_copy_right" (defArgs s_copy_right_l) (defBody s_copy_right_l) (defScope s_copy_right_l) .none kV37 dc37 pm37 an37 cd37 ct37), sl37⟩)
    (c37 : PySem.W.codeIn K cd37 "_law_copy_right" = true)
    (k37 : PySem.W.keepIn K (.ref f37) = true)
    (a38 : PySem.W.nsIn K mainGlobals "_law_apart_right" = some (some (.ref f38)))
    (l38 : K.lookup f38 = some ⟨oc38, od38, .func (PySem.W.fnOf "_law_apart_right" "_law_apart_right" (defArgs s_apart_right_l) (defBody s_apart_right_l) (defScope s_apart_right_l) .none kV38 dc38 pm38 an38 cd38 ct38), sl38⟩)
    (c38 : PySem.W.codeIn K cd38 "_law_apart_right" = true)
    (k38 : PySem.W.keepIn K (.ref f38) = true)
    (a39 : PySem.W.nsIn K mainGlobals "_law_equal_right" = some (some (.ref f39)))
    (l39 : K.lookup f39 = some ⟨oc39, od39, .func (PySem.W.fnOf "_law_equal_right" "_law_equal_right" (defArgs s_equal_right_l) (defBody s_equal_right_l) (defScope s_equal_right_l) .none kV39 dc39 pm39 an39 cd39 ct39), sl39⟩)
    (c39 : PySem.W.codeIn K cd39 "_law_equal_right" = true)
    (k39 : PySem.W.keepIn K (.ref f39) = true)
    (a40 : PySem.W.nsIn K mainGlobals "_law_right" = some (some (.ref f40)))
    (l40 : K.lookup f40 = some ⟨oc40, od40, .func (PySem.W.fnOf "_law_right" "_law_right" (defArgs s_right_l) (defBody s_right_l) (defScope s_right_l) .none kV40 dc40 pm40 an40 cd40 ct40), sl40⟩)
    (c40 : PySem.W.codeIn K cd40 "_law_right" = true)
    (k40 : PySem.W.keepIn K (.ref f40) = true)
    (a41 : PySem.W.nsIn K mainGlobals "law" = some (some (.ref f41)))
    (l41 : K.lookup f41 = some ⟨oc41, od41, .func (PySem.W.fnOf "law" "law" (defArgs s_law) (defBody s_law) (defScope s_law) .none kV41 dc41 pm41 an41 cd41 ct41), sl41⟩)
    (c41 : PySem.W.codeIn K cd41 "law" = true)
    (k41 : PySem.W.keepIn K (.ref f41) = true)
    (oa : PySem.W.nsIn K mainGlobals "Gathering" = some (some (.ref c_Gathering)))
    (opg : PySem.W.plainGet K c_Gathering Str.empty = true)
    (ohd : PySem.W.hasDictIn K c_Gathering = true)
    (opo : PySem.W.plainOver K c_Gathering = true)
    (osa : PySem.W.findIn K (.ref c_Gathering) "__setattr__" = some (some (.builtin "object.__setattr__")))
    (omk : PySem.W.makesIn K c_Gathering = true)
    (okc : PySem.W.keepIn K (.ref c_Gathering) = true)
    (one : PySem.W.findIn K (.ref c_Gathering) "__ne__" = some (some (.builtin "object.__ne__")))
    (oca : PySem.W.findIn K (.ref c_Gathering) "__class__" = some (some (.builtin "object.__class__")))
    (osp : PySem.W.specialIn K (.builtin "object.__class__") "__get__" = some (some (.builtin "getset_descriptor.__get__")))
    (otk : PySem.W.takesIn K (.builtin "object.__class__") = some true)
    (omo : PySem.W.mroIn K c_Gathering (.type "object") = some true)
    (oki0 : PySem.W.mroIn K c_Gathering (.type "NoneType") = some false)
    (oki1 : PySem.W.mroIn K c_Gathering (.type "int") = some false)
    (oki2 : PySem.W.mroIn K c_Gathering (.type "str") = some false)
    (oki3 : PySem.W.mroIn K c_Gathering (.type "list") = some false)
    (oki4 : PySem.W.mroIn K c_Gathering (.type "tuple") = some false)
    (oty : PySem.W.typeIn K (.ref c_Gathering) = some (.type "type"))
    (on_own_log : PySem.W.findIn K (.ref c_Gathering) "own_log" = some none)
    (on_own_states : PySem.W.findIn K (.ref c_Gathering) "own_states" = some none)
    (al_next_people_coming : PySem.W.nsIn K mainGlobals "next_people_coming" = some (some (.ref f5)))
    (aCNoPerson : PySem.W.nsIn K mainGlobals "NoPerson" = some (some (.ref c_NoPerson)))
    (lCNoPerson : K.lookup c_NoPerson = some (excClassObj nmNoPerson qNoPerson c_NoPerson NNoPerson bsNoPerson [.type "LookupError", .type "Exception", .type "BaseException", .type "object"] true snNoPerson subNoPerson abNoPerson colNoPerson ddNoPerson k0NoPerson k1NoPerson k2NoPerson k3NoPerson k5NoPerson "LookupError.__new__"))
    (saNoPerson : PySem.W.findIn K (.ref c_NoPerson) "__setattr__" = some (some (.builtin "object.__setattr__")))
    (beNoPerson : PySem.W.subIn K (.ref c_NoPerson) (.type "BaseException") = some true)
    (tcNoPerson : PySem.W.typeIn K (.ref c_NoPerson) = some (.type "type"))
    (kcNoPerson : PySem.W.keepIn K (.ref c_NoPerson) = true)
    (iCNoPerson : PySem.W.findIn K (.ref c_NoPerson) "__init__" = some (some (.ref fINoPerson)))
    (tINoPerson : PySem.W.typeIn K (.ref fINoPerson) = some (.type "function"))
    (lINoPerson : K.lookup fINoPerson = some ⟨ocINoPerson, odINoPerson, .func (PySem.W.fnOf "__init__" "NoPerson.__init__" (defArgs s_iNoPerson) (defBody s_iNoPerson) (defScope s_iNoPerson) .none kVINoPerson dcINoPerson pmINoPerson anINoPerson cdINoPerson ctINoPerson), slINoPerson⟩)
    (cINoPerson : PySem.W.codeIn K cdINoPerson "NoPerson.__init__" = true)
    (kINoPerson : PySem.W.keepIn K (.ref fINoPerson) = true)
    (flNoPerson : PySem.W.findIn K (.ref c_NoPerson) "person" = some none)
    (aCNoOperation : PySem.W.nsIn K mainGlobals "NoOperation" = some (some (.ref c_NoOperation)))
    (lCNoOperation : K.lookup c_NoOperation = some (excClassObj nmNoOperation qNoOperation c_NoOperation NNoOperation bsNoOperation [.type "LookupError", .type "Exception", .type "BaseException", .type "object"] true snNoOperation subNoOperation abNoOperation colNoOperation ddNoOperation k0NoOperation k1NoOperation k2NoOperation k3NoOperation k5NoOperation "LookupError.__new__"))
    (saNoOperation : PySem.W.findIn K (.ref c_NoOperation) "__setattr__" = some (some (.builtin "object.__setattr__")))
    (beNoOperation : PySem.W.subIn K (.ref c_NoOperation) (.type "BaseException") = some true)
    (tcNoOperation : PySem.W.typeIn K (.ref c_NoOperation) = some (.type "type"))
    (kcNoOperation : PySem.W.keepIn K (.ref c_NoOperation) = true)
    (iCNoOperation : PySem.W.findIn K (.ref c_NoOperation) "__init__" = some (some (.ref fINoOperation)))
    (tINoOperation : PySem.W.typeIn K (.ref fINoOperation) = some (.type "function"))
    (lINoOperation : K.lookup fINoOperation = some ⟨ocINoOperation, odINoOperation, .func (PySem.W.fnOf "__init__" "NoOperation.__init__" (defArgs s_iNoOperation) (defBody s_iNoOperation) (defScope s_iNoOperation) .none kVINoOperation dcINoOperation pmINoOperation anINoOperation cdINoOperation ctINoOperation), slINoOperation⟩)
    (cINoOperation : PySem.W.codeIn K cdINoOperation "NoOperation.__init__" = true)
    (kINoOperation : PySem.W.keepIn K (.ref fINoOperation) = true)
    (flNoOperation : PySem.W.findIn K (.ref c_NoOperation) "many" = some none)
    (aCEarly : PySem.W.nsIn K mainGlobals "Early" = some (some (.ref c_Early)))
    (lCEarly : K.lookup c_Early = some (excClassObj nmEarly qEarly c_Early NEarly bsEarly [.type "RuntimeError", .type "Exception", .type "BaseException", .type "object"] true snEarly subEarly abEarly colEarly ddEarly k0Early k1Early k2Early k3Early k5Early "RuntimeError.__new__"))
    (saEarly : PySem.W.findIn K (.ref c_Early) "__setattr__" = some (some (.builtin "object.__setattr__")))
    (beEarly : PySem.W.subIn K (.ref c_Early) (.type "BaseException") = some true)
    (tcEarly : PySem.W.typeIn K (.ref c_Early) = some (.type "type"))
    (kcEarly : PySem.W.keepIn K (.ref c_Early) = true)
    (iCEarly : PySem.W.findIn K (.ref c_Early) "__init__" = some (some (.ref fIEarly)))
    (tIEarly : PySem.W.typeIn K (.ref fIEarly) = some (.type "function"))
    (lIEarly : K.lookup fIEarly = some ⟨ocIEarly, odIEarly, .func (PySem.W.fnOf "__init__" "Early.__init__" (defArgs s_iEarly) (defBody s_iEarly) (defScope s_iEarly) .none kVIEarly dcIEarly pmIEarly anIEarly cdIEarly ctIEarly), slIEarly⟩)
    (cIEarly : PySem.W.codeIn K cdIEarly "Early.__init__" = true)
    (kIEarly : PySem.W.keepIn K (.ref fIEarly) = true)
    (flEarly : PySem.W.findIn K (.ref c_Early) "person" = some none)
    (aCHere : PySem.W.nsIn K mainGlobals "Here" = some (some (.ref c_Here)))
    (lCHere : K.lookup c_Here = some (excClassObj nmHere qHere c_Here NHere bsHere [.type "RuntimeError", .type "Exception", .type "BaseException", .type "object"] true snHere subHere abHere colHere ddHere k0Here k1Here k2Here k3Here k5Here "RuntimeError.__new__"))
    (saHere : PySem.W.findIn K (.ref c_Here) "__setattr__" = some (some (.builtin "object.__setattr__")))
    (beHere : PySem.W.subIn K (.ref c_Here) (.type "BaseException") = some true)
    (tcHere : PySem.W.typeIn K (.ref c_Here) = some (.type "type"))
    (kcHere : PySem.W.keepIn K (.ref c_Here) = true)
    (iCHere : PySem.W.findIn K (.ref c_Here) "__init__" = some (some (.ref fIHere)))
    (tIHere : PySem.W.typeIn K (.ref fIHere) = some (.type "function"))
    (lIHere : K.lookup fIHere = some ⟨ocIHere, odIHere, .func (PySem.W.fnOf "__init__" "Here.__init__" (defArgs s_iHere) (defBody s_iHere) (defScope s_iHere) .none kVIHere dcIHere pmIHere anIHere cdIHere ctIHere), slIHere⟩)
    (cIHere : PySem.W.codeIn K cdIHere "Here.__init__" = true)
    (kIHere : PySem.W.keepIn K (.ref fIHere) = true)
    (flHere : PySem.W.findIn K (.ref c_Here) "person" = some none)
    (aCFull : PySem.W.nsIn K mainGlobals "Full" = some (some (.ref c_Full)))
    (lCFull : K.lookup c_Full = some (excClassObj nmFull qFull c_Full NFull bsFull [.type "OverflowError", .type "ArithmeticError", .type "Exception", .type "BaseException", .type "object"] true snFull subFull abFull colFull ddFull k0Full k1Full k2Full k3Full k5Full "OverflowError.__new__"))
    (saFull : PySem.W.findIn K (.ref c_Full) "__setattr__" = some (some (.builtin "object.__setattr__")))
    (beFull : PySem.W.subIn K (.ref c_Full) (.type "BaseException") = some true)
    (tcFull : PySem.W.typeIn K (.ref c_Full) = some (.type "type"))
    (kcFull : PySem.W.keepIn K (.ref c_Full) = true)
    (iCFull : PySem.W.findIn K (.ref c_Full) "__init__" = some (some (.ref fIFull)))
    (tIFull : PySem.W.typeIn K (.ref fIFull) = some (.type "function"))
    (lIFull : K.lookup fIFull = some ⟨ocIFull, odIFull, .func (PySem.W.fnOf "__init__" "Full.__init__" (defArgs s_iFull) (defBody s_iFull) (defScope s_iFull) .none kVIFull dcIFull pmIFull anIFull cdIFull ctIFull), slIFull⟩)
    (cIFull : PySem.W.codeIn K cdIFull "Full.__init__" = true)
    (kIFull : PySem.W.keepIn K (.ref fIFull) = true)
    (flFull : PySem.W.findIn K (.ref c_Full) "many" = some none)
    (vVLookupError : PySem.W.findCls K (.type "LookupError") (.type "type") "__init__" = some (.val (.builtin "LookupError.__init__")))
    (vVOverflowError : PySem.W.findCls K (.type "OverflowError") (.type "type") "__init__" = some (.val (.builtin "OverflowError.__init__")))
    (vVRuntimeError : PySem.W.findCls K (.type "RuntimeError") (.type "type") "__init__" = some (.val (.builtin "RuntimeError.__init__")))
    (zbLookupError : PySem.W.nsIn K mainGlobals "LookupError" = some none)
    (zbOverflowError : PySem.W.nsIn K mainGlobals "OverflowError" = some none)
    (zbRuntimeError : PySem.W.nsIn K mainGlobals "RuntimeError" = some none)
    (iKMOST_THERE : PySem.W.nsIn K mainGlobals "MOST_THERE" = some (some (.int 20 tkMOST_THERE)))
    (z0 : PySem.W.nsIn K mainGlobals "len" = some none)
    (z1 : PySem.W.nsIn K mainGlobals "range" = some none)
    (z2 : PySem.W.nsIn K mainGlobals "list" = some none)
    (z3 : PySem.W.nsIn K mainGlobals "tuple" = some none)
    (z4 : PySem.W.nsIn K mainGlobals "sorted" = some none)
    (z5 : PySem.W.nsIn K mainGlobals "all" = some none)
    (z6 : PySem.W.nsIn K mainGlobals "any" = some none)
    (z7 : PySem.W.nsIn K mainGlobals "isinstance" = some none)
    (z8 : PySem.W.nsIn K mainGlobals "min" = some none)
    (z9 : PySem.W.nsIn K mainGlobals "max" = some none)
    (z10 : PySem.W.nsIn K mainGlobals "abs" = some none)
    (z11 : PySem.W.nsIn K mainGlobals "int" = some none)
    (z12 : PySem.W.nsIn K mainGlobals "str" = some none)
    (z13 : PySem.W.nsIn K mainGlobals "repr" = some none)
    (z14 : PySem.W.nsIn K mainGlobals "set" = some none)
    (z15 : PySem.W.nsIn K mainGlobals "sum" = some none)
    (z16 : PySem.W.nsIn K mainGlobals "enumerate" = some none)
    (z17 : PySem.W.nsIn K mainGlobals "zip" = some none)
    (z18 : PySem.W.nsIn K mainGlobals "bool" = some none)
    (z19 : PySem.W.nsIn K mainGlobals "dict" = some none)
    : ∃ fd : FuncData, (∀ (s : Shared) (v : Value), BindsTo s fd ⟨[v], []⟩ [("_law_script", v)]) ∧ ∀ base : Heap, K.In base → base.Ns mainGlobals mg → FnG l.prog w K mg base CX0 13 fa fd ["_law_script"] (spLaw K) := by
  have e := hfa.symm.trans (PySem.W.mg_of X G a41)
  cases e
  have B : Bl mg := ⟨PySem.W.mg_none_of X G z0, PySem.W.mg_none_of X G z1, PySem.W.mg_none_of X G z2, PySem.W.mg_none_of X G z3, PySem.W.mg_none_of X G z4, PySem.W.mg_none_of X G z5, PySem.W.mg_none_of X G z6, PySem.W.mg_none_of X G z7, PySem.W.mg_none_of X G z8, PySem.W.mg_none_of X G z9, PySem.W.mg_none_of X G z10, PySem.W.mg_none_of X G z11, PySem.W.mg_none_of X G z12, PySem.W.mg_none_of X G z13, PySem.W.mg_none_of X G z14, PySem.W.mg_none_of X G z15, PySem.W.mg_none_of X G z16, PySem.W.mg_none_of X G z17, PySem.W.mg_none_of X G z18, PySem.W.mg_none_of X G z19⟩
  have F0 := fun_mk (st := s_plain) l0 c0 k0
  have F1 := fun_mk (st := s_look_person) l1 c1 k1
  have F2 := fun_mk (st := s_with_need) l2 c2 k2
  have F3 := fun_mk (st := s_count_there) l3 c3 k3
  have F4 := fun_mk (st := s_can_come) l4 c4 k4
  have F5 := fun_mk (st := s_next_people) l5 c5 k5
  have F6 := fun_mk (st := s_all_rounds) l6 c6 k6
  have F7 := fun_mk (st := s_closure) l7 c7 k7
  have F8 := fun_mk (st := s_came_later) l8 c8 k8
  have F9 := funV_mk (st := s_m___init__) l9 c9 k9
  have F10 := fun_mk (st := s_m_company) l10 c10 k10
  have F11 := fun_mk (st := s_m_came) l11 c11 k11
  have F12 := fun_mk (st := s_m_come) l12 c12 k12
  have F13 := fun_mk (st := s_m_come_all) l13 c13 k13
  have F14 := fun_mk (st := s_m_meet) l14 c14 k14
  have F15 := fun_mk (st := s_m_add_person) l15 c15 k15
  have F16 := fun_mk (st := s_m_set_need) l16 c16 k16
  have F17 := fun_mk (st := s_m_undo) l17 c17 k17
  have F18 := fun_mk (st := s_m_waiting) l18 c18 k18
  have F19 := fun_mk (st := s_m_next_people) l19 c19 k19
  have F20 := fun_mk (st := s_m_will_never) l20 c20 k20
  have F21 := fun_mk (st := s_m_operations) l21 c21 k21
  have F22 := fun_mk (st := s_m_as_of) l22 c22 k22
  have F23 := fun_mk (st := s_m_twin) l23 c23 k23
  have F24 := fun_mk (st := s_m_log) l24 c24 k24
  have F25 := fun_mk (st := s_m___eq__) l25 c25 k25
  have F26 := fun_mk (st := s_m___len__) l26 c26 k26
  have F27 := fun_mk (st := s_m___repr__) l27 c27 k27
  have F28 := fun_mk (st := s_cell_at_l) l28 c28 k28
  have F29 := fun_mk (st := s_box_l) l29 c29 k29
  have F30 := fun_mk (st := s_take_l) l30 c30 k30
  have F31 := fun_mk (st := s_of_l) l31 c31 k31
  have F32 := fun_mk (st := s_same_l) l32 c32 k32
  have F33 := fun_mk (st := s_crowd_of_l) l33 c33 k33
  have F34 := fun_mk (st := s_crowd_l) l34 c34 k34
  have F35 := fun_mk (st := s_seen_of_l) l35 c35 k35
  have F36 := fun_mk (st := s_led_l) l36 c36 k36
  have F37 := fun_mk (st := s_copy_right_l) l37 c37 k37
  have F38 := fun_mk (st := s_apart_right_l) l38 c38 k38
  have F39 := fun_mk (st := s_equal_right_l) l39 c39 k39
  have F40 := fun_mk (st := s_right_l) l40 c40 k40
  have F41 := fun_mk (st := s_law) l41 c41 k41
  have b0 := F0.binds (ps := ["company"]) fun _ _ _ _ _ _ us hl => match us, hl with | [_], _ => rfl
  have g0 := PySem.W.mg_of X G a0
  have b1 := F1.binds (ps := ["company", "person"]) fun _ _ _ _ _ _ us hl => match us, hl with | [_, _], _ => rfl
  have g1 := PySem.W.mg_of X G a1
  have b2 := F2.binds (ps := ["company", "person", "need"]) fun _ _ _ _ _ _ us hl => match us, hl with | [_, _, _], _ => rfl
  have g2 := PySem.W.mg_of X G a2
  have b3 := F3.binds (ps := ["company", "person", "there"]) fun _ _ _ _ _ _ us hl => match us, hl with | [_, _, _], _ => rfl
  have g3 := PySem.W.mg_of X G a3
  have b4 := F4.binds (ps := ["company", "person", "there"]) fun _ _ _ _ _ _ us hl => match us, hl with | [_, _, _], _ => rfl
  have g4 := PySem.W.mg_of X G a4
  have b5 := F5.binds (ps := ["company", "people"]) fun _ _ _ _ _ _ us hl => match us, hl with | [_, _], _ => rfl
  have g5 := PySem.W.mg_of X G a5
  have b6 := F6.binds (ps := ["company", "begin", "barred"]) fun _ _ _ _ _ _ us hl => match us, hl with | [_, _, _], _ => rfl
  have g6 := PySem.W.mg_of X G a6
  have b7 := F7.binds (ps := ["company", "begin", "barred"]) fun _ _ _ _ _ _ us hl => match us, hl with | [_, _, _], _ => rfl
  have g7 := PySem.W.mg_of X G a7
  have b8 := F8.binds (ps := ["company", "came", "person"]) fun _ _ _ _ _ _ us hl => match us, hl with | [_, _, _], _ => rfl
  have g8 := PySem.W.mg_of X G a8
  have b9 := F9.binds (ps := ["self", "company"]) tL tO fun _ _ _ _ _ _ us hl => match us, hl with | [_, _], _ => ⟨_, rfl, rfl⟩
  have b10 := F10.binds (ps := ["self"]) fun _ _ _ _ _ _ us hl => match us, hl with | [_], _ => rfl
  have b11 := F11.binds (ps := ["self"]) fun _ _ _ _ _ _ us hl => match us, hl with | [_], _ => rfl
  have b12 := F12.binds (ps := ["self", "person"]) fun _ _ _ _ _ _ us hl => match us, hl with | [_, _], _ => rfl
  have b13 := F13.binds (ps := ["self", "people"]) fun _ _ _ _ _ _ us hl => match us, hl with | [_, _], _ => rfl
  have b14 := F14.binds (ps := ["self"]) fun _ _ _ _ _ _ us hl => match us, hl with | [_], _ => rfl
  have b15 := F15.binds (ps := ["self", "friends", "need"]) fun _ _ _ _ _ _ us hl => match us, hl with | [_, _, _], _ => rfl
  have b16 := F16.binds (ps := ["self", "person", "need"]) fun _ _ _ _ _ _ us hl => match us, hl with | [_, _, _], _ => rfl
  have b17 := F17.binds (ps := ["self"]) fun _ _ _ _ _ _ us hl => match us, hl with | [_], _ => rfl
  have b18 := F18.binds (ps := ["self"]) fun _ _ _ _ _ _ us hl => match us, hl with | [_], _ => rfl
  have b19 := F19.binds (ps := ["self"]) fun _ _ _ _ _ _ us hl => match us, hl with | [_], _ => rfl
  have b20 := F20.binds (ps := ["self"]) fun _ _ _ _ _ _ us hl => match us, hl with | [_], _ => rfl
  have b21 := F21.binds (ps := ["self"]) fun _ _ _ _ _ _ us hl => match us, hl with | [_], _ => rfl
  have b22 := F22.binds (ps := ["self", "many"]) fun _ _ _ _ _ _ us hl => match us, hl with | [_, _], _ => rfl
  have b23 := F23.binds (ps := ["self"]) fun _ _ _ _ _ _ us hl => match us, hl with | [_], _ => rfl
  have b24 := F24.binds (ps := ["self"]) fun _ _ _ _ _ _ us hl => match us, hl with | [_], _ => rfl
  have b25 := F25.binds (ps := ["self", "other"]) fun _ _ _ _ _ _ us hl => match us, hl with | [_, _], _ => rfl
  have b26 := F26.binds (ps := ["self"]) fun _ _ _ _ _ _ us hl => match us, hl with | [_], _ => rfl
  have b27 := F27.binds (ps := ["self"]) fun _ _ _ _ _ _ us hl => match us, hl with | [_], _ => rfl
  have b28 := F28.binds (ps := ["_law_script", "_law_k"]) fun _ _ _ _ _ _ us hl => match us, hl with | [_, _], _ => rfl
  have g28 := PySem.W.mg_of X G a28
  have b29 := F29.binds (ps := ["_law_script", "_law_k"]) fun _ _ _ _ _ _ us hl => match us, hl with | [_, _], _ => rfl
  have g29 := PySem.W.mg_of X G a29
  have b30 := F30.binds (ps := ["_law_box_here", "_law_below"]) fun _ _ _ _ _ _ us hl => match us, hl with | [_, _], _ => rfl
  have g30 := PySem.W.mg_of X G a30
  have b31 := F31.binds (ps := ["_law_box_here", "_law_some"]) fun _ _ _ _ _ _ us hl => match us, hl with | [_, _], _ => rfl
  have g31 := PySem.W.mg_of X G a31
  have b32 := F32.binds (ps := ["_law_found", "_law_due"]) fun _ _ _ _ _ _ us hl => match us, hl with | [_, _], _ => rfl
  have g32 := PySem.W.mg_of X G a32
  have b33 := F33.binds (ps := ["_law_box_here", "_law_count"]) fun _ _ _ _ _ _ us hl => match us, hl with | [_, _], _ => rfl
  have g33 := PySem.W.mg_of X G a33
  have b34 := F34.binds (ps := ["_law_box_here", "_law_most"]) fun _ _ _ _ _ _ us hl => match us, hl with | [_, _], _ => rfl
  have g34 := PySem.W.mg_of X G a34
  have b35 := F35.binds (ps := ["_law_hall"]) fun _ _ _ _ _ _ us hl => match us, hl with | [_], _ => rfl
  have g35 := PySem.W.mg_of X G a35
  have b36 := F36.binds (ps := ["_law_box_here", "_law_hall"]) fun _ _ _ _ _ _ us hl => match us, hl with | [_, _], _ => rfl
  have g36 := PySem.W.mg_of X G a36
  have b37 := F37.binds (ps := ["_law_box_here", "_law_hall", "_law_copy", "_law_due", "_law_ahead"]) fun _ _ _ _ _ _ us hl => match us, hl with | [_, _, _, _, _], _ => rfl
  have g37 := PySem.W.mg_of X G a37
  have b38 := F38.binds (ps := ["_law_box_here", "_law_hall", "_law_seen"]) fun _ _ _ _ _ _ us hl => match us, hl with | [_, _, _], _ => rfl
  have g38 := PySem.W.mg_of X G a38
  have b39 := F39.binds (ps := ["_law_hall"]) fun _ _ _ _ _ _ us hl => match us, hl with | [_], _ => rfl
  have g39 := PySem.W.mg_of X G a39
  have b40 := F40.binds (ps := ["_law_box_here"]) fun _ _ _ _ _ _ us hl => match us, hl with | [_], _ => rfl
  have g40 := PySem.W.mg_of X G a40
  have b41 := F41.binds (ps := ["_law_script"]) fun _ _ _ _ _ _ us hl => match us, hl with | [_], _ => rfl
  have g41 := PySem.W.mg_of X G a41
  have g_next_people_coming := PySem.W.mg_of X G al_next_people_coming
  have ocl : L2.Cls K c_Gathering := ⟨opg, ohd, opo, osa⟩
  have g_Gathering := PySem.W.mg_of X G oa
  have ois : OIs K c_Gathering := ⟨ocl, oca, osp, otk, omo⟩
  have g_NoPerson := PySem.W.mg_of X G aCNoPerson
  have ox_NoPerson : Oxg K c_NoPerson "LookupError.__new__" [.type "LookupError", .type "Exception", .type "BaseException", .type "object"] := ⟨⟨_, _, _, _, _, _, _, _, _, _, _, _, _, _, lCNoPerson⟩, saNoPerson, beNoPerson, tcNoPerson, kcNoPerson⟩
  have FI_NoPerson := fun_mk (st := s_iNoPerson) lINoPerson cINoPerson kINoPerson
  have bI_NoPerson := FI_NoPerson.binds (ps := ["self", "person"]) fun _ _ _ _ _ _ us hl => match us, hl with | [_, _], _ => rfl
  have em_NoPerson : ∀ base : Heap, ExcM l.prog w K mg base 1 "NoPerson" "person" c_NoPerson := fun base => ⟨"LookupError", "LookupError.__new__", "LookupError.__init__", [.type "LookupError", .type "Exception", .type "BaseException", .type "object"], fINoPerson, _, ["self", "person"], bas_LE, ox_NoPerson, iCNoPerson, tINoPerson, ini_NoPerson FI_NoPerson ox_NoPerson flNoPerson (PySem.W.mg_none_of X G zbLookupError) vVLookupError, bI_NoPerson, g_NoPerson⟩
  have g_NoOperation := PySem.W.mg_of X G aCNoOperation
  have ox_NoOperation : Oxg K c_NoOperation "LookupError.__new__" [.type "LookupError", .type "Exception", .type "BaseException", .type "object"] := ⟨⟨_, _, _, _, _, _, _, _, _, _, _, _, _, _, lCNoOperation⟩, saNoOperation, beNoOperation, tcNoOperation, kcNoOperation⟩
  have FI_NoOperation := fun_mk (st := s_iNoOperation) lINoOperation cINoOperation kINoOperation
  have bI_NoOperation := FI_NoOperation.binds (ps := ["self", "many"]) fun _ _ _ _ _ _ us hl => match us, hl with | [_, _], _ => rfl
  have em_NoOperation : ∀ base : Heap, ExcM l.prog w K mg base 1 "NoOperation" "many" c_NoOperation := fun base => ⟨"LookupError", "LookupError.__new__", "LookupError.__init__", [.type "LookupError", .type "Exception", .type "BaseException", .type "object"], fINoOperation, _, ["self", "many"], bas_LE, ox_NoOperation, iCNoOperation, tINoOperation, ini_NoOperation FI_NoOperation ox_NoOperation flNoOperation (PySem.W.mg_none_of X G zbLookupError) vVLookupError, bI_NoOperation, g_NoOperation⟩
  have g_Early := PySem.W.mg_of X G aCEarly
  have ox_Early : Oxg K c_Early "RuntimeError.__new__" [.type "RuntimeError", .type "Exception", .type "BaseException", .type "object"] := ⟨⟨_, _, _, _, _, _, _, _, _, _, _, _, _, _, lCEarly⟩, saEarly, beEarly, tcEarly, kcEarly⟩
  have FI_Early := fun_mk (st := s_iEarly) lIEarly cIEarly kIEarly
  have bI_Early := FI_Early.binds (ps := ["self", "person"]) fun _ _ _ _ _ _ us hl => match us, hl with | [_, _], _ => rfl
  have em_Early : ∀ base : Heap, ExcM l.prog w K mg base 1 "Early" "person" c_Early := fun base => ⟨"RuntimeError", "RuntimeError.__new__", "RuntimeError.__init__", [.type "RuntimeError", .type "Exception", .type "BaseException", .type "object"], fIEarly, _, ["self", "person"], bas_RE, ox_Early, iCEarly, tIEarly, ini_Early FI_Early ox_Early flEarly (PySem.W.mg_none_of X G zbRuntimeError) vVRuntimeError, bI_Early, g_Early⟩
  have g_Here := PySem.W.mg_of X G aCHere
  have ox_Here : Oxg K c_Here "RuntimeError.__new__" [.type "RuntimeError", .type "Exception", .type "BaseException", .type "object"] := ⟨⟨_, _, _, _, _, _, _, _, _, _, _, _, _, _, lCHere⟩, saHere, beHere, tcHere, kcHere⟩
  have FI_Here := fun_mk (st := s_iHere) lIHere cIHere kIHere
  have bI_Here := FI_Here.binds (ps := ["self", "person"]) fun _ _ _ _ _ _ us hl => match us, hl with | [_, _], _ => rfl
  have em_Here : ∀ base : Heap, ExcM l.prog w K mg base 1 "Here" "person" c_Here := fun base => ⟨"RuntimeError", "RuntimeError.__new__", "RuntimeError.__init__", [.type "RuntimeError", .type "Exception", .type "BaseException", .type "object"], fIHere, _, ["self", "person"], bas_RE, ox_Here, iCHere, tIHere, ini_Here FI_Here ox_Here flHere (PySem.W.mg_none_of X G zbRuntimeError) vVRuntimeError, bI_Here, g_Here⟩
  have g_Full := PySem.W.mg_of X G aCFull
  have ox_Full : Oxg K c_Full "OverflowError.__new__" [.type "OverflowError", .type "ArithmeticError", .type "Exception", .type "BaseException", .type "object"] := ⟨⟨_, _, _, _, _, _, _, _, _, _, _, _, _, _, lCFull⟩, saFull, beFull, tcFull, kcFull⟩
  have FI_Full := fun_mk (st := s_iFull) lIFull cIFull kIFull
  have bI_Full := FI_Full.binds (ps := ["self", "many"]) fun _ _ _ _ _ _ us hl => match us, hl with | [_, _], _ => rfl
  have em_Full : ∀ base : Heap, ExcM l.prog w K mg base 1 "Full" "many" c_Full := fun base => ⟨"OverflowError", "OverflowError.__new__", "OverflowError.__init__", [.type "OverflowError", .type "ArithmeticError", .type "Exception", .type "BaseException", .type "object"], fIFull, _, ["self", "many"], bas_OE, ox_Full, iCFull, tIFull, ini_Full FI_Full ox_Full flFull (PySem.W.mg_none_of X G zbOverflowError) vVOverflowError, bI_Full, g_Full⟩
  refine ⟨PySem.W.fnOf "law" "law" (defArgs s_law) (defBody s_law) (defScope s_law) .none kV41 dc41 pm41 an41 cd41 ct41, fun s v => .of_eq rfl, fun base _ _ => ?_⟩
  have O0 : FnG l.prog w K mg base CX0 1 f28 _ ["_law_script", "_law_k"] (spW K T_cell) := ok_cell_at_l F28 B
  have C1 : Cal l.prog w K mg base 1 "_law_cell_at" T_cell := cal_of O0 g28 F28.kp b28
  have O2 : FnG l.prog w K mg base CX0 2 f29 _ ["_law_script", "_law_k"] (spW K T_box) := ok_box_l F29 B C1
  have C3 : Cal l.prog w K mg base 2 "_law_box" T_box := cal_of O2 g29 F29.kp b29
  have O4 : FnG l.prog w K mg base CX0 1 f0 _ ["company"] (spW K T_plain2) := ok_plain F0 B
  have C5 : Cal l.prog w K mg base 1 "plain" T_plain2 := cal_of O4 g0 F0.kp b0
  have O6 : FnG l.prog w K mg base CX0 2 f9 _ ["self", "company"] (spW K (T_init2 c_Gathering)) := ok_m___init__ F9 B C5 ocl on_own_states on_own_log
  have C7 : CalI l.prog w K mg base 2 "Gathering" c_Gathering (T_init2 c_Gathering) := ⟨_, _, _, O6, ⟨omk, a9, i9, okc⟩, g_Gathering, b9⟩
  have O8 : FnG l.prog w K mg base CX0 1 f30 _ ["_law_box_here", "_law_below"] (spW K T_take) := ok_take_s F30 B
  have C9 : Cal l.prog w K mg base 1 "_law_take" T_take := cal_of O8 g30 F30.kp b30
  have O10 : FnG l.prog w K mg base CX0 2 f33 _ ["_law_box_here", "_law_count"] (spW K T_crowd_of) := ok_crowd_of_l F33 B C9
  have C11 : Cal l.prog w K mg base 2 "_law_crowd_of" T_crowd_of := cal_of O10 g33 F33.kp b33
  have O12 : FnG l.prog w K mg base CX0 3 f34 _ ["_law_box_here", "_law_most"] (spW K T_crowd) := ok_crowd_l F34 B C9 C11
  have C13 : Cal l.prog w K mg base 3 "_law_crowd" T_crowd := cal_of O12 g34 F34.kp b34
  have O14 : FnG l.prog w K mg base CX0 1 f10 _ ["self"] (spW K (T_comp c_Gathering)) := ok_m_company F10 B ocl on_own_states
  have C15 : CalM l.prog w K mg base 1 c_Gathering "company" (T_comp c_Gathering) := ⟨_, _, _, O14, ⟨a10, i10, k10⟩, b10⟩
  have O16 : FnG l.prog w K mg base CX0 1 f11 _ ["self"] (spW K (T_came c_Gathering)) := ok_m_came F11 B ocl on_own_states
  have C17 : CalM l.prog w K mg base 1 c_Gathering "came" (T_came c_Gathering) := ⟨_, _, _, O16, ⟨a11, i11, k11⟩, b11⟩
  have O18 : FnG l.prog w K mg base CX0 2 f18 _ ["self"] (spW K (T_waiting c_Gathering)) := ok_m_waiting F18 B C15 C17 ocl
  have C19 : CalM l.prog w K mg base 2 c_Gathering "waiting" (T_waiting c_Gathering) := ⟨_, _, _, O18, ⟨a18, i18, k18⟩, b18⟩
  have O20 : FnG l.prog w K mg base CX0 1 f3 _ ["company", "person", "there"] (spW K T_cnt) := ok_count_there F3 B
  have C21 : Cal l.prog w K mg base 1 "count_there" T_cnt := cal_of O20 g3 F3.kp b3
  have O22 : FnG l.prog w K mg base CX0 2 f4 _ ["company", "person", "there"] (spW K T_can) := ok_can_come F4 B C21
  have C23 : Cal l.prog w K mg base 2 "can_come" T_can := cal_of O22 g4 F4.kp b4
  have O24 : FnG l.prog w K mg base CX0 3 f5 _ ["company", "people"] (spW K T_next) := ok_next_people F5 B C23
  have C25 : Cal l.prog w K mg base 3 "next_people_coming" T_next := cal_of O24 g_next_people_coming F5.kp b5
  have O26 : FnG l.prog w K mg base CX0 4 f19 _ ["self"] (spW K (T_mnext c_Gathering)) := ok_m_next_people F19 B C15 C17 C25 ocl
  have C27 : CalM l.prog w K mg base 4 c_Gathering "next_people" (T_mnext c_Gathering) := ⟨_, _, _, O26, ⟨a19, i19, k19⟩, b19⟩
  have O28 : FnG l.prog w K mg base CX0 4 f6 _ ["company", "begin", "barred"] (spW K T_rounds) := ok_all_rounds F6 B C25
  have C29 : Cal l.prog w K mg base 4 "all_rounds" T_rounds := cal_of O28 g6 F6.kp b6
  have O30 : FnG l.prog w K mg base CX0 5 f7 _ ["company", "begin", "barred"] (spW K T_closure) := ok_closure F7 B C29
  have C31 : Cal l.prog w K mg base 5 "closure" T_closure := cal_of O30 g7 F7.kp b7
  have O32 : FnG l.prog w K mg base CX0 6 f20 _ ["self"] (spW K (T_wnever c_Gathering)) := ok_m_will_never F20 B C15 C17 C19 ocl C31
  have C33 : CalM l.prog w K mg base 6 c_Gathering "will_never" (T_wnever c_Gathering) := ⟨_, _, _, O32, ⟨a20, i20, k20⟩, b20⟩
  have O34 : FnG l.prog w K mg base CX0 1 f21 _ ["self"] (spW K (T_opers c_Gathering)) := ok_m_operations F21 B ocl on_own_states
  have C35 : CalM l.prog w K mg base 1 c_Gathering "operations" (T_opers c_Gathering) := ⟨_, _, _, O34, ⟨a21, i21, k21⟩, b21⟩
  have O36 : FnG l.prog w K mg base CX0 2 f26 _ ["self"] (spW K (T_hlen c_Gathering)) := ok_m___len__ F26 B C17 ocl
  have C37 : CalM l.prog w K mg base 2 c_Gathering "__len__" (T_hlen c_Gathering) := ⟨_, _, _, O36, ⟨a26, i26, k26⟩, b26⟩
  have O38 : FnG l.prog w K mg base CX0 4 f27 _ ["self"] (spW K (T_hrepr c_Gathering)) := ok_m___repr__ F27 B C15 C37 ocl
  have C39 : CalM l.prog w K mg base 4 c_Gathering "__repr__" (T_hrepr c_Gathering) := ⟨_, _, _, O38, ⟨a27, i27, k27⟩, b27⟩
  have O40 : FnG l.prog w K mg base CX0 7 f35 _ ["_law_hall"] (spW K (T_seen c_Gathering)) := ok_seen_of_l F35 B C15 ocl C17 C19 C27 C33 C35 C37 C39
  have C41 : Cal l.prog w K mg base 7 "_law_seen_of" (T_seen c_Gathering) := cal_of O40 g35 F35.kp b35
  have O42 : FnG l.prog w K mg base CX0 2 f31 _ ["_law_box_here", "_law_some"] (spW K T_of) := ok_of_l F31 B C9
  have C43 : Cal l.prog w K mg base 2 "_law_of" T_of := cal_of O42 g31 F31.kp b31
  have O44 : FnG l.prog w K mg base CX0 1 f1 _ ["company", "person"] (spW K T_lookp) := ok_look_person F1 B
  have O45 : FnG l.prog w K mg base (L2.CX l.prog w) 3 f1 _ ["company", "person"] (spX K (T_lookpX c_NoPerson)) := okx_look_person F1 B (em_NoPerson base)
  have O46 : FnG l.prog w K mg base (L2.CX l.prog w) 3 f1 _ ["company", "person"] (spX K (T_lookpE c_NoPerson)) := fn_or (O44.mono (by decide)) O45
  have C47 : CalX l.prog w K mg base 3 "look_person" (T_lookpE c_NoPerson) := calx_of O46 g1 F1.kp b1
  have O48 : FnG l.prog w K mg base (L2.CX l.prog w) 4 f8 _ ["company", "came", "person"] (spX K (T_clater c_NoPerson c_Here c_Early)) := okx_came_later F8 B C47 C23 (em_Here base) (em_Early base)
  have C49 : CalX l.prog w K mg base 4 "came_later" (T_clater c_NoPerson c_Here c_Early) := calx_of O48 g8 F8.kp b8
  have O50 : FnG l.prog w K mg base (L2.CX l.prog w) 5 f12 _ ["self", "person"] (spX K (T_come c_Gathering c_NoPerson c_Here c_Early)) := okx_m_come F12 B C15 C17 C49 C37 ocl on_own_states on_own_log
  have C51 : CalMX l.prog w K mg base 5 c_Gathering "come" (T_come c_Gathering c_NoPerson c_Here c_Early) := ⟨_, _, _, O50, ⟨a12, i12, k12⟩, b12⟩
  have O52 : FnG l.prog w K mg base (L2.CX l.prog w) 5 f13 _ ["self", "people"] (spX K (T_call c_Gathering c_NoPerson c_Here c_Early)) := okx_m_come_all F13 B C15 C17 C37 ocl on_own_states on_own_log C49
  have C53 : CalMX l.prog w K mg base 5 c_Gathering "come_all" (T_call c_Gathering c_NoPerson c_Here c_Early) := ⟨_, _, _, O52, ⟨a13, i13, k13⟩, b13⟩
  have O54 : FnG l.prog w K mg base CX0 5 f14 _ ["self"] (spW K (T_meet c_Gathering)) := ok_m_meet F14 B C15 C17 C27 ocl on_own_states on_own_log
  have C55 : CalM l.prog w K mg base 5 c_Gathering "meet" (T_meet c_Gathering) := ⟨_, _, _, O54, ⟨a14, i14, k14⟩, b14⟩
  have O56 : FnG l.prog w K mg base (L2.CX l.prog w) 4 f15 _ ["self", "friends", "need"] (spX K (T_addp c_Gathering c_NoPerson c_Full)) := okx_m_add_person F15 B C15 C17 ocl on_own_states on_own_log C47 (em_Full base) ⟨_, PySem.W.mg_of X G iKMOST_THERE⟩
  have C57 : CalMX l.prog w K mg base 4 c_Gathering "add_person" (T_addp c_Gathering c_NoPerson c_Full) := ⟨_, _, _, O56, ⟨a15, i15, k15⟩, b15⟩
  have C58 : Cal l.prog w K mg base 1 "look_person" T_lookp := cal_of O44 g1 F1.kp b1
  have O59 : FnG l.prog w K mg base CX0 1 f0 _ ["company"] (spW K T_plain) := FnG.imp O4 fun vs H Q E ⟨F9, xs9, μ9, R9, m9, o9, q9, k9⟩ => ⟨F9, xs9, μ9, R9, m9, o9, .inl q9, k9⟩
  have C60 : Cal l.prog w K mg base 1 "plain" T_plain := cal_of O59 g0 F0.kp b0
  have O61 : FnG l.prog w K mg base CX0 2 f2 _ ["company", "person", "need"] (spW K T_withn) := ok_with_need F2 B C58 C60
  have C62 : Cal l.prog w K mg base 2 "with_need" T_withn := cal_of O61 g2 F2.kp b2
  have O63 : FnG l.prog w K mg base (L2.CX l.prog w) 5 f16 _ ["self", "person", "need"] (spX K (T_setn c_Gathering c_NoPerson c_Here)) := okx_m_set_need F16 B C15 C17 ocl on_own_states on_own_log C47 (em_Here base) C62
  have C64 : CalMX l.prog w K mg base 5 c_Gathering "set_need" (T_setn c_Gathering c_NoPerson c_Here) := ⟨_, _, _, O63, ⟨a16, i16, k16⟩, b16⟩
  have O65 : FnG l.prog w K mg base CX0 7 f36 _ ["_law_box_here", "_law_hall"] (spW K (T_led42 c_Gathering)) := ok_led_l F36 B C9 C27 ocl C15 C43 C51 C53 C55 C57 C19 C64
  have C66 : Cal l.prog w K mg base 7 "_law_led" (T_led42 c_Gathering) := cal_of O65 g36 F36.kp b36
  have O67 : FnG l.prog w K mg base CX0 2 f17 _ ["self"] (spW K (T_undo c_Gathering)) := ok_m_undo F17 B C35 ocl on_own_states on_own_log
  have C68 : CalM l.prog w K mg base 2 c_Gathering "undo" (T_undo c_Gathering) := ⟨_, _, _, O67, ⟨a17, i17, k17⟩, b17⟩
  have O69 : FnG l.prog w K mg base CX0 6 f32 _ ["_law_found", "_law_due"] (spW K (T_same 5)) := ok_same_l F32 B g32 b32 5
  have C70 : Cal l.prog w K mg base 6 "_law_same" (T_same 5) := cal_of O69 g32 F32.kp b32
  have O71 : FnG l.prog w K mg base CX0 1 f24 _ ["self"] (spW K (T_log c_Gathering)) := ok_m_log F24 B ocl on_own_log
  have C72 : CalM l.prog w K mg base 1 c_Gathering "log" (T_log c_Gathering) := ⟨_, _, _, O71, ⟨a24, i24, k24⟩, b24⟩
  have bD := F9.bindsD (ps := ["self", "company"]) tL tO fun _ _ _ _ _ _ us hl => match us, hl with | [_], _ => ⟨_, rfl, rfl⟩
  have C73 : CalI0 l.prog w K mg base 2 "Gathering" c_Gathering (T_init2 c_Gathering) := ⟨_, _, _, tE, O6, ⟨omk, a9, i9, okc⟩, g_Gathering, bD, sqT_none eL eC eO⟩
  have O74 : FnG l.prog w K mg base (L2.CX l.prog w) 4 f22 _ ["self", "many"] (spX K (T_asof c_Gathering c_NoOperation)) := okx_m_as_of F22 B C35 ocl on_own_states C73 (em_NoOperation base)
  have C75 : CalMX l.prog w K mg base 4 c_Gathering "as_of" (T_asof c_Gathering c_NoOperation) := ⟨_, _, _, O74, ⟨a22, i22, k22⟩, b22⟩
  have O76 : FnG l.prog w K mg base CX0 5 f23 _ ["self"] (spW K (T_twin c_Gathering)) := ok_m_twin F23 B C35 ocl C75
  have C77 : CalM l.prog w K mg base 5 c_Gathering "twin" (T_twin c_Gathering) := ⟨_, _, _, O76, ⟨a23, i23, k23⟩, b23⟩
  have O78 : FnG l.prog w K mg base CX0 1 f25 _ ["self", "other"] (spW K (T_heq42 c_Gathering)) := ok_m___eq__ F25 B ocl on_own_states ois ⟨oki_of oki0 oki1 oki2 oki3 oki4, oty, ocd_of oki0⟩ g_Gathering
  have C79 : CalM l.prog w K mg base 1 c_Gathering "__eq__" (T_heq42 c_Gathering) := ⟨_, _, _, O78, ⟨a25, i25, k25⟩, b25⟩
  have O80 : FnG l.prog w K mg base CX0 5 f32 _ ["_law_found", "_law_due"] (spW K (T_same 4)) := ok_same_l F32 B g32 b32 4
  have C81 : Cal l.prog w K mg base 5 "_law_same" (T_same 4) := cal_of O80 g32 F32.kp b32
  have O82 : FnG l.prog w K mg base CX0 8 f37 _ ["_law_box_here", "_law_hall", "_law_copy", "_law_due", "_law_ahead"] (spW K (T_cr42 c_Gathering)) := ok_copy_right_l F37 B C81 C41 C72 ocl C66 C68
  have C83 : Cal l.prog w K mg base 8 "_law_copy_right" (T_cr42 c_Gathering) := cal_of O82 g37 F37.kp b37
  have O84 : FnG l.prog w K mg base CX0 8 f39 _ ["_law_hall"] (spW K (T_er42 c_Gathering)) := ok_equal_right_l F39 B C77 ocl C79 ⟨one, omo⟩ C57 C53 C15 C7 C68 C17 C39 ⟨oki_of oki0 oki1 oki2 oki3 oki4, oty, ocd_of oki0⟩
  have C85 : Cal l.prog w K mg base 8 "_law_equal_right" (T_er42 c_Gathering) := cal_of O84 g39 F39.kp b39
  have O86 : FnG l.prog w K mg base CX0 9 f38 _ ["_law_box_here", "_law_hall", "_law_seen"] (spW K (T_ar42 c_Gathering)) := ok_apart_right_l F38 B C9 C75 ocl C77 C41 C70 C66 C35 C68 C57 C55
  have C87 : Cal l.prog w K mg base 9 "_law_apart_right" (T_ar42 c_Gathering) := cal_of O86 g38 F38.kp b38
  have O88 : FnG l.prog w K mg base CX0 12 f40 _ ["_law_box_here"] (spW K (T_right 20000)) := ok_right_l F40 B C7 C13 C41 C9 C66 C68 ocl C70 C72 C75 C77 C79 ⟨one, omo⟩ C83 C85 C87
  have C89 : Cal l.prog w K mg base 12 "_law_right" (T_right 20000) := cal_of O88 g40 F40.kp b40
  exact FnG.imp (ok_law F41 B C3 C89) fun vs H Q E h => law_end h
end Lw
open PySem PySem.W PyProof.Rows
set_option maxHeartbeats 0 in
theorem PySem.Challenge.cw_enoughcame_k42_copies_of_a_gathering_holds : PySem.Challenge.rw_enoughcame_k42_copies_of_a_gathering.Holds := by
  w_on; o_law; k_head; (case hw => w_witness2)
  k_fill
  refine Ec.walk_g (l := PySem.Challenge.rw_enoughcame_k42_copies_of_a_gathering) (n := 63) (k := 13) (x := "_law_script") (sp := fun w => Lw.spLaw _) rfl (by decide) rfl ⟨rfl, by decide, by decide⟩ (fun w h Y => PySem.W.kIn_of Y) ?F (fun _ _ a ns hl _ hS => ⟨a, ns, rfl, hS, hl, fun _ => rfl⟩)
  case F =>
    intro w mg fa h KX G hmg
    refine' Lw.all_mk KX G hmg ?a0 ?l0 ?c0 ?k0 ?a1 ?l1 ?c1 ?k1 ?a2 ?l2 ?c2 ?k2 ?a3 ?l3 ?c3 ?k3 ?a4 ?l4 ?c4 ?k4 ?a5 ?l5 ?c5 ?k5 ?a6 ?l6 ?c6 ?k6 ?a7 ?l7 ?c7 ?k7 ?a8 ?l8 ?c8 ?k8 ?a9 ?i9 ?tL ?tO ?eL ?eC ?eO ?l9 ?c9 ?k9 ?a10 ?i10 ?l10 ?c10 ?k10 ?a11 ?i11 ?l11 ?c11 ?k11 ?a12 ?i12 ?l12 ?c12 ?k12 ?a13 ?i13 ?l13 ?c13 ?k13 ?a14 ?i14 ?l14 ?c14 ?k14 ?a15 ?i15 ?l15 ?c15 ?k15 ?a16 ?i16 ?l16 ?c16 ?k16 ?a17 ?i17 ?l17 ?c17 ?k17 ?a18 ?i18 ?l18 ?c18 ?k18 ?a19 ?i19 ?l19 ?c19 ?k19 ?a20 ?i20 ?l20 ?c20 ?k20 ?a21 ?i21 ?l21 ?c21 ?k21 ?a22 ?i22 ?l22 ?c22 ?k22 ?a23 ?i23 ?l23 ?c23 ?k23 ?a24 ?i24 ?l24 ?c24 ?k24 ?a25 ?i25 ?l25 ?c25 ?k25 ?a26 ?i26 ?l26 ?c26 ?k26 ?a27 ?i27 ?l27 ?c27 ?k27 ?a28 ?l28 ?c28 ?k28 ?a29 ?l29 ?c29 ?k29 ?a30 ?l30 ?c30 ?k30 ?a31 ?l31 ?c31 ?k31 ?a32 ?l32 ?c32 ?k32 ?a33 ?l33 ?c33 ?k33 ?a34 ?l34 ?c34 ?k34 ?a35 ?l35 ?c35 ?k35 ?a36 ?l36 ?c36 ?k36 ?a37 ?l37 ?c37 ?k37 ?a38 ?l38 ?c38 ?k38 ?a39 ?l39 ?c39 ?k39 ?a40 ?l40 ?c40 ?k40 ?a41 ?l41 ?c41 ?k41 ?oa ?opg ?ohd ?opo ?osa ?omk ?okc ?one ?oca ?osp ?otk ?omo ?oki0 ?oki1 ?oki2 ?oki3 ?oki4 ?oty ?on_own_log ?on_own_states ?al_next_people_coming ?aCNoPerson ?lCNoPerson ?saNoPerson ?beNoPerson ?tcNoPerson ?kcNoPerson ?iCNoPerson ?tINoPerson ?lINoPerson ?cINoPerson ?kINoPerson ?flNoPerson ?aCNoOperation ?lCNoOperation ?saNoOperation ?beNoOperation ?tcNoOperation ?kcNoOperation ?iCNoOperation ?tINoOperation ?lINoOperation ?cINoOperation ?kINoOperation ?flNoOperation ?aCEarly ?lCEarly ?saEarly ?beEarly ?tcEarly ?kcEarly ?iCEarly ?tIEarly ?lIEarly ?cIEarly ?kIEarly ?flEarly ?aCHere ?lCHere ?saHere ?beHere ?tcHere ?kcHere ?iCHere ?tIHere ?lIHere ?cIHere ?kIHere ?flHere ?aCFull ?lCFull ?saFull ?beFull ?tcFull ?kcFull ?iCFull ?tIFull ?lIFull ?cIFull ?kIFull ?flFull ?vVLookupError ?vVOverflowError ?vVRuntimeError ?zbLookupError ?zbOverflowError ?zbRuntimeError ?iKMOST_THERE ?z0 ?z1 ?z2 ?z3 ?z4 ?z5 ?z6 ?z7 ?z8 ?z9 ?z10 ?z11 ?z12 ?z13 ?z14 ?z15 ?z16 ?z17 ?z18 ?z19
    (case oa => k_is)
    (case opg => k_is)
    (case ohd => k_is)
    (case opo => k_is)
    (case osa => k_is)
    (case omk => k_is)
    (case okc => k_is)
    (case a0 => k_is)
    (case l0 => k_is)
    (case c0 => k_is)
    (case k0 => k_is)
    (case a1 => k_is)
    (case l1 => k_is)
    (case c1 => k_is)
    (case k1 => k_is)
    (case a2 => k_is)
    (case l2 => k_is)
    (case c2 => k_is)
    (case k2 => k_is)
    (case a3 => k_is)
    (case l3 => k_is)
    (case c3 => k_is)
    (case k3 => k_is)
    (case a4 => k_is)
    (case l4 => k_is)
    (case c4 => k_is)
    (case k4 => k_is)
    (case a5 => k_is)
    (case l5 => k_is)
    (case c5 => k_is)
    (case k5 => k_is)
    (case a6 => k_is)
    (case l6 => k_is)
    (case c6 => k_is)
    (case k6 => k_is)
    (case a7 => k_is)
    (case l7 => k_is)
    (case c7 => k_is)
    (case k7 => k_is)
    (case a8 => k_is)
    (case l8 => k_is)
    (case c8 => k_is)
    (case k8 => k_is)
    (case a9 => k_is)
    (case i9 => k_is)
    (case l9 => k_is)
    (case c9 => k_is)
    (case k9 => k_is)
    (case tL => k_is)
    (case tO => rfl)
    (case eL => k_is)
    (case eC => rfl)
    (case eO => rfl)
    (case a10 => k_is)
    (case i10 => k_is)
    (case l10 => k_is)
    (case c10 => k_is)
    (case k10 => k_is)
    (case a11 => k_is)
    (case i11 => k_is)
    (case l11 => k_is)
    (case c11 => k_is)
    (case k11 => k_is)
    (case a12 => k_is)
    (case i12 => k_is)
    (case l12 => k_is)
    (case c12 => k_is)
    (case k12 => k_is)
    (case a13 => k_is)
    (case i13 => k_is)
    (case l13 => k_is)
    (case c13 => k_is)
    (case k13 => k_is)
    (case a14 => k_is)
    (case i14 => k_is)
    (case l14 => k_is)
    (case c14 => k_is)
    (case k14 => k_is)
    (case a15 => k_is)
    (case i15 => k_is)
    (case l15 => k_is)
    (case c15 => k_is)
    (case k15 => k_is)
    (case a16 => k_is)
    (case i16 => k_is)
    (case l16 => k_is)
    (case c16 => k_is)
    (case k16 => k_is)
    (case a17 => k_is)
    (case i17 => k_is)
    (case l17 => k_is)
    (case c17 => k_is)
    (case k17 => k_is)
    (case a18 => k_is)
    (case i18 => k_is)
    (case l18 => k_is)
    (case c18 => k_is)
    (case k18 => k_is)
    (case a19 => k_is)
    (case i19 => k_is)
    (case l19 => k_is)
    (case c19 => k_is)
    (case k19 => k_is)
    (case a20 => k_is)
    (case i20 => k_is)
    (case l20 => k_is)
    (case c20 => k_is)
    (case k20 => k_is)
    (case a21 => k_is)
    (case i21 => k_is)
    (case l21 => k_is)
    (case c21 => k_is)
    (case k21 => k_is)
    (case a22 => k_is)
    (case i22 => k_is)
    (case l22 => k_is)
    (case c22 => k_is)
    (case k22 => k_is)
    (case a23 => k_is)
    (case i23 => k_is)
    (case l23 => k_is)
    (case c23 => k_is)
    (case k23 => k_is)
    (case a24 => k_is)
    (case i24 => k_is)
    (case l24 => k_is)
    (case c24 => k_is)
    (case k24 => k_is)
    (case a25 => k_is)
    (case i25 => k_is)
    (case l25 => k_is)
    (case c25 => k_is)
    (case k25 => k_is)
    (case a26 => k_is)
    (case i26 => k_is)
    (case l26 => k_is)
    (case c26 => k_is)
    (case k26 => k_is)
    (case a27 => k_is)
    (case i27 => k_is)
    (case l27 => k_is)
    (case c27 => k_is)
    (case k27 => k_is)
    (case a28 => k_is)
    (case l28 => k_is)
    (case c28 => k_is)
    (case k28 => k_is)
    (case a29 => k_is)
    (case l29 => k_is)
    (case c29 => k_is)
    (case k29 => k_is)
    (case a30 => k_is)
    (case l30 => k_is)
    (case c30 => k_is)
    (case k30 => k_is)
    (case a31 => k_is)
    (case l31 => k_is)
    (case c31 => k_is)
    (case k31 => k_is)
    (case a32 => k_is)
    (case l32 => k_is)
    (case c32 => k_is)
    (case k32 => k_is)
    (case a33 => k_is)
    (case l33 => k_is)
    (case c33 => k_is)
    (case k33 => k_is)
    (case a34 => k_is)
    (case l34 => k_is)
    (case c34 => k_is)
    (case k34 => k_is)
    (case a35 => k_is)
    (case l35 => k_is)
    (case c35 => k_is)
    (case k35 => k_is)
    (case a36 => k_is)
    (case l36 => k_is)
    (case c36 => k_is)
    (case k36 => k_is)
    (case a37 => k_is)
    (case l37 => k_is)
    (case c37 => k_is)
    (case k37 => k_is)
    (case a38 => k_is)
    (case l38 => k_is)
    (case c38 => k_is)
    (case k38 => k_is)
    (case a39 => k_is)
    (case l39 => k_is)
    (case c39 => k_is)
    (case k39 => k_is)
    (case a40 => k_is)
    (case l40 => k_is)
    (case c40 => k_is)
    (case k40 => k_is)
    (case a41 => k_is)
    (case l41 => k_is)
    (case c41 => k_is)
    (case k41 => k_is)
    (case one => k_is)
    (case oca => k_is)
    (case osp => k_is)
    (case otk => k_is)
    (case omo => k_is)
    (case oki0 => k_is)
    (case oki1 => k_is)
    (case oki2 => k_is)
    (case oki3 => k_is)
    (case oki4 => k_is)
    (case oty => k_is)
    (case on_own_log => k_is)
    (case on_own_states => k_is)
    (case al_next_people_coming => k_is)
    (case aCNoPerson => k_is)
    (case lCNoPerson => k_is)
    (case saNoPerson => k_is)
    (case beNoPerson => k_is)
    (case tcNoPerson => k_is)
    (case kcNoPerson => k_is)
    (case iCNoPerson => k_is)
    (case tINoPerson => k_is)
    (case lINoPerson => k_is)
    (case cINoPerson => k_is)
    (case kINoPerson => k_is)
    (case flNoPerson => k_is)
    (case aCNoOperation => k_is)
    (case lCNoOperation => k_is)
    (case saNoOperation => k_is)
    (case beNoOperation => k_is)
    (case tcNoOperation => k_is)
    (case kcNoOperation => k_is)
    (case iCNoOperation => k_is)
    (case tINoOperation => k_is)
    (case lINoOperation => k_is)
    (case cINoOperation => k_is)
    (case kINoOperation => k_is)
    (case flNoOperation => k_is)
    (case aCEarly => k_is)
    (case lCEarly => k_is)
    (case saEarly => k_is)
    (case beEarly => k_is)
    (case tcEarly => k_is)
    (case kcEarly => k_is)
    (case iCEarly => k_is)
    (case tIEarly => k_is)
    (case lIEarly => k_is)
    (case cIEarly => k_is)
    (case kIEarly => k_is)
    (case flEarly => k_is)
    (case aCHere => k_is)
    (case lCHere => k_is)
    (case saHere => k_is)
    (case beHere => k_is)
    (case tcHere => k_is)
    (case kcHere => k_is)
    (case iCHere => k_is)
    (case tIHere => k_is)
    (case lIHere => k_is)
    (case cIHere => k_is)
    (case kIHere => k_is)
    (case flHere => k_is)
    (case aCFull => k_is)
    (case lCFull => k_is)
    (case saFull => k_is)
    (case beFull => k_is)
    (case tcFull => k_is)
    (case kcFull => k_is)
    (case iCFull => k_is)
    (case tIFull => k_is)
    (case lIFull => k_is)
    (case cIFull => k_is)
    (case kIFull => k_is)
    (case flFull => k_is)
    (case vVLookupError => k_is)
    (case vVOverflowError => k_is)
    (case vVRuntimeError => k_is)
    (case zbLookupError => k_is)
    (case zbOverflowError => k_is)
    (case zbRuntimeError => k_is)
    (case iKMOST_THERE => k_is)
    (case z0 => k_is)
    (case z1 => k_is)
    (case z2 => k_is)
    (case z3 => k_is)
    (case z4 => k_is)
    (case z5 => k_is)
    (case z6 => k_is)
    (case z7 => k_is)
    (case z8 => k_is)
    (case z9 => k_is)
    (case z10 => k_is)
    (case z11 => k_is)
    (case z12 => k_is)
    (case z13 => k_is)
    (case z14 => k_is)
    (case z15 => k_is)
    (case z16 => k_is)
    (case z17 => k_is)
    (case z18 => k_is)
    (case z19 => k_is)
