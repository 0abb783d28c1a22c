import PyProof.Rows.All
import Wide.All
import OpenK.AllK
import Wide.FinOn
import HandS.ForMost
import PyProof.ReprRoads
import HandS.ExcOwn
import KE.GoesEnum
import KE.GoesMore
import HandS.Zip
import HandS.TupAny
import HandS.TupMul
import HandS.Conv
import HandS.IsInst
import HandS.SortInts
import HandS.Ends
import HandS.Deep
import HandS.TupLe
import HandS.Strs
import HandS.Style
import KE.DataMinMax
import KE.SortData
import HandS.SetFor
import HandS.TupSets
import HandS.Iter
import KE.KDictPairs
import HandS.ExcInit
import HandS.ExcIs
import HandS.ExcField
import HandS.FStr
import HandS.FStrTup
import KE.KExcInit
import KE.KTryMore
import PyProof.ExcBaseAll.LookupError
import PyProof.ExcBaseAll.OverflowError
import PyProof.ExcBaseAll.RuntimeError
import PyProof.ExcBaseAll.ValueError
import KE.KExcIs
import HandS.WordsExc
import HandS.TryOnly
import PyProof.ReprLen
import PyProof.FitsInt
import HandS.DictTup
import HandS.TupLen
import KE.KDictDisplayH
import HandS.ExcValue
import PySem.Challenge.RW_enoughcame_k15_errors_by_hand
set_option Elab.async false
set_option linter.all false
set_option maxRecDepth 100000
set_option maxHeartbeats 4000000
namespace Ec
open PySem PySem.Spec PyProof.Rows L2
theorem same_t {K : PySem.W.Frag} {H H' : Hp} {a : Addr} {xs : List V} (e : Same H H') (h : SqT K H a xs) : SqT K H' a xs := by
  rcases h with (h | ⟨o, h⟩) | h
  · exact .inl (.inl (e _ _ h))
  · exact .inl (.inr ⟨o, e _ _ h⟩)
  · exact .inr h
theorem same_new {H : Hp} {p : Addr} {o : HO} (h : H p = none) : Same H (upd H p o) := fun b x e => by
  rw [upd_ne (ne_of_none e h)]
  exact e
mutual
inductive De (K : PySem.W.Frag) (F : Hp) : V → PyData → Prop
  | non : De K F .non .none
  | bl (b : Bool) : De K F (.bl b) (.bool b)
  | int (i : Int) : De K F (.int i) (.int i)
  | str (x : Str) : De K F (.str x) (.str x)
  | lst {a : Addr} {vs : List V} {ds : List PyData} (h : F a = some (.lst vs)) (g : DeAll K F vs ds) : De K F (.ref a) (.list ds)
  | tup {a : Addr} {vs : List V} {ds : List PyData} {o : Obj} (h : F a = some (.frz o (.tup vs))) (n : o.dict = none) (g : DeAll K F vs ds) : De K F (.ref a) (.tuple ds)
inductive DeAll (K : PySem.W.Frag) (F : Hp) : List V → List PyData → Prop
  | nil : DeAll K F [] []
  | cons {v : V} {vs : List V} {d : PyData} {ds : List PyData} (h : De K F v d) (g : DeAll K F vs ds) : DeAll K F (v :: vs) (d :: ds)
end
mutual
theorem De.dp {K : PySem.W.Frag} {F : Hp} : ∀ {d : PyData} {v : V}, De K F v d → Dp K F v d
  | .none, _, h => by cases h; exact .non
  | .bool b, _, h => by cases h; exact .bl b
  | .int i, _, h => by cases h; exact .int i
  | .str x, _, h => by cases h; exact .str x
  | .list ds, _, h => by
    cases h with
    | lst hs ha => exact .lst (.of hs) ha.dps
  | .tuple ds, _, h => by
    cases h with
    | tup hs hn ha => exact .tup (.inl (.inr ⟨_, hs⟩)) ha.dps
  | .dict _, _, h => by cases h
theorem DeAll.dps {K : PySem.W.Frag} {F : Hp} : ∀ {ds : List PyData} {vs : List V}, DeAll K F vs ds → DpAll K F vs ds
  | [], _, h => by cases h; exact .nil
  | d :: ds, _, h => by
    cases h with
    | cons h1 h2 => exact .cons h1.dp h2.dps
end
mutual
theorem dp_up {K : PySem.W.Frag} {H H' : Hp} (e : Same H H') : ∀ (d : PyData) (v : V), De K H v d → De K H' v d
  | .none, _, h => by cases h; exact .non
  | .bool b, _, h => by cases h; exact .bl b
  | .int i, _, h => by cases h; exact .int i
  | .str x, _, h => by cases h; exact .str x
  | .list ds, _, h => by
    cases h with
    | lst hs ha => exact .lst (e _ _ hs) (dps_up e ds _ ha)
  | .tuple ds, _, h => by
    cases h with
    | tup hs hn ha => exact .tup (e _ _ hs) hn (dps_up e ds _ ha)
  | .dict _, _, h => by cases h
theorem dps_up {K : PySem.W.Frag} {H H' : Hp} (e : Same H H') : ∀ (ds : List PyData) (vs : List V), DeAll K H vs ds → DeAll K H' vs ds
  | [], _, h => by cases h; exact .nil
  | d :: ds, _, h => by
    cases h with
    | cons h1 h2 => exact .cons (dp_up e d _ h1) (dps_up e ds _ h2)
end
theorem dps_len {K : PySem.W.Frag} {H : Hp} : ∀ {ds : List PyData} {vs : List V}, DeAll K H vs ds → vs.length = ds.length
  | [], _, h => by cases h; rfl
  | d :: ds, _, h => by
    cases h with
    | cons h1 h2 => simp only [List.length_cons, dps_len h2]
theorem dps_get {K : PySem.W.Frag} {H : Hp} : ∀ {ds : List PyData} {vs : List V} {i : Nat} {d : PyData}, DeAll K H vs ds → ds[i]? = some d → ∃ v, vs[i]? = some v ∧ De K H v d
  | [], _, _, _, _, e => by simp at e
  | d :: ds, _, 0, _, h, e => by
    cases h with
    | cons h1 h2 =>
      simp at e
      subst e
      exact ⟨_, rfl, h1⟩
  | d :: ds, _, i + 1, x, h, e => by
    cases h with
    | cons h1 h2 =>
      obtain ⟨v, e1, e2⟩ := dps_get (i := i) (d := x) h2 (by simpa using e)
      exact ⟨v, by simpa using e1, e2⟩
theorem dps_app {K : PySem.W.Frag} {H : Hp} : ∀ {ds es : List PyData} {vs ws : List V}, DeAll K H vs ds → DeAll K H ws es → DeAll K H (vs ++ ws) (ds ++ es)
  | [], _, _, _, h, g => by cases h; exact g
  | d :: ds, _, _, _, h, g => by
    cases h with
    | cons h1 h2 => exact .cons h1 (dps_app h2 g)
theorem dp_int {K : PySem.W.Frag} {H : Hp} {v : V} {i : Int} (h : De K H v (.int i)) : v = .int i := by cases h; rfl
theorem dp_bl {K : PySem.W.Frag} {H : Hp} {v : V} {b : Bool} (h : De K H v (.bool b)) : v = .bl b := by cases h; rfl
theorem dp_non {K : PySem.W.Frag} {H : Hp} {v : V} (h : De K H v .none) : v = .non := by cases h; rfl
theorem dp_str {K : PySem.W.Frag} {H : Hp} {v : V} {x : Str} (h : De K H v (.str x)) : v = .str x := by cases h; rfl
theorem dp_lst {K : PySem.W.Frag} {H : Hp} {v : V} {ds : List PyData} (h : De K H v (.list ds)) : ∃ a vs, v = .ref a ∧ SqL K H a vs ∧ DeAll K H vs ds := by
  cases h with
  | lst h1 h2 => exact ⟨_, _, rfl, .of h1, h2⟩
theorem dp_lstX {K : PySem.W.Frag} {H : Hp} {v : V} {ds : List PyData} (h : De K H v (.list ds)) : ∃ a vs, v = .ref a ∧ H a = some (.lst vs) ∧ DeAll K H vs ds := by
  cases h with
  | lst h1 h2 => exact ⟨_, _, rfl, h1, h2⟩
theorem dp_tupX {K : PySem.W.Frag} {H : Hp} {v : V} {ds : List PyData} (h : De K H v (.tuple ds)) : ∃ a vs o, v = .ref a ∧ H a = some (.frz o (.tup vs)) ∧ o.dict = none ∧ DeAll K H vs ds := by
  cases h with
  | tup h1 h2 h3 => exact ⟨_, _, _, rfl, h1, h2, h3⟩
theorem dp_tup {K : PySem.W.Frag} {H : Hp} {v : V} {ds : List PyData} (h : De K H v (.tuple ds)) : ∃ a vs, v = .ref a ∧ SqT K H a vs ∧ DeAll K H vs ds := by
  obtain ⟨a, vs, o, e, h1, _, h3⟩ := dp_tupX h
  exact ⟨a, vs, e, .inl (.inr ⟨o, h1⟩), h3⟩
abbrev intsD (ns : List Int) : List PyData := ns.map PyData.int
theorem dps_ints {K : PySem.W.Frag} {H : Hp} : ∀ {ns : List Int} {vs : List V}, DeAll K H vs (intsD ns) → vs = ns.map V.int
  | [], _, h => by cases h; rfl
  | n :: ns, _, h => by
    cases h with
    | cons h1 h2 =>
      rw [dp_int h1, dps_ints h2]
      rfl
theorem ints_dps {K : PySem.W.Frag} {H : Hp} : ∀ (ns : List Int), DeAll K H (ns.map V.int) (intsD ns)
  | [] => .nil
  | n :: ns => .cons (.int n) (ints_dps ns)
theorem dps_bls {K : PySem.W.Frag} {H : Hp} : ∀ {ns : List Bool} {vs : List V}, DeAll K H vs (ns.map PyData.bool) → vs = ns.map V.bl
  | [], _, h => by cases h; rfl
  | n :: ns, _, h => by
    cases h with
    | cons h1 h2 =>
      rw [dp_bl h1, dps_bls h2]
      rfl
inductive Cont where
  | l (ds : List PyData)
  | i (kvs : List (Int × PyData))
  | t (kvs : List (List Int × PyData))
  | o (C : Addr) (fs : List (Str × PyData))
instance : Coe (List PyData) Cont := ⟨Cont.l⟩
def hashI (k : List Int) : Int := reduceHash (Builtin.Tuple.tupleHashOf (k.map hashInt))
def DTO (a : Addr) (xs : List (List Int × Addr × Value)) : HO := .ext fun h => (a == sysModules) = false ∧ ∃ o es ep, h.get? a = some o ∧ o.ExactDict ∧ o.data = .dict es ep ∧ es.toList = xs.map (fun x => { hash := hashI x.1, key := .ref x.2.1, val := x.2.2 }) ∧ (xs.map (·.1)).Nodup
def DtE (K : PySem.W.Frag) (F : Hp) (x : List Int × Addr × Value) (p : List Int × PyData) : Prop := x.1 = p.1 ∧ (∃ o, F x.2.1 = some (.frz o (.tup (p.1.map V.int))) ∧ o.dict = none) ∧ ∃ w, RelV w x.2.2 ∧ De K F w p.2
def ZkOk (K : PySem.W.Frag) (F : Hp) (p : Addr) (kvs : List (List Int × PyData)) : Prop := ∃ (od : Obj) (xs : List (List Int × Addr × Value)), F p = some (.frz od (.frz od (DTO p xs))) ∧ Paired (DtE K F) xs kvs
theorem ZkOk.up {K : PySem.W.Frag} {F F' : Hp} {p : Addr} {kvs : List (List Int × PyData)} (e : Same F F') (h : ZkOk K F p kvs) : ZkOk K F' p kvs := by
  obtain ⟨od, xs, h1, h2⟩ := h
  exact ⟨od, xs, e _ _ h1, Paired.mapP h2 fun x p ⟨e1, ⟨o, e2, e3⟩, w, e4, e5⟩ => ⟨e1, ⟨o, e _ _ e2, e3⟩, w, e4, dp_up e _ _ e5⟩⟩
def ptr (p : Addr) : PyData := .dict [(.int p, .none)]
def zd (p : Addr) (kvs : List (List Int × PyData)) : PyData := .dict ((.int p, .str "z") :: kvs.map fun q => (.tuple (intsD q.1), q.2))
def ptr2 (a b : Addr) : PyData := .dict [(.int a, .int b)]
def exI (p C : Addr) (f : Str) (x : PyData) : PyData := .dict [(.str f, x), (.int p, .int C)]
def exv (a : Addr) (cls : Value) (d : Option Addr) : HO := .ext fun h => ∃ oe vs, h.get? a = some oe ∧ oe.cls = cls ∧ oe.dict = d ∧ oe.data = .fields vs
def isP : PyData → Bool
  | .dict _ => true
  | _ => false
inductive Dq (K : PySem.W.Frag) (F : Hp) : V → PyData → Prop
  | d {v : V} {x : PyData} (h : De K F v x) : Dq K F v x
  | p (a : Addr) : Dq K F (.ref a) (ptr a)
  | z {a : Addr} {kvs : List (List Int × PyData)} (h : ZkOk K F a kvs) : Dq K F (.ref a) (zd a kvs)
  | q {T a b : Addr} {o : Obj} (h : F T = some (.frz o (.tup [.ref a, .ref b]))) (n : o.dict = none) : Dq K F (.ref T) (ptr2 a b)
  | e {p C dd : Addr} {f : Str} {x : PyData} {w : V} (h : F p = some (exv p (.ref C) (some dd))) (g : F dd = some (.xd [(f, w)])) (o : De K F w x) : Dq K F (.ref p) (exI p C f x)
abbrev DqAll (K : PySem.W.Frag) (F : Hp) : List V → List PyData → Prop := Paired (Dq K F)
abbrev plS (ds : List PyData) : Prop := ∀ d ∈ ds, isP d = false
theorem Dq.up {K : PySem.W.Frag} {H H' : Hp} (e : Same H H') {v : V} {d : PyData} : Dq K H v d → Dq K H' v d
  | .d h => .d (dp_up e _ _ h)
  | .p a => .p a
  | .z h => .z (h.up e)
  | .q h n => .q (e _ _ h) n
  | .e h g o => .e (e _ _ h) (e _ _ g) (dp_up e _ _ o)
theorem dqs_up {K : PySem.W.Frag} {H H' : Hp} (e : Same H H') : ∀ (ds : List PyData) (vs : List V), DqAll K H vs ds → DqAll K H' vs ds
  | _, _, .nil => .nil
  | _, _, .cons h t => .cons (h.up e) (dqs_up e _ _ t)
theorem dqs_len {K : PySem.W.Frag} {H : Hp} : ∀ {ds : List PyData} {vs : List V}, DqAll K H vs ds → vs.length = ds.length
  | _, _, .nil => rfl
  | _, _, .cons _ t => by simp only [List.length_cons, dqs_len t]
theorem dqs_get {K : PySem.W.Frag} {H : Hp} : ∀ {ds : List PyData} {vs : List V} {i : Nat} {d : PyData}, DqAll K H vs ds → ds[i]? = some d → ∃ v, vs[i]? = some v ∧ Dq K H v d
  | _, _, _, _, .nil, e => by simp at e
  | _, _, 0, _, .cons h _, e => by
    simp at e
    subst e
    exact ⟨_, rfl, h⟩
  | _, _, i + 1, x, .cons _ t, e => by
    obtain ⟨v, e1, e2⟩ := dqs_get (i := i) (d := x) t (by simpa using e)
    exact ⟨v, by simpa using e1, e2⟩
theorem dqs_app {K : PySem.W.Frag} {H : Hp} : ∀ {ds es : List PyData} {vs ws : List V}, DqAll K H vs ds → DqAll K H ws es → DqAll K H (vs ++ ws) (ds ++ es)
  | _, _, _, _, .nil, g => g
  | _, _, _, _, .cons h t, g => .cons h (dqs_app t g)
theorem dqs_set {K : PySem.W.Frag} {H : Hp} {v : V} {d : PyData} (hv : Dq K H v d) : ∀ {ds : List PyData} {vs : List V} (n : Nat), DqAll K H vs ds → DqAll K H (vs.set n v) (ds.set n d)
  | _, _, _, .nil => .nil
  | _, _, 0, .cons _ t => .cons hv t
  | _, _, n + 1, .cons h t => .cons h (dqs_set hv n t)
theorem DqAll.of {K : PySem.W.Frag} {H : Hp} : ∀ {ds : List PyData} {vs : List V}, DeAll K H vs ds → DqAll K H vs ds
  | [], _, h => by
    cases h
    exact .nil
  | d :: ds, _, h => by
    cases h with
    | cons h1 h2 => exact .cons (.d h1) (DqAll.of h2)
theorem Dq.to {K : PySem.W.Frag} {H : Hp} {v : V} {d : PyData} (e : isP d = false) : Dq K H v d → De K H v d
  | .d h => h
  | .p a => by cases e
  | .z h => by cases e
  | .q _ _ => by cases e
  | .e _ _ _ => by cases e
theorem DqAll.to {K : PySem.W.Frag} {H : Hp} : ∀ {ds : List PyData} {vs : List V}, plS ds → DqAll K H vs ds → DeAll K H vs ds
  | _, _, _, .nil => .nil
  | _, _, e, .cons h t => .cons (h.to (e _ List.mem_cons_self)) (DqAll.to (fun d m => e d (List.mem_cons_of_mem _ m)) t)
theorem plS_map {α : Type} {l : List α} {f : α → PyData} (h : ∀ x, isP (f x) = false) : plS (l.map f) := fun d m => by
  obtain ⟨x, _, rfl⟩ := List.mem_map.mp m
  exact h x
theorem plS_app {as bs : List PyData} (h : plS as) (g : plS bs) : plS (as ++ bs) := fun d m => (List.mem_append.mp m).elim (h d) (g d)
theorem plS_nil : plS [] := fun _ h => by cases h
theorem plS_cons {a : PyData} {as : List PyData} (h : isP a = false) (g : plS as) : plS (a :: as) := fun d m => by
  rcases List.mem_cons.mp m with rfl | m
  · exact h
  · exact g d m
def FlE (K : PySem.W.Frag) (F : Hp) (x : Str × V) (p : Str × PyData) : Prop := x.1 = p.1 ∧ Dq K F x.2 p.2
theorem FlE.up {K : PySem.W.Frag} {F F' : Hp} (e : Same F F') {xs : List (Str × V)} {fs : List (Str × PyData)} (h : Paired (FlE K F) xs fs) : Paired (FlE K F') xs fs := Paired.mapP h fun x p ⟨a, b⟩ => ⟨a, b.up e⟩
def CelOk (K : PySem.W.Frag) (F H : Hp) (b : Addr) : Cont → Prop
  | .l ds => ∃ vs, H b = some (.lst vs) ∧ DqAll K F vs ds
  | .i kvs => ∃ ws : List V, DeAll K F ws (kvs.map Prod.snd) ∧ H b = some (.dK (List.zipWith (fun k w => (Sum.inl k.1, w)) kvs ws))
  | .t kvs => ∃ xs, H b = some (DTO b xs) ∧ Paired (DtE K F) xs kvs
  | .o C fs => ∃ (dx : Addr) (vs : List (Str × V)), H b = some (.ins C dx vs) ∧ Paired (FlE K F) vs fs
def LkOk (K : PySem.W.Frag) (F : Hp) (b : Addr) : Cont → Prop
  | .l _ => False
  | .i kvs => ∃ (od : Obj) (ws : List V), DeAll K F ws (kvs.map Prod.snd) ∧ F b = some (.frz od (.dK (List.zipWith (fun k w => (Sum.inl k.1, w)) kvs ws)))
  | .t kvs => ∃ (od : Obj) (xs : List (List Int × Addr × Value)), F b = some (.frz od (DTO b xs)) ∧ Paired (DtE K F) xs kvs
  | .o C fs => ∃ (od : Obj) (dx : Addr) (vs : List (Str × V)), F b = some (.frz od (.ins C dx vs)) ∧ Paired (FlE K F) vs fs
theorem LkOk.up {K : PySem.W.Frag} {F F' : Hp} {b : Addr} {c : Cont} (e : Same F F') (h : LkOk K F b c) : LkOk K F' b c := by
  cases c with
  | l ds => exact h
  | i kvs =>
    obtain ⟨od, ws, h1, h2⟩ := h
    exact ⟨od, ws, dps_up e _ _ h1, e _ _ h2⟩
  | t kvs =>
    obtain ⟨od, xs, h1, h2⟩ := h
    exact ⟨od, xs, e _ _ h1, Paired.mapP h2 fun x p ⟨e1, ⟨o, e2, e3⟩, w, e4, e5⟩ => ⟨e1, ⟨o, e _ _ e2, e3⟩, w, e4, dp_up e _ _ e5⟩⟩
  | o C fs =>
    obtain ⟨od, dx, vs, h1, h2⟩ := h
    exact ⟨od, dx, vs, e _ _ h1, FlE.up e h2⟩
inductive Vd where
  | d (x : PyData)
  | a (p : Addr)
  | w (x : PyData)
  | s (ns : List Int)
  | k (p : Addr) (c : Cont)
  | e (p C : Addr) (f : Str) (x : PyData)
  | z (p : Addr) (kvs : List (List Int × PyData))
  | q (a b : Addr)
  | m (p : Addr) (b : Bool) (ds : List PyData)
abbrev Vd.x (ds : List PyData) : Vd := .d (.tuple ds)
abbrev Cells := List (Addr × Cont)
abbrev Dl := List (Option Vd)
abbrev ks (μ : Cells) : List Addr := μ.map Prod.fst
def VOk (K : PySem.W.Frag) (F : Hp) : Vd → V → Prop
  | .d x, v => De K F v x
  | .a p, v => v = .ref p
  | .s ns, v => ∃ a, v = .ref a ∧ SqL K F a (ns.map V.int)
  | .w (.list ds), v => ∃ a vs, v = .ref a ∧ SqT K F a vs ∧ DqAll K F vs ds
  | .w x, v => ∃ a vs ds, x = .tuple ds ∧ v = .ref a ∧ SqT K F a vs ∧ DeAll K F vs ds
  | .k p c, v => v = .ref p ∧ LkOk K F p c
  | .e p C f x, v => v = .ref p ∧ ∃ (dd : Addr) (w : V), F p = some (exv p (.ref C) (some dd)) ∧ F dd = some (.xd [(f, w)]) ∧ De K F w x
  | .z p kvs, v => v = .ref p ∧ ZkOk K F p kvs
  | .q a b, v => ∃ (T : Addr) (o : Obj), v = .ref T ∧ F T = some (.frz o (.tup [.ref a, .ref b])) ∧ o.dict = none
  | .m p true ds, v => v = .ref p ∧ ∃ vs o, F p = some (.frz o (.tup vs)) ∧ o.dict = none ∧ DqAll K F vs ds
  | .m p false ds, v => v = .ref p ∧ ∃ vs, F p = some (.lst vs) ∧ DqAll K F vs ds
theorem VOk.up {K : PySem.W.Frag} {F F' : Hp} (e : Same F F') : ∀ {x : Vd} {v : V}, VOk K F x v → VOk K F' x v
  | .d x, _, h => dp_up e x _ h
  | .a _, _, h => h
  | .s ns, _, ⟨a, e1, e2⟩ => ⟨a, e1, e.seq e2⟩
  | .w (.list _), _, ⟨a, vs, e2, e3, e4⟩ => ⟨a, vs, e2, same_t e e3, dqs_up e _ _ e4⟩
  | .w (.tuple _), _, ⟨a, vs, ds, e1, e2, e3, e4⟩ => ⟨a, vs, ds, e1, e2, same_t e e3, dps_up e _ _ e4⟩
  | .w .none, _, ⟨_, _, _, e1, _⟩ => by cases e1
  | .w (.bool _), _, ⟨_, _, _, e1, _⟩ => by cases e1
  | .w (.int _), _, ⟨_, _, _, e1, _⟩ => by cases e1
  | .w (.str _), _, ⟨_, _, _, e1, _⟩ => by cases e1
  | .w (.dict _), _, ⟨_, _, _, e1, _⟩ => by cases e1
  | .k p c, _, ⟨e1, e2⟩ => ⟨e1, e2.up e⟩
  | .e p C f x, _, ⟨e1, dd, w, e2, e3, e4⟩ => ⟨e1, dd, w, e _ _ e2, e _ _ e3, dp_up e _ _ e4⟩
  | .z p kvs, _, ⟨e1, e2⟩ => ⟨e1, e2.up e⟩
  | .q a b, _, ⟨T, o, e1, e2, e3⟩ => ⟨T, o, e1, e _ _ e2, e3⟩
  | .m p true ds, _, ⟨e1, vs, o, h1, h2, h3⟩ => ⟨e1, vs, o, e _ _ h1, h2, dqs_up e _ _ h3⟩
  | .m p false ds, _, ⟨e1, vs, h1, h3⟩ => ⟨e1, vs, e _ _ h1, dqs_up e _ _ h3⟩
abbrev VAll (K : PySem.W.Frag) (F : Hp) : List Vd → List V → Prop := Paired (VOk K F)
theorem VAll.up {K : PySem.W.Frag} {F F' : Hp} (e : Same F F') : ∀ {xs : List Vd} {vs : List V}, VAll K F xs vs → VAll K F' xs vs
  | _, _, .nil => .nil
  | _, _, .cons h t => .cons (h.up e) (VAll.up e t)
def Own : HO → Prop
  | .tup _ => False
  | .frz _ _ => False
  | _ => True
theorem CelOk.obj {K : PySem.W.Frag} {F H : Hp} {b : Addr} {c : Cont} (h : CelOk K F H b c) : ∃ o, H b = some o ∧ Own o := by
  cases c with
  | l ds =>
    obtain ⟨vs, e, _⟩ := h
    exact ⟨_, e, trivial⟩
  | i kvs =>
    obtain ⟨ws, _, e⟩ := h
    exact ⟨_, e, trivial⟩
  | t kvs =>
    obtain ⟨xs, e, _⟩ := h
    exact ⟨_, e, trivial⟩
  | o C fs =>
    obtain ⟨dx, vs, e, _⟩ := h
    exact ⟨_, e, trivial⟩
theorem CelOk.ne {K : PySem.W.Frag} {F H : Hp} {b : Addr} {c : Cont} (h : CelOk K F H b c) : H b ≠ none := by
  obtain ⟨o, e, _⟩ := h.obj
  rw [e]
  exact fun z => by cases z
theorem CelOk.to {K : PySem.W.Frag} {F F' H H' : Hp} {b : Addr} {c : Cont} (h : CelOk K F H b c) (e : Same F F') (k : ∀ o, H b = some o → H' b = some o) : CelOk K F' H' b c := by
  cases c with
  | l ds =>
    obtain ⟨vs, h1, h2⟩ := h
    exact ⟨vs, k _ h1, dqs_up e _ _ h2⟩
  | i kvs =>
    obtain ⟨ws, h1, h2⟩ := h
    exact ⟨ws, dps_up e _ _ h1, k _ h2⟩
  | t kvs =>
    obtain ⟨xs, h1, h2⟩ := h
    exact ⟨xs, k _ h1, Paired.mapP h2 fun x p ⟨e1, ⟨o, e2, e3⟩, w, e4, e5⟩ => ⟨e1, ⟨o, e _ _ e2, e3⟩, w, e4, dp_up e _ _ e5⟩⟩
  | o C fs =>
    obtain ⟨dx, vs, h1, h2⟩ := h
    exact ⟨dx, vs, k _ h1, FlE.up e h2⟩
structure RpM (K : PySem.W.Frag) (F H : Hp) (μ : Cells) : Prop where
  ex : Same F H
  nd : (ks μ).Nodup
  cel : ∀ b c, (b, c) ∈ μ → F b = none ∧ CelOk K F H b c
structure Rp (K : PySem.W.Frag) (F H : Hp) (σ : L2.St) (δ : Dl) (μ : Cells) : Prop where
  m : RpM K F H μ
  len : σ.length = δ.length
  env : ∀ (i : Nat) (x : Vd), δ[i]? = some (some x) → ∃ v, σ[i]? = some (some v) ∧ VOk K F x v
structure Fw (bs bs' : List Addr) (F H F' H' : Hp) : Prop where
  f : Same F F'
  k : ∀ b o, H b = some o → b ∉ bs → H' b = some o
  c : ∀ b, F b = none → H b ≠ none → b ∉ bs → F' b = none
  s : ∀ b ∈ bs', b ∈ bs ∨ H b = none
theorem Fw.refl {bs : List Addr} {F H : Hp} : Fw bs bs F H F H := ⟨Same.refl F, fun _ _ e _ => e, fun _ e _ _ => e, fun _ h => .inl h⟩
theorem Fw.trans {b0 b1 b2 : List Addr} {F H F1 H1 F2 H2 : Hp} (x : Fw b0 b1 F H F1 H1) (y : Fw b1 b2 F1 H1 F2 H2) : Fw b0 b2 F H F2 H2 := by
  have out : ∀ b, H b ≠ none → b ∉ b0 → b ∉ b1 := fun b h n m => (x.s b m).elim n h
  refine ⟨x.f.trans y.f, fun b o e n => y.k b o (x.k b o e n) (out b (by rw [e]; exact fun z => by cases z) n), fun b e h n => ?_, fun b m => ?_⟩
  · refine y.c b (x.c b e h n) ?_ (out b h n)
    cases q : H b with
    | none => exact absurd q h
    | some o =>
      rw [x.k b o q n]
      exact fun z => by cases z
  · rcases y.s b m with h | h
    · exact x.s b h
    · cases q : H b with
      | none => exact .inr rfl
      | some o =>
        by_cases n : b ∈ b0
        · exact .inl n
        · rw [x.k b o q n] at h
          cases h
theorem RpM.up {K : PySem.W.Frag} {F H F' H' : Hp} {μ μr : Cells} {bs bs' : List Addr} (r : RpM K F H μr) (w : Fw bs bs' F H F' H') (n : ∀ b ∈ ks μr, b ∉ bs) : ∀ b c, (b, c) ∈ μr → F' b = none ∧ CelOk K F' H' b c := fun b c m => by
  obtain ⟨f, h⟩ := r.cel b c m
  have nb := n b (List.mem_map.mpr ⟨_, m, rfl⟩)
  exact ⟨w.c b f h.ne nb, h.to w.f fun o e => w.k b o e nb⟩
theorem Rp.to {K : PySem.W.Frag} {F H F' H' : Hp} {σ : L2.St} {δ : Dl} {μ μ' : Cells} (r : Rp K F H σ δ μ) (e : Same F F') (m : RpM K F' H' μ') : Rp K F' H' σ δ μ' :=
  ⟨m, r.len, fun i x h => by
    obtain ⟨v, h1, h2⟩ := r.env i x h
    exact ⟨v, h1, h2.up e⟩⟩
theorem Rp.put {K : PySem.W.Frag} {F H : Hp} {σ : L2.St} {δ : Dl} {μ : Cells} {x : Vd} {v : V} (r : Rp K F H σ δ μ) (i : Nat) (h : VOk K F x v) : Rp K F H (σ.set i (some v)) (δ.set i (some x)) μ := by
  refine ⟨r.m, by rw [List.length_set, List.length_set, r.len], fun j y e => ?_⟩
  by_cases hj : i = j
  · subst hj
    by_cases hl : i < δ.length
    · rw [List.getElem?_set_self hl] at e
      cases e
      exact ⟨v, List.getElem?_set_self (by rw [r.len]; exact hl), h⟩
    · rw [List.getElem?_eq_none (by rw [List.length_set]; omega)] at e
      cases e
  · rw [List.getElem?_set_ne hj] at e
    obtain ⟨u, h1, h2⟩ := r.env j y e
    exact ⟨u, by rw [List.getElem?_set_ne hj]; exact h1, h2⟩
theorem Rp.out {K : PySem.W.Frag} {F H : Hp} {σ : L2.St} {δ : Dl} {μ : Cells} (r : Rp K F H σ δ μ) (i : Nat) : Rp K F H (σ.set i none) (δ.set i none) μ := by
  refine ⟨r.m, by rw [List.length_set, List.length_set, r.len], fun j y e => ?_⟩
  by_cases hj : i = j
  · subst hj
    by_cases hl : i < δ.length
    · rw [List.getElem?_set_self hl] at e
      cases e
    · rw [List.getElem?_eq_none (by rw [List.length_set]; omega)] at e
      cases e
  · rw [List.getElem?_set_ne hj] at e
    obtain ⟨u, h1, h2⟩ := r.env j y e
    exact ⟨u, by rw [List.getElem?_set_ne hj]; exact h1, h2⟩
def wipeD (δ : Dl) : List Nat → Dl
  | [] => δ
  | v :: vs => (wipeD δ vs).set v none
theorem Rp.wiped {K : PySem.W.Frag} {F H : Hp} {σ : L2.St} {δ : Dl} {μ : Cells} (r : Rp K F H σ δ μ) : ∀ vs : List Nat, Rp K F H (wipe σ vs) (wipeD δ vs) μ
  | [] => r
  | v :: vs => (Rp.wiped r vs).out v
theorem RpM.new {K : PySem.W.Frag} {F H : Hp} {μ : Cells} {p : Addr} {o : HO} (r : RpM K F H μ) (np : H p = none) : RpM K (upd F p o) (upd H p o) μ ∧ Fw (ks μ) (ks μ) F H (upd F p o) (upd H p o) := by
  have fp : F p = none := r.ex.free np
  have ne : ∀ b, H b ≠ none → b ≠ p := fun b h z => h (z ▸ np)
  refine ⟨⟨fun b x e => ?_, r.nd, fun b c m => ?_⟩, same_new fp, fun b x e _ => ?_, fun b e h _ => ?_, fun b m => .inl m⟩
  · by_cases hb : b = p
    · subst hb
      rw [upd_same] at e ⊢
      exact e
    · rw [upd_ne hb] at e ⊢
      exact r.ex b x e
  · obtain ⟨f, h⟩ := r.cel b c m
    have nb : b ≠ p := ne b h.ne
    exact ⟨by rw [upd_ne nb]; exact f, h.to (same_new fp) fun o e => by rw [upd_ne nb]; exact e⟩
  · rw [upd_ne (ne b (by rw [e]; exact fun z => by cases z))]
    exact e
  · rw [upd_ne (ne b h)]
    exact e
theorem RpM.cellO {K : PySem.W.Frag} {F H : Hp} {μ : Cells} {p : Addr} {o : HO} {c : Cont} (r : RpM K F H μ) (np : H p = none) (h : CelOk K F (upd H p o) p c) : RpM K F (upd H p o) ((p, c) :: μ) ∧ Fw (ks μ) (ks ((p, c) :: μ)) F H F (upd H p o) := by
  have fp : F p = none := r.ex.free np
  have ne : ∀ b, H b ≠ none → b ≠ p := fun b h z => h (z ▸ np)
  have out : p ∉ ks μ := fun m => by
    obtain ⟨⟨b, es⟩, m1, m2⟩ := List.mem_map.mp m
    have m2' : b = p := m2
    exact (r.cel b es m1).2.ne (by rw [m2', np])
  refine ⟨⟨fun b x e => ?_, List.nodup_cons.mpr ⟨out, r.nd⟩, fun b es m => ?_⟩, Same.refl F, fun b x e _ => ?_, fun b e _ _ => e, fun b m => ?_⟩
  · rw [upd_ne (ne_of_none e fp)]
    exact r.ex b x e
  · rcases List.mem_cons.mp m with m | m
    · cases m
      exact ⟨fp, h⟩
    · obtain ⟨f, g⟩ := r.cel b es m
      exact ⟨f, g.to (Same.refl F) fun o e => by rw [upd_ne (ne b g.ne)]; exact e⟩
  · rw [upd_ne (ne b (by rw [e]; exact fun z => by cases z))]
    exact e
  · rcases List.mem_cons.mp m with m | m
    · exact .inr (m ▸ np)
    · exact .inl m
theorem RpM.cellQ {K : PySem.W.Frag} {F H : Hp} {μ : Cells} {p : Addr} {vs : List V} {ds : List PyData} (r : RpM K F H μ) (np : H p = none) (h : DqAll K F vs ds) : RpM K F (upd H p (.lst vs)) ((p, ds) :: μ) ∧ Fw (ks μ) (ks ((p, (ds : Cont)) :: μ)) F H F (upd H p (.lst vs)) :=
  r.cellO np ⟨vs, upd_same, h⟩
theorem RpM.cell {K : PySem.W.Frag} {F H : Hp} {μ : Cells} {p : Addr} {vs : List V} {ds : List PyData} (r : RpM K F H μ) (np : H p = none) (h : DeAll K F vs ds) : RpM K F (upd H p (.lst vs)) ((p, ds) :: μ) ∧ Fw (ks μ) (ks ((p, (ds : Cont)) :: μ)) F H F (upd H p (.lst vs)) := r.cellQ np (.of h)
theorem RpM.freeze {K : PySem.W.Frag} {F H : Hp} {μ : Cells} {p : Addr} {ds : List PyData} (r : RpM K F H ((p, ds) :: μ)) (pl : plS ds) : ∃ vs, H p = some (.lst vs) ∧ DeAll K (upd F p (.lst vs)) vs ds ∧ RpM K (upd F p (.lst vs)) H μ ∧ Same F (upd F p (.lst vs)) ∧ F p = none ∧ p ∉ ks μ := by
  obtain ⟨f, vs, e, h⟩ := r.cel p ds List.mem_cons_self
  obtain ⟨out, nd⟩ := List.nodup_cons.mp r.nd
  refine ⟨vs, e, dps_up (same_new f) _ _ (h.to pl), ⟨fun b x q => ?_, nd, fun b es m => ?_⟩, same_new f, f, out⟩
  · by_cases hb : b = p
    · subst hb
      rw [upd_same] at q
      rw [e]
      exact q
    · rw [upd_ne hb] at q
      exact r.ex b x q
  · obtain ⟨f', g⟩ := r.cel b es (List.mem_cons_of_mem _ m)
    have nb : b ≠ p := fun z => out (z ▸ List.mem_map.mpr ⟨_, m, rfl⟩)
    exact ⟨by rw [upd_ne nb]; exact f', g.to (same_new f) fun _ e => e⟩
end Ec
set_option Elab.async false
set_option linter.all false
set_option maxRecDepth 100000
set_option maxHeartbeats 4000000
namespace Ec
open PySem PySem.Spec PyProof.Rows L2
def cE (X : Cx) (e : Expr) : TE := fun σ H Q => ∀ pins s, Inv X pins σ H s → wpAny (model X.prog X.w) X.A (eval e X.env) (EP X pins σ Q) X.xe s
def cT (X : Cx) (e : Expr) : TT := fun σ H Q => ∀ pins s, Inv X pins σ H s → wpAny (model X.prog X.w) X.A (isTrue e X.env (eval e X.env)) (TP X pins σ Q) X.xe s
def cW (X : Cx) (e : Expr) : TT := fun σ H Q => ∀ (wh : Sem Value) pins s, Inv X pins σ H s → wpAny (model X.prog X.w) X.A (isTrue e X.env wh) (TP X pins σ Q) X.xe s
def cA (X : Cx) (es : List Expr) : TA := fun σ H Q => ∀ (pos : Pos) pins s, Inv X pins σ H s → wpAny (model X.prog X.w) X.A (spliced (backTo pos (starEach es X.env))) (AP X pins σ Q) X.xe s
def cK (X : Cx) (kws : List Keyword) : TA := fun σ H Q => ∀ (pos : Pos) pins s, Inv X pins σ H s → wpAny (model X.prog X.w) X.A (evalAll ((backToKw pos (keywordEach kws X.env)).map (·.2))) (AP X pins σ Q) X.xe s
def cS (X : Cx) (st : Stmt) : TS := fun D σ H => ∀ pins s, Inv X pins σ H s → wpAny (model X.prog X.w) X.A (exec st X.env) (SP X pins D) X.xe s
def cB (X : Cx) (st : List Stmt) : TS := fun D σ H => ∀ pins s, Inv X pins σ H s → wpAny (model X.prog X.w) X.A (execs st X.env) (SP X pins D) X.xe s
def cG (X : Cx) (tg : Expr) : TG := fun v σ H Q => ∀ pins s u, Inv X pins σ H s → RelV v u → wpAny (model X.prog X.w) X.A (assign tg X.env u) (fun _ s' => ∃ σ' H', Inv X pins σ' H' s' ∧ Q σ' H') X.xe s
def cGs (X : Cx) (ts : List Expr) : TGs := fun vs σ H Q => ∀ pins s us, Inv X pins σ H s → Vals vs us → wpAny (model X.prog X.w) X.A (assignInOrder ((assignEach ts X.env).map (·.2)) us) (fun _ s' => ∃ σ' H', Inv X pins σ' H' s' ∧ Q σ' H') X.xe s
def cI (X : Cx) (tg iter : Expr) : TI := fun σ H R => ∀ pins s, Inv X pins σ H s → wpAny (model X.prog X.w) X.A (eval iter X.env) (fun v s1 => wpAny (model X.prog X.w) X.A (pyIter v) (PIE X pins σ tg R) X.xe s1) X.xe s
section
variable {X : Cx}
theorem pcE (X : Cx) (e : Expr) : PE X e (cE X e) := ⟨fun pins s _ _ _ I h => h pins s I⟩
theorem pcT (X : Cx) (e : Expr) : PT X e (cT X e) := ⟨fun pins s _ _ _ I h => h pins s I⟩
theorem pcW (X : Cx) (e : Expr) : PW X e (cW X e) := ⟨fun wh pins s _ _ _ I h => h wh pins s I⟩
theorem pcA (X : Cx) (e : List Expr) : PA X e (cA X e) := ⟨fun pos pins s _ _ _ I h => h pos pins s I⟩
theorem pcK (X : Cx) (e : List Keyword) : PK X e (cK X e) := ⟨fun pos pins s _ _ _ I h => h pos pins s I⟩
theorem pcS (X : Cx) (e : Stmt) : PS X e (cS X e) := ⟨fun pins s _ _ _ I h => h pins s I⟩
theorem pcB (X : Cx) (e : List Stmt) : PSs X e (cB X e) := ⟨fun pins s _ _ _ I h => h pins s I⟩
theorem pcG (X : Cx) (e : Expr) : PG X e (cG X e) := ⟨fun pins s _ _ _ u _ I r h => h pins s u I r⟩
theorem pcGs (X : Cx) (e : List Expr) : PGs X e (cGs X e) := ⟨fun pins s _ _ _ u _ I r h => h pins s u I r⟩
theorem pcI (X : Cx) (tg e : Expr) : PI X tg e (cI X tg e) := ⟨fun pins s _ _ _ I h => h pins s I⟩
theorem toE {e : Expr} {t : TE} (p : PE X e t) {σ H Q} (h : t σ H Q) : cE X e σ H Q := fun pins s I => p.run pins s σ H Q I h
theorem toT {e : Expr} {t : TT} (p : PT X e t) {σ H Q} (h : t σ H Q) : cT X e σ H Q := fun pins s I => p.run pins s σ H Q I h
theorem toW {e : Expr} {t : TT} (p : PW X e t) {σ H Q} (h : t σ H Q) : cW X e σ H Q := fun wh pins s I => p.run wh pins s σ H Q I h
theorem toA {e : List Expr} {t : TA} (p : PA X e t) {σ H Q} (h : t σ H Q) : cA X e σ H Q := fun pos pins s I => p.run pos pins s σ H Q I h
theorem toK {e : List Keyword} {t : TA} (p : PK X e t) {σ H Q} (h : t σ H Q) : cK X e σ H Q := fun pos pins s I => p.run pos pins s σ H Q I h
theorem toS {e : Stmt} {t : TS} (p : PS X e t) {D σ H} (h : t D σ H) : cS X e D σ H := fun pins s I => p.run pins s σ H D I h
theorem toB {e : List Stmt} {t : TS} (p : PSs X e t) {D σ H} (h : t D σ H) : cB X e D σ H := fun pins s I => p.run pins s σ H D I h
theorem toG {e : Expr} {t : TG} (p : PG X e t) {v σ H Q} (h : t v σ H Q) : cG X e v σ H Q := fun pins s u I r => p.run pins s σ H v u Q I r h
theorem toGs {e : List Expr} {t : TGs} (p : PGs X e t) {v σ H Q} (h : t v σ H Q) : cGs X e v σ H Q := fun pins s u I r => p.run pins s σ H v u Q I r h
theorem toI {tg e : Expr} {t : TI} (p : PI X tg e t) {σ H R} (h : t σ H R) : cI X tg e σ H R := fun pins s I => p.run pins s σ H R I h
def WE (X : Cx) (e : Expr) (δ : Dl) (μ : Cells) (Q : Vd → Cells → Prop) : Prop := ∀ F H σ, Rp X.K F H σ δ μ → ∀ QV : VK,
  (∀ v x F' H' μ', Fw (ks μ) (ks μ') F H F' H' → Rp X.K F' H' σ δ μ' → VOk X.K F' x v → Q x μ' → QV v H') → cE X e σ H QV
def WT (X : Cx) (e : Expr) (δ : Dl) (μ : Cells) (Q : Bool → Cells → Prop) : Prop := ∀ F H σ, Rp X.K F H σ δ μ → ∀ QV : Bool → Hp → Prop,
  (∀ b F' H' μ', Fw (ks μ) (ks μ') F H F' H' → Rp X.K F' H' σ δ μ' → Q b μ' → QV b H') → cT X e σ H QV
def WW (X : Cx) (e : Expr) (δ : Dl) (μ : Cells) (Q : Bool → Cells → Prop) : Prop := ∀ F H σ, Rp X.K F H σ δ μ → ∀ QV : Bool → Hp → Prop,
  (∀ b F' H' μ', Fw (ks μ) (ks μ') F H F' H' → Rp X.K F' H' σ δ μ' → Q b μ' → QV b H') → cW X e σ H QV
def WA (X : Cx) (es : List Expr) (δ : Dl) (μ : Cells) (Q : List Vd → Cells → Prop) : Prop := ∀ F H σ, Rp X.K F H σ δ μ → ∀ QV : List V → Hp → Prop,
  (∀ vs xs F' H' μ', Fw (ks μ) (ks μ') F H F' H' → Rp X.K F' H' σ δ μ' → VAll X.K F' xs vs → Q xs μ' → QV vs H') → cA X es σ H QV
structure Dn where
  nx : Dl → Cells → Prop
  rt : Vd → Cells → Prop
  bk : Dl → Cells → Prop := fun _ _ => False
  ct : Dl → Cells → Prop := fun _ _ => False
structure Bears (K : PySem.W.Frag) (F H : Hp) (μ : Cells) (D : Dn) (De : Ends) : Prop where
  nx : ∀ F' H' σ' δ' μ', Fw (ks μ) (ks μ') F H F' H' → Rp K F' H' σ' δ' μ' → D.nx δ' μ' → De.nx σ' H'
  rt : ∀ v x F' H' μ', Fw (ks μ) (ks μ') F H F' H' → RpM K F' H' μ' → VOk K F' x v → D.rt x μ' → De.rt v H'
  bk : ∀ F' H' σ' δ' μ', Fw (ks μ) (ks μ') F H F' H' → Rp K F' H' σ' δ' μ' → D.bk δ' μ' → De.bk σ' H'
  ct : ∀ F' H' σ' δ' μ', Fw (ks μ) (ks μ') F H F' H' → Rp K F' H' σ' δ' μ' → D.ct δ' μ' → De.ct σ' H'
theorem Bears.next {K : PySem.W.Frag} {F H F' H' : Hp} {μ μ' : Cells} {D : Dn} {De : Ends} (b : Bears K F H μ D De) (w : Fw (ks μ) (ks μ') F H F' H') : Bears K F' H' μ' D De :=
  ⟨fun _ _ _ _ _ w2 => b.nx _ _ _ _ _ (w.trans w2), fun _ _ _ _ _ w2 => b.rt _ _ _ _ _ (w.trans w2), fun _ _ _ _ _ w2 => b.bk _ _ _ _ _ (w.trans w2), fun _ _ _ _ _ w2 => b.ct _ _ _ _ _ (w.trans w2)⟩
def WS (X : Cx) (st : Stmt) (δ : Dl) (μ : Cells) (D : Dn) : Prop := ∀ F H σ, Rp X.K F H σ δ μ → ∀ De, Bears X.K F H μ D De → cS X st De σ H
def WB (X : Cx) (st : List Stmt) (δ : Dl) (μ : Cells) (D : Dn) : Prop := ∀ F H σ, Rp X.K F H σ δ μ → ∀ De, Bears X.K F H μ D De → cB X st De σ H
def itV (iter : Expr) : PyData → Vd := match iter with
  | .Call (.Name x _) _ _ _ => if x == "enumerate" || x == "zip" then .w else .d
  | .Call (.Attribute _ m _) _ _ _ => if m == "items" then .w else .d
  | _ => .d
structure Wk (K : PySem.W.Frag) (J : It) (F0 : Hp) (iv : PyData → Vd) (ds : List PyData) : Prop where
  go : ∀ i F H, i < ds.length → Same F0 F → Same F H → J.go i H
  yld : ∀ i F H x H' d, ds[i]? = some d → Same F0 F → Same F H → J.yld i H x H' → ∃ F', Same F F' ∧ Same F' H' ∧ Same H H' ∧ (∀ b, F b = none → H b ≠ none → F' b = none) ∧ VOk K F' (iv d) x
  stop : ∀ F H, Same F0 F → Same F H → J.stop ds.length H
def WI (X : Cx) (tg iter : Expr) (δ : Dl) (μ : Cells) (Q : List PyData → Cells → Prop) : Prop := ∀ F H σ, Rp X.K F H σ δ μ → ∀ R : It → Hp → Prop,
  (∀ J ds F' H' μ', Fw (ks μ) (ks μ') F H F' H' → Rp X.K F' H' σ δ μ' → Wk X.K J F' (itV iter) ds → Q ds μ' → R J H') → cI X tg iter σ H R
variable {δ : Dl} {μ : Cells} {e a b : Expr} {pos : Pos} {Q : Vd → Cells → Prop} {D : Dn}
theorem WE.mono {Q' : Vd → Cells → Prop} (h : WE X e δ μ Q) (k : ∀ x μ', Q x μ' → Q' x μ') : WE X e δ μ Q' := fun F H σ r QV c => h F H σ r QV fun v x F' H' μ' w r' o q => c v x F' H' μ' w r' o (k x μ' q)
theorem WT.mono {T T' : Bool → Cells → Prop} (h : WT X e δ μ T) (k : ∀ x μ', T x μ' → T' x μ') : WT X e δ μ T' := fun F H σ r QV c => h F H σ r QV fun v F' H' μ' w r' q => c v F' H' μ' w r' (k v μ' q)
theorem we_name (i : Nat) {x : Str} {y : Vd} (hN : X.N[i]? = some x) (hv : Vis X.env.scope x) (hδ : δ[i]? = some (some y)) (h : Q y μ) (hd : (x == ("__debug__" : Str)) = false := by decide) (hcd : (x == ("__classdict__" : Str)) = false := by decide) :
    WE X (.Name x pos) δ μ Q := fun F H σ r QV c => by
  obtain ⟨v, e1, e2⟩ := r.env i y hδ
  exact toE (pe_var hN hv hd hcd) ⟨v, e1, c v y F H μ Fw.refl r e2 h⟩
theorem we_int {i : Int} {j : Nat} (h : Q (.d (.int i)) μ) : WE X (.Constant (.int i) j pos) δ μ Q := fun F H σ r QV c => toE pe_int (c _ (.d (.int i)) F H μ Fw.refl r (.int i) h)
theorem we_bl {i : Bool} {j : Nat} (h : Q (.d (.bool i)) μ) : WE X (.Constant (.bool i) j pos) δ μ Q := fun F H σ r QV c => toE pe_bl (c _ (.d (.bool i)) F H μ Fw.refl r (.bl i) h)
theorem we_non {j : Nat} (h : Q (.d .none) μ) : WE X (.Constant .none j pos) δ μ Q := fun F H σ r QV c => toE pe_non (c _ (.d .none) F H μ Fw.refl r .non h)
theorem we_str {x : Str} {j : Nat} (h : Q (.d (.str x)) μ) : WE X (.Constant (.str x) j pos) δ μ Q := fun F H σ r QV c => toE pe_str (c _ (.d (.str x)) F H μ Fw.refl r (.str x) h)
def OpW (K : PySem.W.Frag) (r : R2) (x y : Vd) (μ : Cells) (Q : Vd → Cells → Prop) : Prop := ∀ F H v u, RpM K F H μ → VOk K F x v → VOk K F y u → ∀ QV : VK,
  (∀ z w F' H' μ', Fw (ks μ) (ks μ') F H F' H' → RpM K F' H' μ' → VOk K F' z w → Q z μ' → QV w H') → r v u H QV
def UnW (K : PySem.W.Frag) (r : V → Hp → VK → Prop) (x : Vd) (μ : Cells) (Q : Vd → Cells → Prop) : Prop := ∀ F H v, RpM K F H μ → VOk K F x v → ∀ QV : VK,
  (∀ z w F' H' μ', Fw (ks μ) (ks μ') F H F' H' → RpM K F' H' μ' → VOk K F' z w → Q z μ' → QV w H') → r v H QV
def CaW (K : PySem.W.Frag) (r : List V → Hp → VK → Prop) (xs : List Vd) (μ : Cells) (Q : Vd → Cells → Prop) : Prop := ∀ F H vs, RpM K F H μ → VAll K F xs vs → ∀ QV : VK,
  (∀ z w F' H' μ', Fw (ks μ) (ks μ') F H F' H' → RpM K F' H' μ' → VOk K F' z w → Q z μ' → QV w H') → r vs H QV
theorem two {r : R2} {e : Expr} (p : PE X e (tOp r (cE X a) (cE X b))) (h : WE X a δ μ fun x μ1 => WE X b δ μ1 fun y μ2 => OpW X.K r x y μ2 Q) : WE X e δ μ Q := fun F H σ R QV c =>
  toE p (h F H σ R _ fun v x F1 H1 μ1 w1 R1 o1 q1 => q1 F1 H1 σ R1 _ fun u y F2 H2 μ2 w2 R2 o2 q2 => q2 F2 H2 v u R2.m (o1.up w2.f) o2 _ fun z w F3 H3 μ3 w3 m3 o3 q3 =>
    c w z F3 H3 μ3 ((w1.trans w2).trans w3) (R2.to w3.f m3) o3 q3)
theorem we_bin {op : Operator} {r : R2} (ho : OpR X (binaryOp op) r) (h : WE X a δ μ fun x μ1 => WE X b δ μ1 fun y μ2 => OpW X.K r x y μ2 Q) : WE X (.BinOp a op b pos) δ μ Q := two (pe_op ho (pcE X a) (pcE X b)) h
theorem we_cmp {op : CmpOp} {r : R2} (ho : OpR X (compareOp op) r) (hm : behindInMarks op b = false) (h : WE X a δ μ fun x μ1 => WE X b δ μ1 fun y μ2 => OpW X.K r x y μ2 Q) : WE X (.Compare a [op] [b] pos) δ μ Q := two (pe_cmpR ho (pcE X a) (pcE X b) hm) h
theorem we_ix {r : R2} (ho : IxR X r) (hs : PlainIx b) (h : WE X a δ μ fun x μ1 => WE X b δ μ1 fun y μ2 => OpW X.K r x y μ2 Q) : WE X (.Subscript a b pos) δ μ Q := two (pe_ix ho (pcE X a) (pcE X b) hs) h
theorem we_un {op : UnaryOp} {r : V → Hp → VK → Prop} (ho : UnR X (unaryOp op) r) (h : WE X a δ μ fun x μ1 => UnW X.K r x μ1 Q) : WE X (.UnaryOp op a pos) δ μ Q := fun F H σ R QV c =>
  toE (pe_un ho (pcE X a)) (h F H σ R _ fun v x F1 H1 μ1 w1 R1 o1 q1 => q1 F1 H1 v R1.m o1 _ fun z w F3 H3 μ3 w3 m3 o3 q3 => c w z F3 H3 μ3 (w1.trans w3) (R1.to w3.f m3) o3 q3)
theorem wt_cmp {op : CmpOp} {r : R2} {T : Bool → Cells → Prop} (ho : OpR X (compareOp op) r) (hm : behindInMarks op b = false) (h : WE X a δ μ fun x μ1 => WE X b δ μ1 fun y μ2 => OpW X.K r x y μ2 fun z μ3 => ∃ k, z = .d (.bool k) ∧ T k μ3) :
    WT X (.Compare a [op] [b] pos) δ μ T := fun F H σ R QV c =>
  toT (pt_cmpR ho (pcE X a) (pcE X b) hm) (h F H σ R _ fun v x F1 H1 μ1 w1 R1 o1 q1 => q1 F1 H1 σ R1 _ fun u y F2 H2 μ2 w2 R2 o2 q2 => q2 F2 H2 v u R2.m (o1.up w2.f) o2 _ fun z w F3 H3 μ3 w3 m3 o3 q3 => by
    obtain ⟨k, rfl, q⟩ := q3
    exact ⟨k, dp_bl o3, c k F3 H3 μ3 ((w1.trans w2).trans w3) (R2.to w3.f m3) q⟩)
theorem wt_val {T : Bool → Cells → Prop} (h : WE X e δ μ fun z μ3 => ∃ k, z = .d (.bool k) ∧ T k μ3) (he : ∀ whole, isTrue e X.env whole = (do let v ← whole; standAt e.pos; holding [v] (truthy v)) := by intro _; rfl) : WT X e δ μ T := fun F H σ R QV c =>
  toT (pt_val (pcE X e) he) (h F H σ R _ fun v x F1 H1 μ1 w1 R1 o1 q1 => by
    obtain ⟨k, rfl, q⟩ := q1
    exact ⟨k, dp_bl o1, c k F1 H1 μ1 w1 R1 q⟩)
variable {T : Bool → Cells → Prop} {rest : List Expr}
theorem ww_and1 (h : WT X a δ μ T) : WW X (.BoolOp .And [a] pos) δ μ T := fun F H σ R QV c => toW (pw_and1 (pcT X a)) (h F H σ R QV c)
theorem ww_or1 (h : WT X a δ μ T) : WW X (.BoolOp .Or [a] pos) δ μ T := fun F H σ R QV c => toW (pw_or1 (pcT X a)) (h F H σ R QV c)
theorem ww_and (h : WT X a δ μ fun k μ1 => if k = true then WW X (.BoolOp .And (b :: rest) pos) δ μ1 T else T false μ1) : WW X (.BoolOp .And (a :: b :: rest) pos) δ μ T := fun F H σ R QV c =>
  toW (pw_and (pcT X a) (pcW X _)) (h F H σ R _ fun k F1 H1 μ1 w1 R1 q => by
    cases k with
    | true => exact (show WW X _ δ μ1 T from q) F1 H1 σ R1 QV fun k2 F2 H2 μ2 w2 R2 q2 => c k2 F2 H2 μ2 (w1.trans w2) R2 q2
    | false => exact c false F1 H1 μ1 w1 R1 q)
theorem ww_or (h : WT X a δ μ fun k μ1 => if k = true then T true μ1 else WW X (.BoolOp .Or (b :: rest) pos) δ μ1 T) : WW X (.BoolOp .Or (a :: b :: rest) pos) δ μ T := fun F H σ R QV c =>
  toW (pw_or (pcT X a) (pcW X _)) (h F H σ R _ fun k F1 H1 μ1 w1 R1 q => by
    cases k with
    | false => exact (show WW X _ δ μ1 T from q) F1 H1 σ R1 QV fun k2 F2 H2 μ2 w2 R2 q2 => c k2 F2 H2 μ2 (w1.trans w2) R2 q2
    | true => exact c true F1 H1 μ1 w1 R1 q)
theorem wt_w (h : WW X e δ μ T) : WT X e δ μ T := fun F H σ R QV c => toT (pcW X e).pt (h F H σ R QV c)
theorem wt_not (h : WT X a δ μ fun k μ1 => T (!k) μ1) : WT X (.UnaryOp .Not a pos) δ μ T := fun F H σ R QV c => toT (pt_not (pcT X a)) (h F H σ R _ fun k F1 H1 μ1 w1 R1 q => c (!k) F1 H1 μ1 w1 R1 q)
theorem we_one {op : BoolOp} (h : WE X a δ μ Q) : WE X (.BoolOp op [a] pos) δ μ Q := fun F H σ R QV c => toE (pe_one (pcE X a)) (h F H σ R QV c)
theorem we_and (h : WE X a δ μ fun z μ1 => ∃ k, z = .d (.bool k) ∧ if k = true then WE X (.BoolOp .And (b :: rest) pos) δ μ1 Q else Q (.d (.bool false)) μ1) : WE X (.BoolOp .And (a :: b :: rest) pos) δ μ Q := fun F H σ R QV c =>
  toE (pe_and (pcE X a) (pcE X _)) (h F H σ R _ fun v z F1 H1 μ1 w1 R1 o1 q => by
    obtain ⟨k, rfl, q⟩ := q
    refine ⟨k, dp_bl o1, ?_⟩
    cases k with
    | true => exact (show WE X _ δ μ1 Q from q) F1 H1 σ R1 QV fun k2 x2 F2 H2 μ2 w2 R2 o2 q2 => c k2 x2 F2 H2 μ2 (w1.trans w2) R2 o2 q2
    | false => exact c _ (.d (.bool false)) F1 H1 μ1 w1 R1 (.bl false) q)
theorem we_not (h : WE X a δ μ fun z μ1 => ∃ k, z = .d (.bool k) ∧ Q (.d (.bool (!k))) μ1) : WE X (.UnaryOp .Not a pos) δ μ Q := fun F H σ R QV c =>
  toE (pe_not (pcE X a)) (h F H σ R _ fun v z F1 H1 μ1 w1 R1 o1 q => by
    obtain ⟨k, rfl, q⟩ := q
    exact ⟨k, dp_bl o1, c _ (.d (.bool (!k))) F1 H1 μ1 w1 R1 (.bl _) q⟩)
theorem wa_nil {QA : List Vd → Cells → Prop} (h : QA [] μ) : WA X [] δ μ QA := fun F H σ R QV c => toA pa_nil (c [] [] F H μ Fw.refl R .nil h)
theorem wa_cons {es : List Expr} {QA : List Vd → Cells → Prop} (h : WE X e δ μ fun x μ1 => WA X es δ μ1 fun xs μ2 => QA (x :: xs) μ2) (hs : starEach (e :: es) X.env = (false, eval e X.env) :: starEach es X.env := by rfl) : WA X (e :: es) δ μ QA := fun F H σ R QV c =>
  toA (pa_cons (pcE X e) (pcA X es) hs) (h F H σ R _ fun v x F1 H1 μ1 w1 R1 o1 q => q F1 H1 σ R1 _ fun vs xs F2 H2 μ2 w2 R2 o2 q2 => c (v :: vs) (x :: xs) F2 H2 μ2 (w1.trans w2) R2 (.cons (o1.up w2.f) o2) q2)
def dsOf : List Vd → Option (List PyData)
  | [] => some []
  | .d x :: r => (dsOf r).map (x :: ·)
  | .w _ :: _ => none
  | .s _ :: _ => none
  | .a _ :: _ => none
  | .k _ _ :: _ => none
  | .e _ _ _ _ :: _ => none
  | .z _ _ :: _ => none
  | .q _ _ :: _ => none
  | .m _ _ _ :: _ => none
theorem dps_of {K : PySem.W.Frag} {F : Hp} : ∀ {xs : List Vd} {ds : List PyData} {vs : List V}, dsOf xs = some ds → VAll K F xs vs → DeAll K F vs ds
  | [], _, _, e, h => by
    cases e
    cases h
    exact .nil
  | .d x :: r, _, _, e, h => by
    cases h with
    | cons h1 h2 =>
      unfold dsOf at e
      cases q : dsOf r with
      | none =>
        rw [q] at e
        cases e
      | some es =>
        rw [q] at e
        cases e
        exact .cons h1 (dps_of q h2)
  | .w _ :: _, _, _, e, _ => by cases e
  | .s _ :: _, _, _, e, _ => by cases e
  | .a _ :: _, _, _, e, _ => by cases e
  | .k _ _ :: _, _, _, e, _ => by cases e
  | .e _ _ _ _ :: _, _, _, e, _ => by cases e
  | .z _ _ :: _, _, _, e, _ => by cases e
  | .q _ _ :: _, _, _, e, _ => by cases e
  | .m _ _ _ :: _, _, _, e, _ => by cases e
def tTupX (t : TA) : TE := fun σ H Q => t σ H fun xs H1 => xs.length ≤ sizeLine ∧ ∀ p o, o.dict = none → H1 p = none → Q (.ref p) (upd H1 p (.frz o (.tup xs)))
theorem pe_tupX {es : List Expr} {k : Nat} {t : TA} (h : PA X es t) : PE X (.Tuple es k pos) (tTupX t) := ⟨fun pins s σ H Q I hq => by
  refine wpAny_Tuple_spliced (thn (h.run pos pins s σ H _ I hq) fun us s1 ⟨xs, H1, I1, r, z, q⟩ => ⟨by rw [← r.length]; exact z, ?_⟩)
  have nf : H1 s1.heap.objs.size = none := I1.hok.fresh (Nat.le_refl _)
  have I2 := I1.laid (t' := s1.toks) (o := .frz { cls := .type "tuple", data := .seq us.toArray } (.tup xs)) (fun b u e => Heap.get?_push_of_some _ e) (Nat.le_refl _) (show ObjOk X.prog X.w _ (s1.heap.push { cls := .type "tuple", data := .seq us.toArray }) _ _ from ⟨Heap.get?_push_size _ rfl, z, us, r, ⟨_, Heap.get?_push_size _ rfl, rfl, _, rfl⟩⟩)
  exact ⟨.ref s1.heap.objs.size, _, I2, rfl, q _ _ rfl nf⟩⟩
theorem we_tup {k : Nat} {es : List Expr} (h : WA X es δ μ fun xs μ1 => ∃ ds, dsOf xs = some ds ∧ ds.length ≤ 100000 ∧ Q (.d (.tuple ds)) μ1) : WE X (.Tuple es k pos) δ μ Q := fun F H σ R QV c =>
  toE (pe_tupX (pcA X es)) (h F H σ R _ fun vs xs F1 H1 μ1 w1 R1 o1 q => by
    obtain ⟨ds, e, hl, q⟩ := q
    have hd := dps_of e o1
    refine ⟨by rw [dps_len hd]; exact Nat.le_trans hl (by decide), fun p o ho np => ?_⟩
    obtain ⟨m, w⟩ := R1.m.new (o := .frz o (.tup vs)) np
    exact c _ (.d (.tuple ds)) _ _ μ1 (w1.trans w) (R1.to w.f m) (.tup upd_same ho (dps_up w.f _ _ hd)) q)
theorem we_lst {es : List Expr} (h : WA X es δ μ fun xs μ1 => ∃ ds, dsOf xs = some ds ∧ ds.length ≤ 100000 ∧ ∀ p, Q (.a p) ((p, ds) :: μ1)) : WE X (.List es pos) δ μ Q := fun F H σ R QV c =>
  toE (pe_lst (pcA X es)) (h F H σ R _ fun vs xs F1 H1 μ1 w1 R1 o1 q => by
    obtain ⟨ds, e, hl, q⟩ := q
    have hd := dps_of e o1
    refine ⟨by rw [dps_len hd]; exact Nat.le_trans hl (by decide), fun p np => ?_⟩
    obtain ⟨m, w⟩ := R1.m.cell np hd
    exact c _ (.a p) _ _ _ (w1.trans w) (R1.to w.f m) rfl (q p))
theorem we_fz (h : WE X e δ μ fun x μ1 => ∃ (p : Addr) (ds : List PyData) (μ2 : Cells), x = .a p ∧ μ1 = ((p, ds) :: μ2 : Cells) ∧ plS ds ∧ Q (.d (.list ds)) μ2) : WE X e δ μ Q := fun F H σ R QV c =>
  h F H σ R QV fun v x F1 H1 μ1 w1 R1 o1 q => by
    obtain ⟨p, ds, μ2, rfl, rfl, pl, q⟩ := q
    obtain ⟨vs, hp, hd, m, sf, fp, out⟩ := R1.m.freeze pl
    have ov : v = .ref p := o1
    subst ov
    refine c _ (.d (.list ds)) _ H1 μ2 ⟨w1.f.trans sf, w1.k, fun b f hb nb => ?_, fun b hb => w1.s b (List.mem_cons_of_mem _ hb)⟩ (R1.to sf m) (.lst upd_same hd) q
    rw [upd_ne]
    · exact w1.c b f hb nb
    · intro z
      subst z
      exact (w1.s b List.mem_cons_self).elim nb hb
end
end Ec
set_option Elab.async false
set_option linter.all false
set_option maxRecDepth 100000
set_option maxHeartbeats 4000000
namespace Ec
open PySem PySem.Spec PyProof.Rows L2
theorem perm_erase {α : Type} : ∀ {l : List α} {i : Nat} (h : i < l.length), l.Perm (l[i] :: l.eraseIdx i)
  | x :: r, 0, _ => List.Perm.refl _
  | x :: r, i + 1, h => ((perm_erase (l := r) (i := i) (Nat.lt_of_succ_lt_succ h)).cons x).trans (List.Perm.swap _ _ _)
theorem RpM.perm {K : PySem.W.Frag} {F H : Hp} {μ μ' : Cells} (r : RpM K F H μ) (p : μ.Perm μ') : RpM K F H μ' :=
  ⟨r.ex, (p.map Prod.fst).nodup_iff.mp r.nd, fun b ds m => r.cel b ds (p.mem_iff.mpr m)⟩
theorem Rp.perm {K : PySem.W.Frag} {F H : Hp} {σ : L2.St} {δ : Dl} {μ μ' : Cells} (r : Rp K F H σ δ μ) (p : μ.Perm μ') : Rp K F H σ δ μ' := ⟨r.m.perm p, r.len, r.env⟩
theorem Fw.sub {a a' b b' : List Addr} {F H F' H' : Hp} (w : Fw a a' F H F' H') (h : ∀ x ∈ a, x ∈ b) (h' : ∀ x ∈ b', x ∈ a' ∨ x ∈ b) : Fw b b' F H F' H' :=
  ⟨w.f, fun c o e n => w.k c o e fun z => n (h c z), fun c e q n => w.c c e q fun z => n (h c z), fun c m => by
    rcases h' c m with q | q
    · rcases w.s c q with z | z
      · exact .inl (h c z)
      · exact .inr z
    · exact .inl q⟩
theorem Fw.perm {K : PySem.W.Frag} {μ μ' μ2 : Cells} {F H F' H' : Hp} (w : Fw (ks μ) (ks μ') F H F' H') (p : μ'.Perm μ2) : Fw (ks μ) (ks μ2) F H F' H' :=
  w.sub (fun _ h => h) fun x m => .inl ((p.map Prod.fst).mem_iff.mpr m)
theorem ks_app (a b : Cells) : ks (a ++ b) = ks a ++ ks b := List.map_append
theorem RpM.left {K : PySem.W.Frag} {F H : Hp} {μ μr : Cells} (r : RpM K F H (μ ++ μr)) : RpM K F H μ :=
  ⟨r.ex, by have h := r.nd; rw [ks_app] at h; exact (List.nodup_append.mp h).1, fun b ds m => r.cel b ds (List.mem_append_left _ m)⟩
theorem RpM.frame {K : PySem.W.Frag} {F H F' H' : Hp} {μ μ' μr : Cells} (r : RpM K F H (μ ++ μr)) (w : Fw (ks μ) (ks μ') F H F' H') (r' : RpM K F' H' μ') : RpM K F' H' (μ' ++ μr) ∧ Fw (ks (μ ++ μr)) (ks (μ' ++ μr)) F H F' H' := by
  have nd := r.nd
  rw [ks_app] at nd
  obtain ⟨_, n2, dj⟩ := List.nodup_append.mp nd
  have inr : ∀ b ∈ ks μr, F b = none ∧ H b ≠ none ∧ b ∉ ks μ := fun b m => by
    obtain ⟨⟨c, ds⟩, m1, e⟩ := List.mem_map.mp m
    have e' : c = b := e
    subst e'
    obtain ⟨f, h⟩ := r.cel c ds (List.mem_append_right _ m1)
    exact ⟨f, h.ne, fun z => dj c z c m rfl⟩
  refine ⟨⟨r'.ex, ?_, fun b ds m => ?_⟩, w.sub (fun x m => ?_) fun x m => ?_⟩
  · rw [ks_app]
    refine List.nodup_append.mpr ⟨r'.nd, n2, fun x mx y my e => ?_⟩
    subst e
    obtain ⟨_, h2, h3⟩ := inr x my
    rcases w.s x mx with z | z
    · exact h3 z
    · exact h2 z
  · rcases List.mem_append.mp m with m | m
    · exact r'.cel b ds m
    · obtain ⟨f, g⟩ := r.cel b ds (List.mem_append_right _ m)
      obtain ⟨_, h2, h3⟩ := inr b (List.mem_map.mpr ⟨_, m, rfl⟩)
      exact ⟨w.c b f h2 h3, g.to w.f fun o e => w.k b o e h3⟩
  · rw [ks_app]
    exact List.mem_append_left _ m
  · rw [ks_app] at m ⊢
    rcases List.mem_append.mp m with m | m
    · exact .inl m
    · exact .inr (List.mem_append_right _ m)
theorem RpM.setO {K : PySem.W.Frag} {F H : Hp} {μ : Cells} {i : Nat} {b : Addr} {ds es : Cont} {o : HO} (r : RpM K F H μ) (hi : μ[i]? = some (b, (ds : Cont))) (h : CelOk K F (upd H b o) b es) :
    RpM K F (upd H b o) (μ.set i (b, es)) ∧ Fw (ks μ) (ks (μ.set i (b, es))) F H F (upd H b o) := by
  have hm : (b, ds) ∈ μ := List.mem_of_getElem? hi
  have hb : b ∈ ks μ := List.mem_map.mpr ⟨_, hm, rfl⟩
  obtain ⟨fb, _⟩ := r.cel b ds hm
  have hki : (ks μ)[i]? = some b := by
    show (μ.map Prod.fst)[i]? = some b
    rw [List.getElem?_map, hi]
    rfl
  have hil : i < μ.length := (List.getElem?_eq_some_iff.mp hi).1
  have ek : ks (μ.set i (b, es)) = ks μ := by
    show (μ.set i (b, es)).map Prod.fst = μ.map Prod.fst
    rw [List.map_set]
    refine List.ext_getElem? fun j => ?_
    by_cases hj : i = j
    · subst hj
      rw [List.getElem?_set_self (by rw [List.length_map]; exact hil)]
      exact hki.symm
    · rw [List.getElem?_set_ne hj]
  refine ⟨⟨fun c x q => ?_, by rw [ek]; exact r.nd, fun c fs q => ?_⟩, Same.refl F, fun c x q n => ?_, fun c q _ _ => q, fun c q => .inl (by rw [ek] at q; exact q)⟩
  · rw [upd_ne (ne_of_none q fb)]
    exact r.ex c x q
  · obtain ⟨j, hj⟩ := List.mem_iff_getElem?.mp q
    by_cases e : i = j
    · subst e
      rw [List.getElem?_set_self hil] at hj
      cases hj
      exact ⟨fb, h⟩
    · rw [List.getElem?_set_ne e] at hj
      obtain ⟨f, g⟩ := r.cel c fs (List.mem_of_getElem? hj)
      have nc : c ≠ b := fun z => by
        subst z
        have hkj : (ks μ)[j]? = some c := by
          show (μ.map Prod.fst)[j]? = some c
          rw [List.getElem?_map, hj]
          rfl
        exact e ((List.getElem?_inj (l := ks μ) (by show i < (μ.map Prod.fst).length; rw [List.length_map]; exact hil) r.nd).mp (hki.trans hkj.symm))
      exact ⟨f, g.to (Same.refl F) fun o e' => by rw [upd_ne nc]; exact e'⟩
  · rw [upd_ne fun z => n (by rw [z]; exact hb)]
    exact q
theorem RpM.setCQ {K : PySem.W.Frag} {F H : Hp} {μ : Cells} {i : Nat} {b : Addr} {ds es : List PyData} {vs : List V} (r : RpM K F H μ) (hi : μ[i]? = some (b, (ds : Cont))) (h : DqAll K F vs es) :
    RpM K F (upd H b (.lst vs)) (μ.set i (b, es)) ∧ Fw (ks μ) (ks (μ.set i (b, (es : Cont)))) F H F (upd H b (.lst vs)) := r.setO hi ⟨vs, upd_same, h⟩
section
variable {X : Cx} {δ : Dl} {μ : Cells} {e a b : Expr} {pos : Pos} {Q : Vd → Cells → Prop} {D : Dn} {st : Stmt} {rest : List Stmt}
theorem wb_nil (h : D.nx δ μ) : WB X [] δ μ D := fun F H σ R De b => toB pss_nil (b.nx F H σ δ μ Fw.refl R h)
theorem Bears.seq {K : PySem.W.Frag} {F H : Hp} {De : Ends} {t : TS} (b : Bears K F H μ D De) {N : Dl → Cells → Prop}
    (h : ∀ F' H' σ' δ' μ', Fw (ks μ) (ks μ') F H F' H' → Rp K F' H' σ' δ' μ' → N δ' μ' → t De σ' H') : Bears K F H μ { D with nx := N } { De with nx := t De } := ⟨h, b.rt, b.bk, b.ct⟩
theorem wb_cons (h : WS X st δ μ { D with nx := fun δ' μ' => WB X rest δ' μ' D }) : WB X (st :: rest) δ μ D := fun F H σ R De b =>
  toB (pss_cons (pcS X st) (pcB X rest)) (show cS X st { De with nx := cB X rest De } σ H from
    h F H σ R _ (b.seq fun F' H' σ' δ' μ' w R' q => q F' H' σ' R' De (b.next w)))
theorem wb_one (h : WS X st δ μ D) : WB X [st] δ μ D := fun F H σ R De b => toB (pss_one (pcS X st)) (h F H σ R De b)
theorem ws_expr (h : WE X e δ μ fun _ μ1 => D.nx δ μ1) (hs : swapsWith e none pos.line X.env = pure false := by rfl) : WS X (.Expr e pos) δ μ D := fun F H σ R De b =>
  toS (ps_expr (pcE X e) hs) (h F H σ R _ fun v x F1 H1 μ1 w1 R1 o1 q => b.nx F1 H1 σ δ μ1 w1 R1 q)
theorem ws_ret (h : WE X e δ μ D.rt) : WS X (.Return (some e) pos) δ μ D := fun F H σ R De b =>
  toS (ps_ret (pcE X e)) (h F H σ R _ fun v x F1 H1 μ1 w1 R1 o1 q => b.rt v x F1 H1 μ1 w1 R1.m o1 q)
theorem ws_if {c : Expr} {s1 s2 : List Stmt} (h : WT X c δ μ fun k μ1 => if k = true then WB X s1 δ μ1 D else WB X s2 δ μ1 D) : WS X (.If c s1 s2 pos) δ μ D := fun F H σ R De b =>
  toS (ps_if (pcT X c) (pcB X s1) (pcB X s2)) (h F H σ R _ fun k F1 H1 μ1 w1 R1 q => by
    cases k with
    | true => exact (show WB X s1 δ μ1 D from q) F1 H1 σ R1 De (b.next w1)
    | false => exact (show WB X s2 δ μ1 D from q) F1 H1 σ R1 De (b.next w1))
variable {is : List Nat} {G : Dl → Cells → Prop}
def Only (is : List Nat) (σ σ' : L2.St) : Prop := σ'.length = σ.length ∧ ∀ i, i ∉ is → σ'[i]? = σ[i]?
theorem Only.refl {σ : L2.St} : Only is σ σ := ⟨rfl, fun _ _ => rfl⟩
theorem Only.trans {σ σ1 σ2 : L2.St} (a : Only is σ σ1) (b : Only is σ1 σ2) : Only is σ σ2 := ⟨b.1.trans a.1, fun i h => (b.2 i h).trans (a.2 i h)⟩
theorem Only.set {σ : L2.St} {i : Nat} {x : Option V} (h : i ∈ is) : Only is σ (σ.set i x) := ⟨List.length_set, fun j hj => List.getElem?_set_ne fun z => hj (by rw [← z]; exact h)⟩
theorem wipe_get {σ : L2.St} {j : Nat} (hj : j < σ.length) : ∀ vs : List Nat, (wipe σ vs)[j]? = if j ∈ vs then some none else σ[j]?
  | [] => by simp [wipe]
  | v :: vs => by
    unfold wipe
    by_cases e : v = j
    · subst e
      rw [List.getElem?_set_self (by rw [wipe_length]; exact hj)]
      simp
    · rw [List.getElem?_set_ne e, wipe_get hj vs]
      have : (j ∈ v :: vs) ↔ j ∈ vs := by simp [Ne.symm e]
      simp only [this]
theorem Only.wipe {σ σ2 : L2.St} (h : Only is (L2.wipe σ is) σ2) : L2.wipe σ2 is = L2.wipe σ is := by
  refine List.ext_getElem? fun j => ?_
  have l2 : σ2.length = σ.length := h.1.trans (wipe_length σ is)
  by_cases hj : j < σ.length
  · rw [wipe_get (by rw [l2]; exact hj), wipe_get hj]
    split
    · rfl
    · rename_i hn
      rw [h.2 j hn, wipe_get hj, if_neg hn]
  · rw [List.getElem?_eq_none (by rw [wipe_length]; omega), List.getElem?_eq_none (by rw [wipe_length]; omega)]
def WGo (X : Cx) (is : List Nat) (tg : Expr) (x : Vd) (δ : Dl) (μ : Cells) (Q : Dl → Cells → Prop) : Prop := ∀ F H σ, Rp X.K F H σ δ μ → ∀ v, VOk X.K F x v → ∀ QV : L2.St → Hp → Prop,
  (∀ F' H' σ' δ' μ', Fw (ks μ) (ks μ') F H F' H' → Rp X.K F' H' σ' δ' μ' → Only is σ σ' → Q δ' μ' → QV σ' H') → cG X tg v σ H QV
def WGso (X : Cx) (is : List Nat) (ts : List Expr) (xs : List Vd) (δ : Dl) (μ : Cells) (Q : Dl → Cells → Prop) : Prop := ∀ F H σ, Rp X.K F H σ δ μ → ∀ vs, VAll X.K F xs vs → ∀ QV : L2.St → Hp → Prop,
  (∀ F' H' σ' δ' μ', Fw (ks μ) (ks μ') F H F' H' → Rp X.K F' H' σ' δ' μ' → Only is σ σ' → Q δ' μ' → QV σ' H') → cGs X ts vs σ H QV
theorem wg_name (i : Nat) {x : Str} {y : Vd} (hN : X.N.Nodup) (hi : X.N[i]? = some x) (hx : Loc X.env.scope x) (hf : X.fn x = true ∨ X.env.scope.names.lookup x = some .local) (hm : i ∈ is) (h : G (δ.set i (some y)) μ) :
    WGo X is (.Name x pos) y δ μ G := fun F H σ R v o QV c => toG (pg_name hN hi hx hf) (c F H _ _ μ Fw.refl (R.put i o) (Only.set hm) h)
theorem wgs_nil (h : G δ μ) : WGso X is [] [] δ μ G := fun F H σ R vs o QV c => by
  cases o
  exact toGs pgs_nil ⟨rfl, c F H σ δ μ Fw.refl R Only.refl h⟩
theorem wgs_cons {t : Expr} {ts : List Expr} {x : Vd} {xs : List Vd} (h : WGo X is t x δ μ fun δ1 μ1 => WGso X is ts xs δ1 μ1 G)
    (hs : (assignEach (t :: ts) X.env).map (·.2) = assign t X.env :: (assignEach ts X.env).map (·.2) := by rfl) : WGso X is (t :: ts) (x :: xs) δ μ G := fun F H σ R vs o QV c => by
  cases o with
  | cons o1 o2 =>
    exact toGs (pgs_cons (pcG X t) (pcGs X ts) hs) ⟨_, _, rfl, h F H σ R _ o1 _ fun F1 H1 σ1 δ1 μ1 w1 R1 y1 q => q F1 H1 σ1 R1 _ (VAll.up w1.f o2) QV fun F2 H2 σ2 δ2 μ2 w2 R2 y2 q2 => c F2 H2 σ2 δ2 μ2 (w1.trans w2) R2 (y1.trans y2) q2⟩
theorem vall_d {K : PySem.W.Frag} {F : Hp} : ∀ {ds : List PyData} {vs : List V}, DeAll K F vs ds → VAll K F (ds.map Vd.d) vs
  | [], _, h => by
    cases h
    exact .nil
  | d :: ds, _, h => by
    cases h with
    | cons h1 h2 => exact .cons h1 (vall_d h2)
theorem wg_tupW {ts : List Expr} {k : Nat} {ds : List PyData} (hc : X.calm = true) (h : WGso X is ts (ds.map Vd.d) δ μ G) (hn : (assignEach ts X.env).length = ds.length := by rfl)
    (hst : (assignEach ts X.env).findIdx? (·.1) = none := by rfl) : WGo X is (.Tuple ts k pos) (.w (.tuple ds)) δ μ G := fun F H σ R v o QV c => by
  obtain ⟨a, vs, ds', e0, rfl, hs, hd⟩ := o
  cases e0
  exact toG (pg_tup hc (pcGs X ts) hn hst) ⟨a, vs, rfl, same_t R.m.ex hs, dps_len hd, h F H σ R vs (vall_d hd) QV c⟩
theorem ws_asg {tg : Expr} (is : List Nat) (h : WE X e δ μ fun x μ1 => WGo X is tg x δ μ1 D.nx) (hs : swapsWithSole [tg] e pos.line X.env = pure false := by rfl) (hw : swappedStores [tg] e X.env = pure none := by rfl)
    (h1 : (assignEach [tg] X.env).map (·.2) = [assign tg X.env] := by rfl) : WS X (.Assign [tg] e pos) δ μ D := fun F H σ R De b =>
  toS (ps_asg (pcE X e) (pcG X tg) hs hw h1) (h F H σ R _ fun v x F1 H1 μ1 w1 R1 o1 q => q F1 H1 σ R1 v o1 _ fun F2 H2 σ2 δ2 μ2 w2 R2 _ q2 => b.nx F2 H2 σ2 δ2 μ2 (w1.trans w2) R2 q2)
theorem ws_set (i : Nat) {x : Str} {pos' : Pos} (hN : X.N.Nodup) (hi : X.N[i]? = some x) (hx : Loc X.env.scope x) (hf : X.fn x = true ∨ X.env.scope.names.lookup x = some .local) (h : WE X e δ μ fun y μ1 => D.nx (δ.set i (some y)) μ1)
    (hs : swapsWith e (some (.Name x pos')) pos.line X.env = pure false := by rfl) : WS X (.Assign [.Name x pos'] e pos) δ μ D := fun F H σ R De b =>
  toS (ps_set hN hi hx (pcE X e) hs hf) (h F H σ R _ fun v y F1 H1 μ1 w1 R1 o1 q => b.nx F1 H1 _ _ μ1 w1 (R1.put i o1) q)
theorem ws_par (i j : Nat) {x y : Str} {px py pt : Pos} {kt k2 : Nat} {pt2 : Pos} (hc : X.calm = true) (hN : X.N.Nodup) (hi : X.N[i]? = some x) (hj : X.N[j]? = some y) (hij : i ≠ j)
    (hx : X.env.scope.names.lookup x = some .local) (hy : X.env.scope.names.lookup y = some .local)
    (h : WE X a δ μ fun v μ1 => WE X b δ μ1 fun u μ2 => D.nx ((δ.set i (some v)).set j (some u)) μ2)
    (hw : swappedStores [.Tuple [.Name x px, .Name y py] kt pt] (.Tuple [a, b] k2 pt2) X.env = pure (some [x, y]))
    (hs : swapsWithSole [.Tuple [.Name x px, .Name y py] kt pt] (.Tuple [a, b] k2 pt2) pos.line X.env = pure false := by rfl)
    (q1 : starEach [a, b] X.env = (false, eval a X.env) :: starEach [b] X.env := by rfl) (q2 : starEach [b] X.env = (false, eval b X.env) :: starEach [] X.env := by rfl) :
    WS X (.Assign [.Tuple [.Name x px, .Name y py] kt pt] (.Tuple [a, b] k2 pt2) pos) δ μ D := fun F H σ R De bb =>
  toS (ps_par hc hN hi hj hij hx hy (pa_cons (pcE X a) (pa_cons (pcE X b) pa_nil q2) q1) hw hs) (h F H σ R _ fun v x F1 H1 μ1 w1 R1 o1 q => q F1 H1 σ R1 _ fun u y F2 H2 μ2 w2 R2 o2 q2 =>
    ⟨v, u, rfl, bb.nx F2 H2 _ _ μ2 (w1.trans w2) ((R2.put i (o1.up w2.f)).put j o2) q2⟩)
theorem Bears.frz {K : PySem.W.Frag} {F F' H : Hp} {De : Ends} {μ' : Cells} (b : Bears K F H μ D De) (w : Fw (ks μ) (ks μ') F H F' H) : Bears K F' H μ' D De := b.next w
theorem Rp.frz {K : PySem.W.Frag} {F H : Hp} {σ : L2.St} {p : Addr} {ds : List PyData} (R : Rp K F H σ δ ((p, ds) :: μ)) (pl : plS ds) (js : List Nat) (hj : ∀ j ∈ js, δ[j]? = some (some (.a p))) : ∃ F', Rp K F' H σ (js.foldl (fun d j => d.set j (some (.d (.list ds)))) δ) μ ∧ Fw (ks ((p, ds) :: μ)) (ks μ) F H F' H := by
  obtain ⟨vs, hp, hd, m, sf, fp, out⟩ := R.m.freeze pl
  refine ⟨_, ?_, ⟨sf, fun b o e _ => e, fun b e hb nb => ?_, fun b hb => .inl (List.mem_cons_of_mem _ hb)⟩⟩
  · have key : ∀ (js : List Nat) (d : Dl), Rp K (upd F p (.lst vs)) H σ d μ → (∀ j ∈ js, ∃ v, σ[j]? = some (some v) ∧ v = .ref p) → Rp K (upd F p (.lst vs)) H σ (js.foldl (fun d j => d.set j (some (.d (.list ds)))) d) μ := by
      intro js
      induction js with
      | nil => intro d r _; exact r
      | cons j r ih =>
        intro d rr hh
        refine ih _ ?_ fun k hk => hh k (List.mem_cons_of_mem _ hk)
        obtain ⟨v, e1, e2⟩ := hh j List.mem_cons_self
        have := rr.put (x := .d (.list ds)) (v := v) j (by rw [e2]; exact .lst upd_same hd)
        have es : σ.set j (some v) = σ := by
          refine List.ext_getElem? fun k => ?_
          by_cases hk : j = k
          · subst hk
            rw [e1, List.getElem?_set_self (List.getElem?_eq_some_iff.mp e1).1]
          · rw [List.getElem?_set_ne hk]
        rw [es] at this
        exact this
    exact key js δ (R.to sf m) fun j h => R.env j _ (hj j h)
  · rw [upd_ne]
    · exact e
    · intro z
      exact nb (z ▸ List.mem_cons_self)
end
end Ec
set_option Elab.async false
set_option linter.all false
set_option maxRecDepth 100000
set_option maxHeartbeats 4000000
namespace Ec
open PySem PySem.Spec PyProof.Rows L2
section
variable {X : Cx} {δ : Dl} {μ : Cells} {e a b : Expr} {pos : Pos} {Q : Vd → Cells → Prop} {D : Dn}
theorem RpM.nil_up {K : PySem.W.Frag} {F H F' H' : Hp} {μ : Cells} (r : RpM K F H μ) (f : Same F F') (h : Same F' H') (k : Same H H') (c : ∀ b, F b = none → H b ≠ none → F' b = none) : RpM K F' H' μ ∧ Fw (ks μ) (ks μ) F H F' H' := by
  refine ⟨⟨h, r.nd, fun b ds m => ?_⟩, f, fun b o e _ => k b o e, fun b e q _ => c b e q, fun b m => .inl m⟩
  obtain ⟨f0, g⟩ := r.cel b ds m
  exact ⟨c b f0 g.ne, g.to f fun o e => k b o e⟩
theorem ws_forG {iv : PyData → Vd} {tg iter : Expr} {body : List Stmt} (is : List Nat) (hp : PassesOwn (model X.prog X.w) X.A X.env X.xe) (hc : X.calm = true)
    (h : WI X tg iter δ μ fun ds μ1 => ∃ I : Nat → Dl → Cells → Prop, I 0 δ μ1 ∧ (∀ i d δ' μ', ds[i]? = some d → I i δ' μ' → WGo X is tg (iv d) δ' μ' fun δ2 μ2 => WB X body δ2 μ2 { nx := I (i + 1), rt := D.rt, bk := D.nx, ct := I (i + 1) }) ∧ ∀ δ' μ', I ds.length δ' μ' → D.nx δ' μ')
    (hw : itV iter = iv)
    (hs : ∀ x, foldedSetIterable iter X.env x = pure x := by intro _; rfl) : WS X (.For tg iter body [] pos) δ μ D := fun F H σ R De b =>
  toS (ps_for hp hc (pcI X tg iter) (pcG X tg) (pcB X body) hs) (h F H σ R _ fun J ds F1 H1 μ1 w1 R1 wk q => by
    subst hw
    obtain ⟨I, h0, hturn, hend⟩ := q
    refine ⟨fun i m σ' H' => m = ds.length - i ∧ i ≤ ds.length ∧ ∃ F' δ' μ', Fw (ks μ1) (ks μ') F1 H1 F' H' ∧ Rp X.K F' H' σ' δ' μ' ∧ I i δ' μ', ⟨_, rfl, Nat.zero_le _, F1, δ, μ1, Fw.refl, R1, h0⟩, ?_⟩
    rintro i m σ' H' ⟨rfl, hi, F', δ', μ', w', R', hI⟩
    by_cases hlt : i < ds.length
    · refine .inr ⟨wk.go i F' H' hlt w'.f R'.m.ex, _, fun _ _ z => z, fun x H2 y => ?_⟩
      obtain ⟨F2, f1, f2, f3, f4, f5⟩ := wk.yld i F' H' x H2 _ (List.getElem?_eq_getElem hlt) w'.f R'.m.ex y
      obtain ⟨m2, w2⟩ := R'.m.nil_up f1 f2 f3 f4
      refine hturn i _ δ' μ' (List.getElem?_eq_getElem hlt) hI F2 H2 σ' (R'.to f1 m2) x f5 _ fun F3 H3 σ3 δ3 μ3 w3 R3 _ q3 => ?_
      have wa := (w'.trans w2).trans w3
      have back : ∀ F4 H4 σ4 δ4 μ4, Fw (ks μ3) (ks μ4) F3 H3 F4 H4 → Rp X.K F4 H4 σ4 δ4 μ4 → I (i + 1) δ4 μ4 → ∃ m', m' < ds.length - i ∧ (m' = ds.length - (i + 1) ∧ i + 1 ≤ ds.length ∧ ∃ F' δ' μ', Fw (ks μ1) (ks μ') F1 H1 F' H4 ∧ Rp X.K F' H4 σ4 δ' μ' ∧ I (i + 1) δ' μ') :=
        fun F4 H4 σ4 δ4 μ4 w4 R4 q4 => ⟨_, by omega, rfl, hlt, F4, δ4, μ4, wa.trans w4, R4, q4⟩
      have bb := (b.next w1).next wa
      exact q3 F3 H3 σ3 R3 _ ⟨back, bb.rt, bb.nx, back⟩
    · have e : i = ds.length := by omega
      subst e
      exact .inl ⟨wk.stop F' H' w'.f R'.m.ex, b.nx F' H' σ' δ' μ' (w1.trans w') R' (hend δ' μ' hI)⟩)
theorem ws_for {tg iter : Expr} {body : List Stmt} (is : List Nat) (hp : PassesOwn (model X.prog X.w) X.A X.env X.xe) (hc : X.calm = true)
    (h : WI X tg iter δ μ fun ds μ1 => ∃ I : Nat → Dl → Cells → Prop, I 0 δ μ1 ∧ (∀ i d δ' μ', ds[i]? = some d → I i δ' μ' → WGo X is tg (.d d) δ' μ' fun δ2 μ2 => WB X body δ2 μ2 { nx := I (i + 1), rt := D.rt, bk := D.nx, ct := I (i + 1) }) ∧ ∀ δ' μ', I ds.length δ' μ' → D.nx δ' μ')
    (hs : ∀ x, foldedSetIterable iter X.env x = pure x := by intro _; rfl) (hw : itV iter = Vd.d := by rfl) : WS X (.For tg iter body [] pos) δ μ D := ws_forG is hp hc h hw hs
def Blk (X : Cx) (scope : Scope) (Φ : Cx → Prop) : Prop := ∀ (s : Shared) (H : Hp) (C : Addr) (cl : List (Str × Addr)) (fp : List Addr), Φ (X.blk s H scope (compEnvC scope cl C X.env) fp)
def WTs (X : Cx) (ifs : List Expr) (δ : Dl) (μ : Cells) (Q : Bool → Cells → Prop) : Prop := match ifs with
  | [] => Q true μ
  | [c] => WT X c δ μ Q
  | _ => False
def gB (X : Cx) (scope : Scope) (tg : Expr) : TG := fun v σ H Q => Blk X scope fun Y => cG Y tg v σ H Q
def tB (X : Cx) (scope : Scope) (ifs : List Expr) : TT := fun σ H Q => match ifs with | [] => Q true H | [c] => Blk X scope fun Y => cT Y c σ H Q | _ => False
def eB (X : Cx) (scope : Scope) (elt : Expr) : TE := fun σ H Q => Blk X scope fun Y => cE Y elt σ H Q
theorem pgB (scope : Scope) (tg : Expr) (s : Shared) (H : Hp) (C : Addr) (cl : List (Str × Addr)) (fp : List Addr) : PG (X.blk s H scope (compEnvC scope cl C X.env) fp) tg (gB X scope tg) := ⟨fun pins s1 σ1 H1 v u Q1 I r hh => hh s H C cl fp pins s1 u I r⟩
theorem ptB (scope : Scope) (ifs : List Expr) (s : Shared) (H : Hp) (C : Addr) (cl : List (Str × Addr)) (fp : List Addr) : PTs (X.blk s H scope (compEnvC scope cl C X.env) fp) ifs (tB X scope ifs) := match ifs with
  | [] => pts_nil
  | [c] => pts_one ⟨fun pins s1 σ1 H1 Q1 I hh => hh s H C cl fp pins s1 I⟩
  | _ :: _ :: _ => ⟨fun _ _ _ _ _ _ hh => hh.elim⟩
theorem peB (scope : Scope) (elt : Expr) (s : Shared) (H : Hp) (C : Addr) (cl : List (Str × Addr)) (fp : List Addr) : PE (X.blk s H scope (compEnvC scope cl C X.env) fp) elt (eB X scope elt) := ⟨fun pins s1 σ1 H1 Q1 I hh => hh s H C cl fp pins s1 I⟩
def toC : Vd → PyData
  | .d x => x
  | .a p => ptr p
  | .w x => x
  | .s ns => .list (intsD ns)
  | .k p _ => ptr p
  | .e p C f x => exI p C f x
  | .z p kvs => zd p kvs
  | .q a b => ptr2 a b
  | .m p _ _ => ptr p
theorem VOk.toC {K : PySem.W.Frag} {F : Hp} : ∀ {x : Vd} {v : V}, (∀ d, x ≠ .w d ∧ ∀ ns, x ≠ .s ns) → VOk K F x v → Dq K F v (toC x)
  | .d _, _, _, h => .d h
  | .a p, _, _, h => by
    rw [show _ = V.ref p from h]
    exact .p p
  | .w d, _, n, _ => absurd rfl (n d).1
  | .s ns, _, n, _ => absurd rfl ((n .none).2 ns)
  | .k p _, _, _, h => by
    rw [h.1]
    exact .p p
  | .e p C f x, _, _, h => by
    obtain ⟨rfl, dd, w, h1, h2, h3⟩ := h
    exact .e h1 h2 h3
  | .z p kvs, _, _, h => by
    rw [h.1]
    exact .z h.2
  | .q a b, _, _, h => by
    obtain ⟨T, o, rfl, h1, h2⟩ := h
    exact .q h1 h2
  | .m p true ds, _, _, h => by
    rw [h.1]
    exact .p p
  | .m p false ds, _, _, h => by
    rw [h.1]
    exact .p p
def LcPg (iv : PyData → Vd) (X : Cx) (scope : Scope) (own : List (Str × Nat)) (elt tg iter : Expr) (ifs : List Expr) (δ : Dl) (μ : Cells) (Q : Vd → Cells → Prop) : Prop :=
  WI X tg iter δ μ fun ds μ1 => ∃ I : Nat → List PyData → Cells → Prop, I 0 [] μ1 ∧ ds.length ≤ 100000 ∧ (∀ i acc μ', I i acc μ' → acc.length ≤ i) ∧
      (∀ i d acc μ', ds[i]? = some d → I i acc μ' → Blk X scope fun Y => WGo Y (own.map (·.2)) tg (iv d) (wipeD δ (own.map (·.2))) μ' fun δ2 μ2 => Blk X scope fun Y => WTs Y ifs δ2 μ2 fun k μ3 =>
        if k = true then Blk X scope fun Y => WE Y elt δ2 μ3 fun y μ4 => ∃ yd, y = .d yd ∧ I (i + 1) (acc ++ [yd]) μ4 else I (i + 1) acc μ3) ∧
      ∀ acc μ', I ds.length acc μ' → ∀ p, Q (.a p) ((p, acc) :: μ')
def LcQg (iv : PyData → Vd) (X : Cx) (scope : Scope) (own : List (Str × Nat)) (elt tg iter : Expr) (ifs : List Expr) (δ : Dl) (μ : Cells) (Q : Vd → Cells → Prop) : Prop :=
  WI X tg iter δ μ fun ds μ1 => ∃ I : Nat → List PyData → Cells → Prop, I 0 [] μ1 ∧ ds.length ≤ 100000 ∧ (∀ i acc μ', I i acc μ' → acc.length ≤ i) ∧
      (∀ i d acc μ', ds[i]? = some d → I i acc μ' → Blk X scope fun Y => WGo Y (own.map (·.2)) tg (iv d) (wipeD δ (own.map (·.2))) μ' fun δ2 μ2 => Blk X scope fun Y => WTs Y ifs δ2 μ2 fun k μ3 =>
        if k = true then Blk X scope fun Y => WE Y elt δ2 μ3 fun y μ4 => (∀ z, y ≠ .w z ∧ ∀ ns, y ≠ .s ns) ∧ I (i + 1) (acc ++ [toC y]) μ4 else I (i + 1) acc μ3) ∧
      ∀ acc μ', I ds.length acc μ' → ∀ p, Q (.a p) ((p, acc) :: μ')
abbrev LcP := LcPg Vd.d
abbrev LcQ := LcQg Vd.d
theorem LcPg.q {iv : PyData → Vd} {elt tg iter : Expr} {ifs : List Expr} {scope : Scope} {own : List (Str × Nat)} (h : LcPg iv X scope own elt tg iter ifs δ μ Q) : LcQg iv X scope own elt tg iter ifs δ μ Q := fun F H σ R RV c =>
  h F H σ R RV fun J ds F1 H1 μ1 w1 R1 wk q => c J ds F1 H1 μ1 w1 R1 wk (by
    obtain ⟨I, h0, hz, hacc, hturn, hend⟩ := q
    refine ⟨I, h0, hz, hacc, fun i d acc μ' hd hI s0 H0 C0 cl0 fp0 F3 H3 σ3 R3 v o3 QV c3 => hturn i d acc μ' hd hI s0 H0 C0 cl0 fp0 F3 H3 σ3 R3 v o3 QV fun F' H' σ' δ' μ' w' R' y' q' => c3 F' H' σ' δ' μ' w' R' y' ?_, hend⟩
    intro s1 H1 C1 cl1 fp1
    have q1 := q' s1 H1 C1 cl1 fp1
    have up : ∀ k μ3, (if k = true then Blk X scope fun Y => WE Y elt δ' μ3 fun y μ4 => ∃ yd, y = .d yd ∧ I (i + 1) (acc ++ [yd]) μ4 else I (i + 1) acc μ3) → if k = true then Blk X scope fun Y => WE Y elt δ' μ3 fun y μ4 => (∀ z, y ≠ .w z ∧ ∀ ns, y ≠ .s ns) ∧ I (i + 1) (acc ++ [toC y]) μ4 else I (i + 1) acc μ3 := fun k μ3 z => by
      cases k with
      | false => exact z
      | true =>
        intro s2 H2 C2 cl2 fp2
        refine (z s2 H2 C2 cl2 fp2).mono fun y μ4 q => ?_
        obtain ⟨yd, rfl, q⟩ := q
        exact ⟨(fun z => ⟨(fun e => by cases e), fun ns e => by cases e⟩), q⟩
    match ifs, q1 with
    | [], q1 => exact up true _ q1
    | [cnd], q1 => exact WT.mono (e := cnd) q1 fun k μ3 z => up k μ3 z
    | _ :: _ :: _, q1 => exact q1.elim)
theorem lc_read {iv : PyData → Vd} {elt tg iter : Expr} {ifs : List Expr} {scope : Scope} {own : List (Str × Nat)} (h : LcQg iv X scope own elt tg iter ifs δ μ Q) (hw : itV iter = iv) {F H : Hp} {σ : L2.St} (R : Rp X.K F H σ δ μ) {QV : VK}
    (c : ∀ v x F' H' μ', Fw (ks μ) (ks μ') F H F' H' → Rp X.K F' H' σ δ μ' → VOk X.K F' x v → Q x μ' → QV v H') : tLc (cI X tg iter) (gB X scope tg) (tB X scope ifs) (eB X scope elt) (own.map (·.2)) σ H QV := by
  subst hw
  refine h F H σ R _ fun J ds F1 H1 μ1 w1 R1 wk q => ?_
  obtain ⟨I, h0, hz, hacc, hturn, hend⟩ := q
  intro L nL
  obtain ⟨m0, w0⟩ := R1.m.cell (ds := []) (vs := []) nL .nil
  have pm : ∀ (μ' : Cells) (acc : List PyData), ((L, Cont.l acc) :: μ').Perm (μ' ++ [(L, Cont.l acc)]) := fun μ' acc => (List.perm_append_singleton (L, Cont.l acc) μ').symm
  refine ⟨fun i m H' => m = ds.length - i ∧ i ≤ ds.length ∧ ∃ F' μ' acc, Fw (ks μ1) (ks (μ' ++ [(L, Cont.l acc)])) F1 H1 F' H' ∧ Rp X.K F' H' σ δ (μ' ++ [(L, Cont.l acc)]) ∧ I i acc μ',
    ⟨_, rfl, Nat.zero_le _, F1, μ1, [], w0.perm (K := X.K) (pm μ1 []), (R1.to w0.f m0).perm (pm μ1 []), h0⟩, ?_⟩
  rintro i m H' ⟨rfl, hi, F', μ', acc, w', R', hI⟩
  by_cases hlt : i < ds.length
  · refine .inr ⟨wk.go i F' H' hlt w'.f R'.m.ex, _, fun _ z => z, fun x H2 y => ?_⟩
    obtain ⟨F2, f1, f2, f3, f4, f5⟩ := wk.yld i F' H' x H2 _ (List.getElem?_eq_getElem hlt) w'.f R'.m.ex y
    obtain ⟨m2, w2⟩ := R'.m.nil_up f1 f2 f3 f4
    have R2 : Rp X.K F2 H2 σ δ (μ' ++ [(L, Cont.l acc)]) := R'.to f1 m2
    have R2l : Rp X.K F2 H2 σ δ μ' := ⟨R2.m.left, R2.len, R2.env⟩
    intro s0 H0 C0 cl0 fp0
    refine hturn i _ acc μ' (List.getElem?_eq_getElem hlt) hI s0 H0 C0 cl0 fp0 F2 H2 _ (R2l.wiped (own.map (·.2))) x f5 _ fun F3 H3 σ3 δ3 μ3 w3 R3 y3 q3 => ⟨y3.wipe, ?_⟩
    obtain ⟨m3, w3'⟩ := R2.m.frame w3 R3.m
    have go : ∀ k F4 H4 μ4, Fw (ks μ3) (ks μ4) F3 H3 F4 H4 → Rp X.K F4 H4 σ3 δ3 μ4 → (if k = true then Blk X scope fun Y => WE Y elt δ3 μ4 fun y μ5 => (∀ z, y ≠ .w z ∧ ∀ ns, y ≠ .s ns) ∧ I (i + 1) (acc ++ [toC y]) μ5 else I (i + 1) acc μ4) →
        if k = true then (Blk X scope fun Y => cE Y elt σ3 H4 fun y H5 => ∃ acc, H5 L = some (.lst acc) ∧ acc.length < sizeLine ∧ (fun H' => ∃ m', m' < ds.length - i ∧ (m' = ds.length - (i + 1) ∧ i + 1 ≤ ds.length ∧ ∃ F' μ' acc, Fw (ks μ1) (ks (μ' ++ [(L, Cont.l acc)])) F1 H1 F' H' ∧ Rp X.K F' H' σ δ (μ' ++ [(L, Cont.l acc)]) ∧ I (i + 1) acc μ')) (upd H5 L (.lst (acc ++ [y])))) else
          (fun H' => ∃ m', m' < ds.length - i ∧ (m' = ds.length - (i + 1) ∧ i + 1 ≤ ds.length ∧ ∃ F' μ' acc, Fw (ks μ1) (ks (μ' ++ [(L, Cont.l acc)])) F1 H1 F' H' ∧ Rp X.K F' H' σ δ (μ' ++ [(L, Cont.l acc)]) ∧ I (i + 1) acc μ')) H4 := by
      intro k F4 H4 μ4 w4 R4 q4
      obtain ⟨m4, w4'⟩ := m3.frame w4 R4.m
      cases k with
      | false => exact ⟨_, by omega, rfl, hlt, F4, μ4, acc, ((w'.trans w2).trans w3').trans w4', (R2.to (w3.f.trans w4.f) m4), q4⟩
      | true =>
        intro s5 H5' C5 cl5 fp5
        refine q4 s5 H5' C5 cl5 fp5 F4 H4 σ3 R4 _ fun v yv F5 H5 μ5 w5 R5 o5 q5' => ?_
        obtain ⟨nw5, q5⟩ := q5'
        obtain ⟨m5, w5'⟩ := m4.frame w5 R5.m
        obtain ⟨fL, vs, hL, gL⟩ := m5.cel L (.l acc) (List.mem_append_right _ List.mem_cons_self)
        have il : (μ5 ++ [(L, Cont.l acc)])[μ5.length]? = some (L, Cont.l acc) := by simp
        obtain ⟨m6, w6⟩ := m5.setCQ (es := acc ++ [toC yv]) il (dqs_app gL (.cons (VOk.toC nw5 o5) .nil))
        have es : (μ5 ++ [(L, Cont.l acc)]).set μ5.length (L, Cont.l (acc ++ [toC yv])) = μ5 ++ [(L, Cont.l (acc ++ [toC yv]))] := by
          rw [List.set_append_right _ _ (Nat.le_refl _), Nat.sub_self]
          rfl
        rw [es] at m6 w6
        refine ⟨vs, hL, ?_, _, by omega, rfl, hlt, F5, μ5, acc ++ [toC yv], ((((w'.trans w2).trans w3').trans w4').trans w5').trans w6, R2.to ((w3.f.trans w4.f).trans w5.f) m6, q5⟩
        rw [dqs_len gL]
        exact Nat.lt_of_le_of_lt (Nat.le_trans (hacc i acc μ' hI) (Nat.le_trans hi hz)) (by decide)
    match ifs, q3 with
    | [], q3 => exact go true F3 H3 μ3 Fw.refl R3 (q3 s0 H0 C0 cl0 fp0)
    | [cnd], q3 => exact fun s4 H4' C4 cl4 fp4 => q3 s4 H4' C4 cl4 fp4 F3 H3 σ3 R3 _ fun k F4 H4 μ4 w4 R4 q4 => go k F4 H4 μ4 w4 R4 q4
    | _ :: _ :: _, q3 => exact (q3 s0 H0 C0 cl0 fp0).elim
  · have e : i = ds.length := by omega
    subst e
    refine .inl ⟨wk.stop F' H' w'.f R'.m.ex, ?_⟩
    have pm' := (pm μ' acc).symm
    exact c _ (.a L) F' H' _ (w1.trans (w'.perm (K := X.K) pm')) (R'.perm pm') rfl (hend acc μ' hI L)
theorem we_lcQ {elt tg iter : Expr} {ifs : List Expr} {scope : Scope} (own : List (Str × Nat)) (hc : X.calm = true) (hN : X.N.Nodup) (ok : BlkOk X.N X.env.scope scope own) (h : LcQ X scope own elt tg iter ifs δ μ Q)
    (hs : ∀ x, foldedSetIterable iter X.env x = pure x := by intro _; rfl) (hw : itV iter = Vd.d := by rfl) : WE X (.ListComp elt [⟨tg, iter, ifs, 0⟩] scope pos) δ μ Q := fun F H σ R QV c =>
  toE (pe_lc hc hN (pcI X tg iter) ok (pgB scope tg) (ptB scope ifs) (peB scope elt) hs) (lc_read h hw R c)
theorem we_lc {elt tg iter : Expr} {ifs : List Expr} {scope : Scope} (own : List (Str × Nat)) (hc : X.calm = true) (hN : X.N.Nodup) (ok : BlkOk X.N X.env.scope scope own) (h : LcP X scope own elt tg iter ifs δ μ Q)
    (hs : ∀ x, foldedSetIterable iter X.env x = pure x := by intro _; rfl) (hw : itV iter = Vd.d := by rfl) : WE X (.ListComp elt [⟨tg, iter, ifs, 0⟩] scope pos) δ μ Q := we_lcQ own hc hN ok h.q hs hw
theorem we_lcQW {elt tg iter : Expr} {ifs : List Expr} {scope : Scope} (own : List (Str × Nat)) (hc : X.calm = true) (hN : X.N.Nodup) (ok : BlkOk X.N X.env.scope scope own) (h : LcQg Vd.w X scope own elt tg iter ifs δ μ Q)
    (hs : ∀ x, foldedSetIterable iter X.env x = pure x := by intro _; rfl) (hw : itV iter = Vd.w := by rfl) : WE X (.ListComp elt [⟨tg, iter, ifs, 0⟩] scope pos) δ μ Q := fun F H σ R QV c =>
  toE (pe_lc hc hN (pcI X tg iter) ok (pgB scope tg) (ptB scope ifs) (peB scope elt) hs) (lc_read h hw R c)
theorem we_lcW {elt tg iter : Expr} {ifs : List Expr} {scope : Scope} (own : List (Str × Nat)) (hc : X.calm = true) (hN : X.N.Nodup) (ok : BlkOk X.N X.env.scope scope own) (h : LcPg Vd.w X scope own elt tg iter ifs δ μ Q)
    (hs : ∀ x, foldedSetIterable iter X.env x = pure x := by intro _; rfl) (hw : itV iter = Vd.w := by rfl) : WE X (.ListComp elt [⟨tg, iter, ifs, 0⟩] scope pos) δ μ Q := we_lcQW own hc hN ok h.q hs hw
end
end Ec
set_option Elab.async false
set_option linter.all false
set_option maxRecDepth 100000
set_option maxHeartbeats 4000000
namespace Ec
open PySem PySem.Spec PyProof.Rows L2
structure FnG (P : Program) (w : World) (K : PySem.W.Frag) (mg : Str → Option Value) (base : Heap) (CX : CXT) (k : Nat) (f : Addr) (fd : FuncData) (ps : List Str) (sp : Sp) : Prop where
  len : ∀ vs H Q E, sp vs H Q E → vs.length = ps.length
  run : ∀ (A : Around) (outer : List Env) (s : Shared) (H : Hp) (args : Args) (us : List Value) (vs : List V) (Q : VK) (E : XK), Room k A → A.guards = some [] → Env0 P w K mg base A outer s H → BindsTo s fd args (ps.zip us) → Vals vs us → sp vs H Q E →
    codeAny (model P w) A (.call (.ref f) args) (CR CX outer P w H s Q E) s
section
variable {P : Program} {w : World} {K : PySem.W.Frag} {mg : Str → Option Value} {base : Heap} {CX : CXT} {j k : Nat} {f : Addr} {fd : FuncData} {ps : List Str} {sp sp' : Sp}
theorem FnG.of (F : FnOk P w K mg base CX k f fd ps sp) : FnG P w K mg base CX k f fd ps sp := ⟨F.len, fun A outer s H args us vs Q E hr _ => F.run A outer s H args us vs Q E hr⟩
theorem FnG.mono (F : FnG P w K mg base CX j f fd ps sp) (h : j ≤ k) : FnG P w K mg base CX k f fd ps sp := ⟨F.len, fun A outer s H args us vs Q E hr => F.run A outer s H args us vs Q E (hr.mono h)⟩
theorem FnG.imp (F : FnG P w K mg base CX k f fd ps sp) (h : ∀ vs H Q E, sp' vs H Q E → sp vs H Q E) : FnG P w K mg base CX k f fd ps sp' :=
  ⟨fun vs H Q E q => F.len vs H Q E (h _ _ _ _ q), fun A outer s H args us vs Q E hr hg he hb hv hs => F.run A outer s H args us vs Q E hr hg he hb hv (h _ _ _ _ hs)⟩
theorem FnG.body {N : List Str} {x qual : Str} {st : Stmt} (F : Fun K x qual st f fd) (S : FnScope N ps (defScope st)) (len : ∀ vs H Q E, sp vs H Q E → vs.length = ps.length)
    (hbody : ∀ (cdv : Value) (A : Around) (outer : List Env) (s : Shared) (H : Hp) (vs : List V) (Q : VK) (E : XK), Room k (A.deeper (envOfC qual (defScope st) s.heap.objs.size f cdv)) → A.guards = some [] → sp vs H Q E →
      ∃ t, PSs (cxOf CX P w K mg base N qual (defScope st) f cdv A outer s H E) (defBody st) t ∧ t { nx := fun _ H' => Q .non H', rt := Q } (start N vs) H) : FnG P w K mg base CX (k + 1) f fd ps sp := by
  obtain ⟨oc, od, kV, doc, pm, an, cdv, ct, osl, rfl, lk, hcd⟩ := F.ex
  refine ⟨len, fun A outer s H args us vs Q E hr hg e0 hb r hsp => ?_⟩
  have up : ∀ {b : Addr} {o : Obj}, base.get? b = some o → s.heap.get? b = some o := fun e => (e0.bs _ _ e).1
  have loc : ∀ y ∈ ps.zip us, (defScope st).names.lookup y.1 = some .local ∨ ((defScope st).names.lookup y.1 = some .cell ∧ ((cellsFrom (s.heap.objs.size + 1) (defScope st).names []).lookup y.1).isSome = true) := fun y hy =>
    (S.par y.1 (List.of_mem_zip (a := y.1) (b := y.2) hy).1).imp_right fun q => ⟨q, PySem.W.cellsFrom_some _ _ _ (.inl q)⟩
  refine codeAny_call_function hr.depth (e0.mod.kin.keeps (fun _ _ => up) _ _ lk) rfl S.co S.gen rfl (PySem.W.codeRec_of (e0.mod.kin.keeps fun _ _ => up) hcd) (hb _ _ _ _ (wpAny_newFunctionEnv_cells S.kind loc fun env he s1 x => ?_))
  subst he
  obtain ⟨t, ht, hq⟩ := hbody cdv A outer s H vs Q E (hr.deeper _) hg hsp
  refine ⟨(e0.mod.nolimit.keeps fun _ _ => up).keeps x.toInCall.keep, codeAny_func ?_⟩
  refine wpAny_mono (ht.run [] s1 (start N vs) H _ (inv_start S hr.hd e0 (len _ _ _ _ hsp) r x) hq) (fun fl s' hs => ?_) fun e s' hs => hs
  match fl, hs with
  | .ret u, ⟨v, σ', H', J, rv, q⟩ => exact ⟨v, H', J.os, J.bare, J.base, J.hok, rv, q⟩
  | .next, ⟨σ', H', J, q⟩ => exact ⟨V.non, H', J.os, J.bare, J.base, J.hok, rfl, q⟩
  | .brk, ⟨_, _, _, q⟩ => exact q.elim
  | .cont, ⟨_, _, _, q⟩ => exact q.elim
end
section
variable {X : Cx} {CX : CXT} {k : Nat} {f : Addr} {fd : FuncData} {ps ks : List Str} {sp : Sp} {x : Str} {p pos : Pos} {e : Expr} {es : List Expr} {kws : List Keyword} {t tk : TA} {g : List Value → List Value → List Value} {gV : List V → List V → List V}
theorem run_g {pins : List (Addr × Obj)} {σ : L2.St} {H : Hp} {s : Shared} {Q : VK} {E : XK} {us ws : List Value} {kn : List (Str × Value)} {vs : List V} (F : FnG X.prog X.w X.K X.mg X.base CX k f fd ps sp) (hr : Room k X.A) (hgd : X.A.guards = some []) (hb : BindsTo s fd ⟨us, kn⟩ (ps.zip ws)) (hx : PassesAt CX X σ E)
    (I : Inv X pins σ H s) (r : Vals vs ws) (h : sp vs H Q E) : wpAny (model X.prog X.w) X.A (call (.ref f) us kn) (EP X pins σ Q) X.xe s := by
  refine wpAny_call (codeAny_mono (F.run X.A X.stack s H ⟨us, kn⟩ ws vs Q E hr hgd I.env0 hb r h) fun q s' hq => ?_)
  match q, hq with
  | .error e, hq => exact hx pins H s e s' I hq
  | .ok (.ret u), hq => exact I.after hq
  | .ok .next, hq => exact hq.elim
  | .ok .brk, hq => exact hq.elim
  | .ok .cont, hq => exact hq.elim
theorem pe_callSg {E : L2.St → XK} (F : FnG X.prog X.w X.K X.mg X.base CX k f fd ps sp) (hr : Room k X.A) (hgd : X.A.guards = some []) (hg : Gl X x) (hm : X.mg x = some (.ref f)) (hk : PySem.W.keepIn X.K (.ref f) = true) (hb : Binds X.K fd ps []) (hx : ∀ σ, PassesAt CX X σ (E σ))
    (ha : PA X (e :: es) t) (hdb : (x == ("__debug__" : Str)) = false := by decide) (he : starEach (e :: es) X.env = (false, eval e X.env) :: starEach es X.env := by rfl) (hpl : (backTo pos (starEach es X.env)).any (·.1) = false := by rfl) :
    PE X (.Call (.Name x p) (e :: es) [] pos) (tCallS sp E t) := ⟨fun pins s σ H Q I h =>
  wpAny_Call_Name_kw (ld_glob I hg hm (PySem.W.callWith_K (h₀ := X.base) I.ok.mod.kin hk (thn (ha.run pos pins s σ H _ I h) fun us s1 ⟨vs, H1, I1, r, q⟩ => ⟨I1.kIn, by
    have b := hb s1 us I1.kIn (by rw [List.append_nil, ← r.length]; exact F.len _ _ _ _ q)
    rw [List.append_nil] at b
    exact run_g F hr hgd b (hx σ) I1 r q⟩) he hpl) hdb)⟩
theorem pe_callg {E : XK} (F : FnG X.prog X.w X.K X.mg X.base CX k f fd ps sp) (hr : Room k X.A) (hgd : X.A.guards = some []) (hg : Gl X x) (hm : X.mg x = some (.ref f)) (hk : PySem.W.keepIn X.K (.ref f) = true) (hb : Binds X.K fd ps []) (hx : Passes CX X E)
    (ha : PA X (e :: es) t) (hdb : (x == ("__debug__" : Str)) = false := by decide) (he : starEach (e :: es) X.env = (false, eval e X.env) :: starEach es X.env := by rfl) (hpl : (backTo pos (starEach es X.env)).any (·.1) = false := by rfl) :
    PE X (.Call (.Name x p) (e :: es) [] pos) (fun σ H Q => t σ H fun vs H1 => sp vs H1 Q E) := pe_callSg (E := fun _ => E) F hr hgd hg hm hk hb (fun σ pins H s e s' I h => hx pins σ H s e s' I h) ha hdb he hpl
end
end Ec
set_option Elab.async false
set_option linter.all false
set_option maxRecDepth 100000
set_option maxHeartbeats 4000000
namespace Ec
open PySem PySem.Spec PyProof.Rows L2 RZ
def rangeD (lo : Int) (n : Nat) : List PyData := (List.range n).map fun (i : Nat) => .int (lo + (i : Int))
theorem rangeD_len (lo : Int) (n : Nat) : (rangeD lo n).length = n := by simp [rangeD]
theorem rangeD_get {lo : Int} {n i : Nat} (h : i < n) : (rangeD lo n)[i]? = some (.int (lo + i)) := by
  unfold rangeD
  rw [List.getElem?_map, List.getElem?_range h]
  rfl
theorem wk_range {K : PySem.W.Frag} {F0 : Hp} (lo : Int) (n : Nat) : Wk K (Itr lo n) F0 Vd.d (rangeD lo n) where
  go := fun i F H hi f1 f2 => by rw [rangeD_len] at hi; exact hi
  yld := fun i F H x H' d hi f1 f2 y => by
    obtain ⟨rfl, rfl⟩ := y
    have hl := (List.getElem?_eq_some_iff.mp hi).1
    rw [rangeD_len] at hl
    rw [rangeD_get hl] at hi
    cases hi
    exact ⟨F, Same.refl F, f2, Same.refl _, fun _ z _ => z, .int _⟩
  stop := fun F H f1 f2 => by rw [rangeD_len]; exact Nat.le_refl n
theorem pair_new {K : PySem.W.Frag} {F H : Hp} {T : Addr} {x y : V} {d e : PyData} (f2 : Same F H) (nT : H T = none) (hx : De K F x d) (hy : De K F y e) :
    ∃ F', Same F F' ∧ Same F' (upd H T (.tup [x, y])) ∧ Same H (upd H T (.tup [x, y])) ∧ (∀ b, F b = none → H b ≠ none → F' b = none) ∧ VOk K F' (.w (.tuple [d, e])) (.ref T) := by
  have fT : F T = none := f2.free nT
  refine ⟨upd F T (.tup [x, y]), same_new fT, fun b o z => ?_, same_new nT, fun b z q => ?_, ⟨T, _, _, rfl, rfl, .of upd_same, dps_up (same_new fT) _ _ (.cons hx (.cons hy .nil))⟩⟩
  · by_cases hb : b = T
    · subst hb
      rw [upd_same] at z ⊢
      exact z
    · rw [upd_ne hb] at z ⊢
      exact f2 b o z
  · rw [upd_ne]
    · exact z
    · intro w
      exact q (w ▸ nT)
def zipD (ds es : List PyData) : List PyData := List.zipWith (fun d e => .tuple [d, e]) ds es
theorem zipD_len (ds es : List PyData) : (zipD ds es).length = min ds.length es.length := by simp [zipD]
theorem zipD_get {ds es : List PyData} {i : Nat} {x : PyData} (h : (zipD ds es)[i]? = some x) : ∃ d e, ds[i]? = some d ∧ es[i]? = some e ∧ x = .tuple [d, e] := by
  unfold zipD at h
  rw [List.getElem?_zipWith] at h
  cases q : ds[i]? with
  | none =>
    rw [q] at h
    simp at h
  | some d =>
    cases q2 : es[i]? with
    | none =>
      rw [q, q2] at h
      simp at h
    | some e =>
      rw [q, q2] at h
      simp at h
      exact ⟨d, e, rfl, rfl, h.symm⟩
theorem wk_zipL {K : PySem.W.Frag} {F0 : Hp} {a b : Addr} {vs us : List V} {ds es : List PyData} (h : SqL K F0 a vs) (hd : DeAll K F0 vs ds) (h2 : SqL K F0 b us) (he : DeAll K F0 us es) : Wk K (Itz K a b) F0 Vd.w (zipD ds es) where
  go := fun i F H hi f1 f2 => by
    rw [zipD_len] at hi
    exact ⟨vs, us, vs[i]'(by rw [dps_len hd]; omega), us[i]'(by rw [dps_len he]; omega), f2.seq (f1.seq h), f2.seq (f1.seq h2), List.getElem?_eq_getElem _, List.getElem?_eq_getElem _⟩
  yld := fun i F H x H' d hi f1 f2 y => by
    obtain ⟨T, x0, y0, rfl, nT, rfl, y, z⟩ := y
    obtain ⟨d0, d1, e0, e1, rfl⟩ := zipD_get hi
    obtain ⟨v, q1, q2⟩ := dps_get hd e0
    obtain ⟨u, q3, q4⟩ := dps_get he e1
    have t1 : v = x0 := Option.some.inj (q1.symm.trans (y vs (f2.seq (f1.seq h))))
    have t2 : u = y0 := Option.some.inj (q3.symm.trans (z us (f2.seq (f1.seq h2))))
    subst t1 t2
    exact pair_new f2 nT (dp_up f1 _ _ q2) (dp_up f1 _ _ q4)
  stop := fun F H f1 f2 => ⟨vs, us, f2.seq (f1.seq h), f2.seq (f1.seq h2), by rw [zipD_len, dps_len hd, dps_len he]; omega⟩
theorem wk_zipT {K : PySem.W.Frag} {F0 : Hp} {a b : Addr} {vs us : List V} {ds es : List PyData} (h : SqT K F0 a vs) (hd : DeAll K F0 vs ds) (h2 : SqT K F0 b us) (he : DeAll K F0 us es) : Wk K (ItzT K a b) F0 Vd.w (zipD ds es) where
  go := fun i F H hi f1 f2 => by
    rw [zipD_len] at hi
    exact ⟨vs, us, vs[i]'(by rw [dps_len hd]; omega), us[i]'(by rw [dps_len he]; omega), same_t f2 (same_t f1 h), same_t f2 (same_t f1 h2), List.getElem?_eq_getElem _, List.getElem?_eq_getElem _⟩
  yld := fun i F H x H' d hi f1 f2 y => by
    obtain ⟨T, x0, y0, rfl, nT, rfl, y, z⟩ := y
    obtain ⟨d0, d1, e0, e1, rfl⟩ := zipD_get hi
    obtain ⟨v, q1, q2⟩ := dps_get hd e0
    obtain ⟨u, q3, q4⟩ := dps_get he e1
    have t1 : v = x0 := Option.some.inj (q1.symm.trans (y vs (same_t f2 (same_t f1 h))))
    have t2 : u = y0 := Option.some.inj (q3.symm.trans (z us (same_t f2 (same_t f1 h2))))
    subst t1 t2
    exact pair_new f2 nT (dp_up f1 _ _ q2) (dp_up f1 _ _ q4)
  stop := fun F H f1 f2 => ⟨vs, us, same_t f2 (same_t f1 h), same_t f2 (same_t f1 h2), by rw [zipD_len, dps_len hd, dps_len he]; omega⟩
def iSeqS (K : PySem.W.Frag) (tl : TE) : TI := fun σ H R => tl σ H fun x H1 => ∃ a xs, x = .ref a ∧ ((SqL K H1 a xs ∧ R (Itl K a) H1) ∨ (SqT K H1 a xs ∧ R (Itt K a) H1))
theorem pi_seqS {X : Cx} {tg l : Expr} {tl : TE} (hl : PE X l tl) : PI X tg l (iSeqS X.K tl) := by
  refine ⟨fun pins s σ H R I h => thn (hl.run pins s σ H _ I h) fun v s1 h1 => ?_⟩
  obtain ⟨x, H1, J, r1, a, xs, rfl, q⟩ := h1
  cases (show v = Value.ref a from r1)
  have fresh : ∀ b ∈ [s1.heap.objs.size], FpOk X pins H1 b := fun b hb => by
    have z : b = s1.heap.objs.size := by simpa using hb
    rw [z]
    exact J.fpOk (Nat.le_refl _) (J.hok.fresh (Nat.le_refl _))
  rcases q with ⟨hq, q⟩ | ⟨hq, q⟩
  · obtain ⟨its, rv, p, hz⟩ := J.list hq
    exact wpAny_pyIter_list p.isList ⟨s1.heap.objs.size, [s1.heap.objs.size], _, _, H1, rfl, J.kept (t' := s1.toks) fun b o e => Heap.get?_push_of_some _ e, turn_list a _, ⟨_, Heap.get?_push_size _ rfl, rfl, rfl⟩, fresh, q⟩
  · obtain ⟨its, rv, p, hz⟩ := J.tuple hq
    exact wpAny_pyIter_tuple (show s1.heap.IsTuple a its.toArray from p) ⟨s1.heap.objs.size, [s1.heap.objs.size], _, _, H1, rfl, J.kept (t' := s1.toks) fun b o e => Heap.get?_push_of_some _ e, turn_tuple a _, ⟨_, Heap.get?_push_size _ rfl, rfl, rfl⟩, fresh, q⟩
section
variable {X : Cx} {δ : Dl} {μ : Cells} {e a b tg : Expr} {pos p : Pos} {Q : Vd → Cells → Prop} {D : Dn} {QI : List PyData → Cells → Prop}
theorem wi_range1 (hg : Gl X "range") (hm : X.mg "range" = none) (h : WA X [a] δ μ fun xs μ1 => ∃ n : Int, xs = [.d (.int n)] ∧ -100000 ≤ n ∧ n ≤ 100000 ∧ QI (rangeD 0 n.toNat) μ1) (hs : starEach [a] X.env = [(false, eval a X.env)] := by rfl) :
    WI X tg (.Call (.Name "range" p) [a] [] pos) δ μ QI := fun F H σ R RV c =>
  toI (pi_range1 hg hm (pcA X [a]) hs) (h F H σ R _ fun vs xs F1 H1 μ1 w1 R1 o1 q => by
    obtain ⟨n, rfl, h1, h2, q⟩ := q
    cases o1 with
    | cons r rr =>
      cases rr
      exact ⟨n, by rw [dp_int r], by omega, by omega, c _ _ F1 H1 μ1 w1 R1 (wk_range 0 n.toNat) q⟩)
theorem wi_zip {elts : List Expr} {kk : Nat} {tpos : Pos} (hg : Gl X "zip") (hm : X.mg "zip" = none)
    (h : WA X [a, b] δ μ fun xs μ1 => ∃ x y, ((∃ ds es, xs = [.d (.list ds), .d (.list es)] ∧ x = ds ∧ y = es) ∨ (∃ ds es, xs = [.d (.tuple ds), .d (.tuple es)] ∧ x = ds ∧ y = es)) ∧ QI (zipD x y) μ1)
    (hs : starEach [a, b] X.env = (false, eval a X.env) :: starEach [b] X.env := by rfl) (hpl : (backTo pos (starEach [b] X.env)).any (·.1) = false := by rfl) :
    WI X (.Tuple elts kk tpos) (.Call (.Name "zip" p) [a, b] [] pos) δ μ QI := fun F H σ R RV c =>
  toI (pi_zipA hg hm (pcA X [a, b]) hs hpl) (h F H σ R _ fun vs xs F1 H1 μ1 w1 R1 o1 q => by
    obtain ⟨x, y, q0, q⟩ := q
    rcases q0 with ⟨ds, es, rfl, rfl, rfl⟩ | ⟨ds, es, rfl, rfl, rfl⟩
    · cases o1 with
      | cons r rr =>
        cases rr with
        | cons r2 rr =>
          cases rr
          obtain ⟨a, vs, rfl, hs, hd⟩ := dp_lst r
          obtain ⟨b, us, rfl, hs2, hd2⟩ := dp_lst r2
          exact ⟨a, b, vs, us, rfl, .inl ⟨R1.m.ex.seq hs, R1.m.ex.seq hs2, c _ _ F1 H1 μ1 w1 R1 (wk_zipL hs hd hs2 hd2) q⟩⟩
    · cases o1 with
      | cons r rr =>
        cases rr with
        | cons r2 rr =>
          cases rr
          obtain ⟨a, vs, rfl, hs, hd⟩ := dp_tup r
          obtain ⟨b, us, rfl, hs2, hd2⟩ := dp_tup r2
          exact ⟨a, b, vs, us, rfl, .inr ⟨same_t R1.m.ex hs, same_t R1.m.ex hs2, c _ _ F1 H1 μ1 w1 R1 (wk_zipT hs hd hs2 hd2) q⟩⟩)
abbrev TrD := List Vd → Cells → (Vd → Cells → Prop) → Prop
def spW (K : PySem.W.Frag) (T : TrD) : Sp := fun vs H Q _ => ∃ F xs μ R, RpM K F H μ ∧ VAll K F xs vs ∧ T xs μ R ∧ ∀ v x F' H' μ', Fw (ks μ) (ks μ') F H F' H' → RpM K F' H' μ' → VOk K F' x v → R x μ' → Q v H'
def Cal (P : Program) (w : World) (K : PySem.W.Frag) (mg : Str → Option Value) (base : Heap) (k : Nat) (x : Str) (T : TrD) : Prop :=
  ∃ f fd ps, FnG P w K mg base CX0 k f fd ps (spW K T) ∧ mg x = some (.ref f) ∧ PySem.W.keepIn K (.ref f) = true ∧ Binds K fd ps []
theorem we_call {T : TrD} {k : Nat} {x : Str} {es : List Expr} (c : Cal X.prog X.w X.K X.mg X.base k x T) (hr : Room k X.A) (hg : Gl X x) (h : WA X (e :: es) δ μ fun xs μ1 => ∃ μc μr, μ1 = μc ++ μr ∧ T xs μc fun z μ' => Q z (μ' ++ μr)) (hgd : X.A.guards = some [])
    (hdb : (x == ("__debug__" : Str)) = false := by decide) (he : starEach (e :: es) X.env = (false, eval e X.env) :: starEach es X.env := by rfl) (hpl : (backTo pos (starEach es X.env)).any (·.1) = false := by rfl) :
    WE X (.Call (.Name x p) (e :: es) [] pos) δ μ Q := fun F H σ R QV kk => by
  obtain ⟨f, fd, ps, ok, hm, hk, hb⟩ := c
  refine toE (pe_callg ok hr hgd hg hm hk hb pass0 (pcA X (e :: es)) hdb he hpl) (h F H σ R _ fun vs xs F1 H1 μ1 w1 R1 o1 q => ?_)
  obtain ⟨μc, μr, rfl, q⟩ := q
  refine ⟨F1, xs, μc, _, R1.m.left, o1, q, fun v z F2 H2 μ2 w2 m2 o2 q2 => ?_⟩
  obtain ⟨m3, w3⟩ := R1.m.frame w2 m2
  exact kk v z F2 H2 _ (w1.trans w3) (R1.to w2.f m3) o2 q2
def startD (N : List Str) (xs : List Vd) : Dl := xs.map some ++ List.replicate (N.length - xs.length) none
def Keep (μ' : Cells) (Φ : Cells → Prop) : Prop := ∃ μg μk, μ'.Perm (μg ++ μk) ∧ Φ μk
theorem keep {μ : Cells} {Φ : Cells → Prop} (h : Φ μ) : Keep μ Φ := ⟨[], μ, List.Perm.refl _, h⟩
theorem keep_drop {μ : Cells} {Φ : Cells → Prop} {y : Addr × Cont} (h : Keep μ Φ) : Keep (y :: μ) Φ := by
  obtain ⟨g, k, p, h⟩ := h
  exact ⟨y :: g, k, p.cons y, h⟩
theorem RpM.kept {K : PySem.W.Frag} {F H F' H' : Hp} {μ μ' : Cells} {Φ : Cells → Prop} (w : Fw (ks μ) (ks μ') F H F' H') (r : RpM K F' H' μ') (h : Keep μ' Φ) : ∃ μk, Fw (ks μ) (ks μk) F H F' H' ∧ RpM K F' H' μk ∧ Φ μk := by
  obtain ⟨g, k, p, h⟩ := h
  refine ⟨k, (w.perm (K := K) p).sub (fun _ z => z) (fun x m => .inl (by rw [ks_app]; exact List.mem_append_right _ m)), (r.perm (p.trans List.perm_append_comm)).left, h⟩
theorem wb_drop {y : Addr × Cont} {sts : List Stmt} (h : WB X sts δ μ D) : WB X sts δ (y :: μ) D := fun F H σ R De b => by
  have R' : Rp X.K F H σ δ μ := ⟨⟨R.m.ex, (List.nodup_cons.mp R.m.nd).2, fun b ds m => R.m.cel b ds (List.mem_cons_of_mem _ m)⟩, R.len, R.env⟩
  have w : Fw (ks (y :: μ)) (ks μ) F H F H := Fw.refl.sub (fun _ h => h) fun x m => .inl (List.mem_cons_of_mem _ m)
  exact h F H σ R' De (b.next w)
theorem wb_nilK (h : Keep μ fun μ' => D.nx δ μ') : WB X [] δ μ D := fun F H σ R De b => by
  obtain ⟨g, k, p, h⟩ := h
  have R2 := R.perm (p.trans List.perm_append_comm)
  have R' : Rp X.K F H σ δ k := ⟨R2.m.left, R.len, R.env⟩
  have w : Fw (ks μ) (ks k) F H F H := Fw.refl.sub (fun _ h => h) fun x m => .inl ((p.map Prod.fst).mem_iff.mpr (by rw [show (g ++ k).map Prod.fst = ks g ++ ks k from ks_app g k]; exact List.mem_append_right _ m))
  exact toB pss_nil (b.nx F H σ δ k w R' h)
def bX (P : Program) (w : World) (K : PySem.W.Frag) (mg : Str → Option Value) (base : Heap) (N : List Str) (qual : Str) (sc : Scope) (f : Addr) (cdv : Value) (A : Around) (outer : List Env) (s : Shared) (H : Hp) (E : XK) : Cx := (cxOf CX0 P w K mg base N qual sc f cdv A outer s H E).nox
theorem fn_w {P : Program} {w : World} {K : PySem.W.Frag} {mg : Str → Option Value} {base : Heap} {x qual : Str} {st : Stmt} {f : Addr} {fd : FuncData} {N ps : List Str} {k : Nat} {T : TrD} (F : Fun K x qual st f fd) (S : FnScope N ps (defScope st))
    (hN : ps.length ≤ N.length) (len : ∀ xs μ R, T xs μ R → xs.length = ps.length)
    (body : ∀ (cdv : Value) (A : Around) (outer : List Env) (s : Shared) (H : Hp) (E : XK), Room k (bX P w K mg base N qual (defScope st) f cdv A outer s H E).A → (bX P w K mg base N qual (defScope st) f cdv A outer s H E).A.guards = some [] → ∀ xs μ R, T xs μ R →
      WB (bX P w K mg base N qual (defScope st) f cdv A outer s H E) (defBody st) (startD N xs) μ { nx := fun _ μ' => Keep μ' (R (.d .none)), rt := fun z μ' => Keep μ' (R z) }) : FnG P w K mg base CX0 (k + 1) f fd ps (spW K T) := by
  refine FnG.body F S (fun vs H Q E h => ?_) (fun cdv A outer s H vs Q E hr hgd h => ?_)
  · obtain ⟨G, xs, μ, R, _, ha, hT, _⟩ := h
    rw [← Paired.length ha]
    exact len _ _ _ hT
  · obtain ⟨G, xs, μ, R, m, ha, hT, c⟩ := h
    have el : xs.length = vs.length := Paired.length ha
    refine ⟨_, (pcB (bX P w K mg base N qual (defScope st) f cdv A outer s H E) _).nox, body cdv A outer s H E hr hgd xs μ R hT G H (start N vs) ⟨m, ?_, fun i y hy => ?_⟩ _ ⟨fun F' H' σ' δ' μ' w' R' q => by
      obtain ⟨k', w2, m2, q⟩ := RpM.kept w' R'.m q
      exact c _ (.d .none) F' H' k' w2 m2 .non q, fun v z F' H' μ' w' m' o' q => by
      obtain ⟨k', w2, m2, q⟩ := RpM.kept w' m' q
      exact c v z F' H' k' w2 m2 o' q, fun _ _ _ _ _ _ _ q => q.elim, fun _ _ _ _ _ _ _ q => q.elim⟩⟩
    · show (L2.start N vs).length = (startD N xs).length
      simp [L2.start, startD, el]
    · have get : ∀ {xs : List Vd} {vs : List V}, VAll K G xs vs → ∀ {i : Nat} {y : Vd}, xs[i]? = some y → ∃ v, vs[i]? = some v ∧ VOk K G y v := by
        intro xs vs h
        induction h with
        | nil => intro i y e; simp at e
        | cons h1 _ ih =>
          intro i y e
          cases i with
          | zero =>
            simp at e
            subst e
            exact ⟨_, rfl, h1⟩
          | succ i => exact ih (by simpa using e)
      unfold startD at hy
      unfold L2.start
      by_cases hi : i < xs.length
      · rw [List.getElem?_append_left (by simpa using hi), List.getElem?_map] at hy
        cases q : xs[i]? with
        | none =>
          rw [q] at hy
          cases hy
        | some z =>
          rw [q] at hy
          cases hy
          obtain ⟨v, e1, e2⟩ := get ha q
          exact ⟨v, by rw [List.getElem?_append_left (by simp; omega), List.getElem?_map, e1]; rfl, e2⟩
      · rw [List.getElem?_append_right (by simp; omega)] at hy
        have := List.mem_of_getElem? hy
        rw [List.mem_replicate] at this
        cases this.2
theorem cal_of {P : Program} {w : World} {K : PySem.W.Frag} {mg : Str → Option Value} {base : Heap} {x : Str} {f : Addr} {fd : FuncData} {ps : List Str} {k : Nat} {T : TrD} (ok : FnG P w K mg base CX0 k f fd ps (spW K T)) (g : mg x = some (.ref f)) (kp : PySem.W.keepIn K (.ref f) = true) (b : Binds K fd ps []) :
    Cal P w K mg base k x T := ⟨f, fd, ps, ok, g, kp, b⟩
end
end Ec
set_option Elab.async false
set_option linter.all false
set_option maxRecDepth 100000
set_option maxHeartbeats 4000000
namespace Ec
open PySem PySem.Spec PyProof.Rows L2
section
variable {K : PySem.W.Frag} {μ : Cells} {Q : Vd → Cells → Prop}
inductive Ct (μ : Cells) : Vd → List PyData → Prop
  | l (ds : List PyData) : Ct μ (.d (.list ds)) ds
  | t (ds : List PyData) : Ct μ (.d (.tuple ds)) ds
  | s (ns : List Int) {ds : List PyData} (e : ds = intsD ns := by rfl) : Ct μ (.s ns) ds
  | c (i : Nat) {p : Addr} {ds : List PyData} (h : μ[i]? = some (p, (ds : Cont))) (pl : plS ds := by repeat' first | exact plS_nil | exact plS_map (fun _ => rfl) | refine plS_app ?_ ?_ | refine plS_cons rfl ?_ | assumption) : Ct μ (.a p) ds
theorem Ct.x (ds : List PyData) : Ct μ (.x ds) ds := .t ds
theorem ct_ok {F H : Hp} {x : Vd} {v : V} {ds : List PyData} (m : RpM K F H μ) (o : VOk K F x v) (h : Ct μ x ds) : ∃ a vs, v = .ref a ∧ (SqL K H a vs ∨ SqT K H a vs) ∧ DeAll K F vs ds := by
  cases h with
  | l =>
    obtain ⟨a, vs, e, hs, hd⟩ := dp_lst o
    exact ⟨a, vs, e, .inl (m.ex.seq hs), hd⟩
  | t =>
    obtain ⟨a, vs, e, hs, hd⟩ := dp_tup o
    exact ⟨a, vs, e, .inr (same_t m.ex hs), hd⟩
  | s ns e0 =>
    subst e0
    obtain ⟨a, e, h⟩ := o
    exact ⟨a, _, e, .inl (m.ex.seq h), ints_dps ns⟩
  | c i h pl =>
    obtain ⟨_, vs, e, hd⟩ := m.cel _ _ (List.mem_of_getElem? h)
    replace hd := hd.to pl
    exact ⟨_, vs, o, .inl (.of e), hd⟩
inductive Vw (μ : Cells) : Vd → PyData → Prop
  | d (x : PyData) : Vw μ (.d x) x
  | c (i : Nat) {p : Addr} {ds : List PyData} (h : μ[i]? = some (p, (ds : Cont))) (pl : plS ds := by repeat' first | exact plS_nil | exact plS_map (fun _ => rfl) | refine plS_app ?_ ?_ | refine plS_cons rfl ?_ | assumption) : Vw μ (.a p) (.list ds)
theorem Vw.x (ds : List PyData) : Vw μ (.x ds) (.tuple ds) := .d _
theorem vw_ok {F H : Hp} {x : Vd} {v : V} {d : PyData} (m : RpM K F H μ) (o : VOk K F x v) (h : Vw μ x d) : De K H v d := by
  cases h with
  | d => exact dp_up m.ex _ _ o
  | c i h pl =>
    obtain ⟨_, vs, e, hd⟩ := m.cel _ _ (List.mem_of_getElem? h)
    replace hd := hd.to pl
    rw [show v = .ref _ from o]
    exact .lst e (dps_up m.ex _ _ hd)
section
variable {i j : Int}
def rCatX (K : PySem.W.Frag) : R2 := fun x y H Q => ∃ a b xs ys, x = .ref a ∧ y = .ref b ∧ SqT K H a xs ∧ SqT K H b ys ∧ xs.length + ys.length ≤ sizeLine ∧
  (xs = [] → Q (.ref b) H) ∧ (xs ≠ [] → ys = [] → Q (.ref a) H) ∧ (xs ≠ [] → ys ≠ [] → ∀ p o, o.dict = none → H p = none → Q (.ref p) (upd H p (.frz o (.tup (xs ++ ys)))))
theorem op_catX {X : Cx} : OpR X (binaryOp .Add) (rCatX X.K) := by
  intro pins s σ H x y v u Q I rx ry h
  obtain ⟨a, b, xs, ys, rfl, rfl, ha, hb, hz, q0, q1, q2⟩ := h
  obtain ⟨its, r1, p1, _⟩ := I.tuple ha
  obtain ⟨its2, r2, p2, _⟩ := I.tuple hb
  cases rx
  cases ry
  by_cases hx : xs = []
  · subst hx
    cases r1
    exact cat_tup0 p1 p2 ⟨.ref b, H, I, rfl, q0 rfl⟩
  · have hz2 : its.length + its2.length ≤ sizeLine := by rw [← r1.length, ← r2.length]; exact hz
    refine HT.cat_tup p1 p2 (fun z => hx (r1.nil_iff.mp z)) (fun z => ⟨.ref a, H, I, rfl, q1 hx (r2.nil_iff.mp z)⟩) (fun z => ?_) hz2
    have nf : H s.heap.objs.size = none := I.hok.fresh (Nat.le_refl _)
    have I2 := I.laid (t' := s.toks) (o := .frz _ (.tup (xs ++ ys))) (h' := s.heap.push _) (fun b ob q => Heap.get?_push_of_some _ q) (Nat.le_refl _) ⟨Heap.get?_push_size _ rfl, by rw [List.length_append]; exact hz, _, r1.append r2, IsTup.new _ _⟩
    exact ⟨.ref s.heap.objs.size, _, I2, rfl, q2 hx (fun w => z (r2.nil_iff.mpr w)) _ _ rfl nf⟩
def OAdd (K : PySem.W.Frag) : R2 := fun x y H Q => (rI0 fun i j => .int (i + j)) x y H Q ∨ rCatX K x y H Q ∨ rCat x y H Q ∨ (fun x y H Q => ∃ i j, x = .str i ∧ y = .str j ∧ i.length + j.length ≤ sizeLine ∧ Q (.str (i ++ j)) H) x y H Q
theorem o_add {X : Cx} : OpR X (binaryOp .Add) (OAdd X.K) := op_add.or (op_catX.or (op_cat.or op_add_str))
theorem ow_add (h : Q (.d (.int (i + j))) μ) : OpW K (OAdd K) (.d (.int i)) (.d (.int j)) μ Q := fun F H v u m o1 o2 QV c => .inl ⟨i, j, dp_int o1, dp_int o2, c (.d (.int _)) _ F H μ Fw.refl m (.int _) h⟩
theorem ow_sub (h : Q (.d (.int (i - j))) μ) : OpW K (rI0 fun i j => .int (i - j)) (.d (.int i)) (.d (.int j)) μ Q := fun F H v u m o1 o2 QV c => ⟨i, j, dp_int o1, dp_int o2, c (.d (.int _)) _ F H μ Fw.refl m (.int _) h⟩
theorem ow_cmp {p : Int → Int → Bool} (h : Q (.d (.bool (p i j))) μ) : OpW K (rI0 fun i j => .bl (p i j)) (.d (.int i)) (.d (.int j)) μ Q := fun F H v u m o1 o2 QV c => ⟨i, j, dp_int o1, dp_int o2, c (.d (.bool _)) _ F H μ Fw.refl m (.bl _) h⟩
theorem ow_cnd {C : Int → Int → Prop} {g : Int → Int → Int} (hc : C i j) (h : Q (.d (.int (g i j))) μ) : OpW K (rI C fun i j => .int (g i j)) (.d (.int i)) (.d (.int j)) μ Q := fun F H v u m o1 o2 QV c => ⟨i, j, dp_int o1, dp_int o2, hc, c (.d (.int _)) _ F H μ Fw.refl m (.int _) h⟩
def OMul (K : PySem.W.Frag) : R2 := fun x y H Q => (rI CMul fun i j => .int (i * j)) x y H Q ∨ rRepT K x y H Q ∨ rRep x y H Q
theorem o_mul {X : Cx} : OpR X (binaryOp .Mult) (OMul X.K) := op_mul.or (op_repT.or op_rep)
theorem ow_mul (hc : CMul i j) (h : Q (.d (.int (i * j))) μ) : OpW K (OMul K) (.d (.int i)) (.d (.int j)) μ Q := fun F H v u m o1 o2 QV c => .inl ⟨i, j, dp_int o1, dp_int o2, hc, c (.d (.int _)) _ F H μ Fw.refl m (.int _) h⟩
theorem uw_neg (h : Q (.d (.int (-i))) μ) : UnW K (rU fun i => .int (-i)) (.d (.int i)) μ Q := fun F H v m o1 QV c => ⟨i, dp_int o1, c (.d (.int _)) _ F H μ Fw.refl m (.int _) h⟩
end
theorem ow_catL {ds es : List PyData} (hl : ds.length + es.length ≤ 100000) (h : ∀ r, Q (.a r) ((r, ds ++ es) :: μ)) : OpW K (OAdd K) (.d (.list ds)) (.d (.list es)) μ Q := fun F H v u m o1 o2 QV c => by
  obtain ⟨a, vs, rfl, h1, d1⟩ := dp_lstX o1
  obtain ⟨b, us, rfl, h2, d2⟩ := dp_lstX o2
  refine .inr (.inr (.inl ⟨a, b, vs, us, rfl, rfl, m.ex _ _ h1, m.ex _ _ h2, by rw [dps_len d1, dps_len d2]; exact Nat.le_trans hl (by decide), fun r nr => ?_⟩))
  obtain ⟨m2, w2⟩ := m.cell nr (dps_app d1 d2)
  exact c (.a r) _ _ _ _ w2 m2 rfl (h r)
theorem ow_repL {k : Int} {ds : List PyData} (h0 : 0 ≤ k) (h1 : k ≤ 1000) (hz : ds.length * k.toNat ≤ 100000) (h : ∀ r, Q (.a r) ((r, (List.replicate k.toNat ds).flatten) :: μ)) : OpW K (OMul K) (.d (.list ds)) (.d (.int k)) μ Q := fun F H v u m o1 o2 QV c => by
  obtain ⟨a, vs, rfl, g1, d1⟩ := dp_lstX o1
  refine .inr (.inr ⟨a, k, vs, rfl, dp_int o2, m.ex _ _ g1, by omega, by omega, by rw [dps_len d1]; exact Nat.le_trans hz (by decide), fun r nr => ?_⟩)
  have hd : ∀ n : Nat, DeAll K F (List.replicate n vs).flatten (List.replicate n ds).flatten := fun n => by
    induction n with
    | zero => exact .nil
    | succ n ih =>
      rw [List.replicate_succ, List.replicate_succ, List.flatten_cons, List.flatten_cons]
      exact dps_app d1 ih
  obtain ⟨m2, w2⟩ := m.cell nr (hd k.toNat)
  exact c (.a r) _ _ _ _ w2 m2 rfl (h r)
theorem ow_eq {x y : Vd} {d e : PyData} (hx : Vw μ x d) (hy : Vw μ y e) (sd : SeqAt.shaped d = true) (se : SeqAt.shaped e = true) (h : Q (.d (.bool (PyData.eqv d e))) μ) : OpW K (rEqD K) x y μ Q := fun F H v u m o1 o2 QV c =>
  ⟨d, e, (vw_ok m o1 hx).dp, (vw_ok m o2 hy).dp, sd, se, c (.d (.bool _)) _ F H μ Fw.refl m (.bl _) h⟩
theorem ow_ne {x y : Vd} {d e : PyData} (hx : Vw μ x d) (hy : Vw μ y e) (sd : SeqAt.shaped d = true) (se : SeqAt.shaped e = true) (h : Q (.d (.bool (!PyData.eqv d e))) μ) : OpW K (rNeD K) x y μ Q := fun F H v u m o1 o2 QV c =>
  ⟨d, e, (vw_ok m o1 hx).dp, (vw_ok m o2 hy).dp, sd, se, c (.d (.bool _)) _ F H μ Fw.refl m (.bl _) h⟩
def isNone : PyData → Bool
  | .none => true
  | _ => false
theorem ow_isN {d : PyData} (h : Q (.d (.bool (isNone d))) μ) : OpW K (fun x y H Q => y = .non ∧ Q (.bl (decide (x = .non))) H) (.d d) (.d .none) μ Q := fun F H v u m o1 o2 QV c => by
  refine ⟨dp_non o2, c (.d (.bool _)) _ F H μ Fw.refl m ?_ h⟩
  show De K F (.bl (decide (v = .non))) _
  cases o1 <;> exact .bl _
theorem ow_ix {x : Vd} {i : Int} {d : PyData} {ds : List PyData} (hx : Ct μ x ds) (ha : atI ds i = some d) (h : Q (.d d) μ) : OpW K (rIx K) x (.d (.int i)) μ Q := fun F H v u m o1 o2 QV c => by
  obtain ⟨a, vs, rfl, hs, hd⟩ := ct_ok m o1 hx
  have hv : ∃ w, atI vs i = some w ∧ De K F w d := by
    unfold atI at ha ⊢
    rw [dps_len hd]
    cases q : ixN ds.length i with
    | none =>
      rw [q] at ha
      cases ha
    | some j =>
      rw [q] at ha
      exact dps_get hd ha
  obtain ⟨w, hw, ow⟩ := hv
  have fin : QV w H := c (.d _) _ F H μ Fw.refl m ow h
  rcases hs with hs | hs
  · exact .inl ⟨a, vs, i, w, rfl, dp_int o2, hs, hw, fin⟩
  · exact .inr (.inl ⟨a, vs, i, w, rfl, dp_int o2, hs, hw, fin⟩)
end
end Ec
set_option Elab.async false
set_option linter.all false
set_option maxRecDepth 100000
set_option maxHeartbeats 4000000
namespace Ec
open PySem PySem.Spec PyProof.Rows L2
structure Bl (mg : Str → Option Value) : Prop where
  len : mg "len" = none
  range : mg "range" = none
  list : mg "list" = none
  tuple : mg "tuple" = none
  sorted : mg "sorted" = none
  all : mg "all" = none
  any : mg "any" = none
  isi : mg "isinstance" = none
  min : mg "min" = none
  max : mg "max" = none
  abs : mg "abs" = none
  int : mg "int" = none
  str : mg "str" = none
  repr : mg "repr" = none
  set : mg "set" = none
  sum : mg "sum" = none
  enum : mg "enumerate" = none
  zip : mg "zip" = none
  bool : mg "bool" = none
  dict : mg "dict" = none
section
variable {X : Cx} {δ : Dl} {μ : Cells} {e a b : Expr} {pos p : Pos} {Q : Vd → Cells → Prop} {es : List Expr} {mg : Str → Option Value}
theorem we_cb {id : String} {x : Str} {r : List V → Hp → VK → Prop} (hc : CallR X (.builtin id) r) (hg : Gl X x) (hm : X.mg x = none) (hv : bootBuiltins x = some (.builtin id)) (h : WA X (e :: es) δ μ fun xs μ1 => CaW X.K r xs μ1 Q) (hn : x ≠ "__name__" := by decide) (hdb : (x == ("__debug__" : Str)) = false := by decide)
    (he : starEach (e :: es) X.env = (false, eval e X.env) :: starEach es X.env := by rfl) (hpl : (backTo pos (starEach es X.env)).any (·.1) = false := by rfl) : WE X (.Call (.Name x p) (e :: es) [] pos) δ μ Q := fun F H σ R QV c =>
  toE (pe_callB hc hg hm hv (pcA X (e :: es)) hn hdb he hpl) (h F H σ R _ fun vs xs F1 H1 μ1 w1 R1 o1 q => q F1 H1 vs R1.m o1 _ fun z w F3 H3 μ3 w3 m3 o3 q3 => c w z F3 H3 μ3 (w1.trans w3) (R1.to w3.f m3) o3 q3)
theorem we_ct {T : String} {x : Str} {r : List V → Hp → VK → Prop} (hc : CallR X (.type T) r) (hg : Gl X x) (hm : X.mg x = none) (hv : bootBuiltins x = some (.type T)) (h : WA X (e :: es) δ μ fun xs μ1 => CaW X.K r xs μ1 Q) (hn : x ≠ "__name__" := by decide) (hdb : (x == ("__debug__" : Str)) = false := by decide)
    (he : starEach (e :: es) X.env = (false, eval e X.env) :: starEach es X.env := by rfl) (hpl : (backTo pos (starEach es X.env)).any (·.1) = false := by rfl) : WE X (.Call (.Name x p) (e :: es) [] pos) δ μ Q := fun F H σ R QV c =>
  toE (pe_callTy hc hg hm hv (pcA X (e :: es)) hn hdb he hpl) (h F H σ R _ fun vs xs F1 H1 μ1 w1 R1 o1 q => q F1 H1 vs R1.m o1 _ fun z w F3 H3 μ3 w3 m3 o3 q3 => c w z F3 H3 μ3 (w1.trans w3) (R1.to w3.f m3) o3 q3)
theorem wa_one {QA : List Vd → Cells → Prop} (h : WE X e δ μ fun x μ1 => QA [x] μ1) (hs : starEach [e] X.env = (false, eval e X.env) :: starEach [] X.env := by rfl) : WA X [e] δ μ QA := wa_cons (h.mono fun x μ1 q => wa_nil q) hs
theorem wa_two {QA : List Vd → Cells → Prop} (h : WE X a δ μ fun x μ1 => WE X b δ μ1 fun y μ2 => QA [x, y] μ2) (hs : starEach [a, b] X.env = (false, eval a X.env) :: starEach [b] X.env := by rfl) (hs2 : starEach [b] X.env = (false, eval b X.env) :: starEach [] X.env := by rfl) :
    WA X [a, b] δ μ QA := wa_cons (h.mono fun x μ1 q => wa_one q hs2) hs
theorem we_len (B : Bl mg) (hg : Gl X "len") (h : WE X e δ μ fun x μ1 => ∃ ds, Ct μ1 x ds ∧ Q (.d (.int (ds.length : Int))) μ1) (hm : X.mg = mg := by rfl) (s1 : starEach [e] X.env = (false, eval e X.env) :: starEach [] X.env := by rfl) (s2 : (backTo pos (starEach [] X.env)).any (·.1) = false := by rfl) :
    WE X (.Call (.Name "len" p) [e] [] pos) δ μ Q :=
  we_cb call_len_seq hg (hm ▸ B.len) PySem.boot_len (wa_one (h.mono fun x μ1 q => fun F H vs m o QV c => by
    obtain ⟨ds, ct, q⟩ := q
    cases o with
    | cons o1 o2 =>
      cases o2
      obtain ⟨a, us, rfl, hs, hd⟩ := ct_ok m o1 ct
      refine ⟨a, us, rfl, hs, ?_⟩
      rw [dps_len hd]
      exact c (.d (.int _)) _ F H μ1 Fw.refl m (.int _) q) s1) (he := s1) (hpl := s2)
def srt (ns : List Int) : List Int := ns.mergeSort (fun a b => decide (a ≤ b))
theorem srt_perm (ns : List Int) : (srt ns).Perm ns := List.mergeSort_perm ns _
theorem srt_up (ns : List Int) : (srt ns).Pairwise (· ≤ ·) := by
  have h := List.pairwise_mergeSort (le := fun (a b : Int) => decide (a ≤ b)) (fun a b c h1 h2 => decide_eq_true (Int.le_trans (of_decide_eq_true h1) (of_decide_eq_true h2)))
    (fun a b => by
      rcases Int.le_total a b with h | h
      · simp [h]
      · simp [h]) ns
  exact h.imp fun h => of_decide_eq_true h
theorem srt_one {as bs : List Int} (p : as.Perm bs) (h1 : as.Pairwise (· ≤ ·)) (h2 : bs.Pairwise (· ≤ ·)) : as = bs := p.eq_of_pairwise (fun a b _ _ x y => Int.le_antisymm x y) h1 h2
abbrev blsD (bs : List Bool) : List PyData := bs.map PyData.bool
theorem ct_lst {K : PySem.W.Frag} {F H : Hp} {x : Vd} {v : V} {ds : List PyData} (m : RpM K F H μ) (o : VOk K F x v) (ct : Ct μ x ds) (nt : ∀ ds, toC x ≠ .tuple ds) : ∃ a us, v = .ref a ∧ SqL K H a us ∧ DeAll K F us ds := by
  cases ct with
  | l =>
    obtain ⟨a, us, e1, hs, hd⟩ := dp_lst o
    exact ⟨a, us, e1, m.ex.seq hs, hd⟩
  | t => exact absurd rfl (nt _)
  | s ns e0 =>
    subst e0
    obtain ⟨a, e, hs⟩ := o
    exact ⟨a, _, e, m.ex.seq hs, ints_dps ns⟩
  | c i hi pl =>
    obtain ⟨_, us, e1, hd⟩ := m.cel _ _ (List.mem_of_getElem? hi)
    exact ⟨_, us, o, .of e1, hd.to pl⟩
theorem we_all (B : Bl mg) (hg : Gl X "all") (hc : X.calm = true) (h : WE X e δ μ fun x μ1 => ∃ bs, Ct μ1 x (blsD bs) ∧ (∀ ds, toC x ≠ .tuple ds) ∧ Q (.d (.bool (bs.all id))) μ1) (hm : X.mg = mg := by rfl) (s1 : starEach [e] X.env = (false, eval e X.env) :: starEach [] X.env := by rfl) (s2 : (backTo pos (starEach [] X.env)).any (·.1) = false := by rfl) :
    WE X (.Call (.Name "all" p) [e] [] pos) δ μ Q :=
  we_cb (cr_all hc) hg (hm ▸ B.all) PyProof.Rows.boot_all (wa_one (h.mono fun x μ1 q => fun F H vs m o QV c => by
    obtain ⟨bs, ct, nt, q⟩ := q
    cases o with
    | cons o1 o2 =>
      cases o2
      obtain ⟨a, us, rfl, hs, hd⟩ := ct_lst m o1 ct nt
      rw [dps_bls hd] at hs
      exact ⟨a, bs, rfl, hs, c (.d (.bool _)) _ F H μ1 Fw.refl m (.bl _) q⟩) s1) (he := s1) (hpl := s2)
theorem we_abs (B : Bl mg) (hg : Gl X "abs") (h : WE X e δ μ fun x μ1 => ∃ i : Int, x = .d (.int i) ∧ Q (.d (.int (if i < 0 then -i else i))) μ1) (hm : X.mg = mg := by rfl) (s1 : starEach [e] X.env = (false, eval e X.env) :: starEach [] X.env := by rfl) (s2 : (backTo pos (starEach [] X.env)).any (·.1) = false := by rfl) :
    WE X (.Call (.Name "abs" p) [e] [] pos) δ μ Q :=
  we_cb call_abs hg (hm ▸ B.abs) PyProof.Rows.boot_abs (wa_one (h.mono fun x μ1 q => fun F H vs m o QV c => by
    obtain ⟨i, rfl, q⟩ := q
    cases o with
    | cons o1 o2 =>
      cases o2
      exact ⟨i, by rw [dp_int o1], c (.d (.int _)) _ F H μ1 Fw.refl m (.int _) q⟩) s1) (he := s1) (hpl := s2)
theorem we_intB (B : Bl mg) (hg : Gl X "int") (h : WE X e δ μ fun x μ1 => ∃ k, x = .d (.bool k) ∧ Q (.d (.int (if k then 1 else 0))) μ1) (hm : X.mg = mg := by rfl) (s1 : starEach [e] X.env = (false, eval e X.env) :: starEach [] X.env := by rfl) (s2 : (backTo pos (starEach [] X.env)).any (·.1) = false := by rfl) :
    WE X (.Call (.Name "int" p) [e] [] pos) δ μ Q :=
  we_ct call_int1 hg (hm ▸ B.int) PyProof.Rows.boot_int (wa_one (h.mono fun x μ1 q => fun F H vs m o QV c => by
    obtain ⟨k, rfl, q⟩ := q
    cases o with
    | cons o1 o2 =>
      cases o2
      exact .inr ⟨k, by rw [dp_bl o1], c (.d (.int _)) _ F H μ1 Fw.refl m (.int _) q⟩) s1) (he := s1) (hpl := s2)
theorem we_min2 (B : Bl mg) (hg : Gl X "min") (hc : X.calm = true) (h : WE X a δ μ fun x μ1 => WE X b δ μ1 fun y μ2 => ∃ i j : Int, x = .d (.int i) ∧ y = .d (.int j) ∧ Q (.d (.int (if j < i then j else i))) μ2) (hm : X.mg = mg := by rfl)
    (s1 : starEach [a, b] X.env = (false, eval a X.env) :: starEach [b] X.env := by rfl) (s2 : starEach [b] X.env = (false, eval b X.env) :: starEach [] X.env := by rfl) (s3 : (backTo pos (starEach [b] X.env)).any (·.1) = false := by rfl) :
    WE X (.Call (.Name "min" p) [a, b] [] pos) δ μ Q :=
  we_cb (call_min2 hc) hg (hm ▸ B.min) PyProof.Rows.boot_min (wa_two (h.mono fun x μ1 q => q.mono fun y μ2 q => fun F H vs m o QV c => by
    obtain ⟨i, j, rfl, rfl, q⟩ := q
    cases o with
    | cons o1 o2 =>
      cases o2 with
      | cons o2 o3 =>
        cases o3
        exact ⟨i, j, by rw [dp_int o1, dp_int o2], c (.d (.int _)) _ F H μ2 Fw.refl m (.int _) q⟩) s1 s2) (he := s1) (hpl := s3)
inductive Lk (μ : Cells) : Vd → Prop
  | d (ds : List PyData) : Lk μ (.d (.list ds))
  | c (i : Nat) {p : Addr} {ds : List PyData} (h : μ[i]? = some (p, (ds : Cont))) : Lk μ (.a p)
theorem lk_ok {K : PySem.W.Frag} {F H : Hp} {x : Vd} {v : V} (m : RpM K F H μ) (o : VOk K F x v) (h : Lk μ x) : ∃ a us, v = .ref a ∧ SqL K H a us := by
  cases h with
  | d =>
    obtain ⟨a, us, e1, hs, _⟩ := dp_lst o
    exact ⟨a, us, e1, m.ex.seq hs⟩
  | c i hi =>
    obtain ⟨_, us, e1, _⟩ := m.cel _ _ (List.mem_of_getElem? hi)
    exact ⟨_, us, o, .of e1⟩
def MtW (K : PySem.W.Frag) (r : V → List V → Hp → VK → Prop) (x : Vd) (xs : List Vd) (μ : Cells) (Q : Vd → Cells → Prop) : Prop := ∀ F H v vs, RpM K F H μ → VOk K F x v → VAll K F xs vs → ∀ QV : VK,
  (∀ z w F' H' μ', Fw (ks μ) (ks μ') F H F' H' → RpM K F' H' μ' → VOk K F' z w → Q z μ' → QV w H') → r v vs H QV
theorem we_bmL {name : Str} {id : String} {apos cpos : Pos} {o : Expr} {r : V → List V → Hp → VK → Prop} (pa : PlainAttrs "list") (slot : Slot "list" name id) (hty : typeOf (.builtin id) = pure (.type "method_descriptor")) (hm : MtR X id r)
    (h : WE X o δ μ fun x μ1 => Lk μ1 x ∧ WA X (e :: es) δ μ1 fun xs μ2 => MtW X.K r x xs μ2 Q)
    (hbase : attributeBase o name X.env (eval o X.env) = eval o X.env := by rfl)
    (hfew : ((backTo cpos (starEach (e :: es) X.env)).all (fun x => !x.1) && (backToKw cpos (keywordEach [] X.env)).all (fun x => x.1.isSome)
      && decide ((e :: es).length + ([] : List Keyword).length + (if ([] : List Keyword).isEmpty then 0 else 1) < 30)) = true := by rfl)
    (hline : (apos.endLine == cpos.line) = true := by rfl) (hs : starEach (e :: es) X.env = (false, eval e X.env) :: starEach es X.env := by rfl) (hplain : (backTo cpos (starEach es X.env)).any (·.1) = false := by rfl) :
    WE X (.Call (.Attribute o name apos) (e :: es) [] cpos) δ μ Q := fun F H σ R QV c =>
  toE (pe_bm pa slot hty hm (pcE X o) (pcA X (e :: es)) hbase hfew hline hs hplain) (h F H σ R _ fun v x F1 H1 μ1 w1 R1 o1 q => by
    obtain ⟨ct, q⟩ := q
    obtain ⟨a, us, rfl, hl⟩ := lk_ok R1.m o1 ct
    exact ⟨.inl ⟨rfl, us, hl⟩, q F1 H1 σ R1 _ fun vs xs F2 H2 μ2 w2 R2 o2 q2 => q2 F2 H2 _ vs R2.m (o1.up w2.f) o2 _ fun z w F3 H3 μ3 w3 m3 o3 q3 => c w z F3 H3 μ3 ((w1.trans w2).trans w3) (R2.to w3.f m3) o3 q3⟩)
theorem mw_append {K : PySem.W.Frag} {p : Addr} {ds : List PyData} {y : PyData} (i : Nat) (hi : μ[i]? = some (p, (ds : Cont))) (hz : ds.length < 100000) (h : Q (.d .none) (μ.set i (p, ds ++ [y]))) : MtW K rAppend (.a p) [.d y] μ Q := fun F H v vs m o1 o2 QV c => by
  cases o2 with
  | cons o2 o3 =>
    cases o3
    obtain ⟨_, us, e1, hd⟩ := m.cel _ _ (List.mem_of_getElem? hi)
    obtain ⟨m2, w2⟩ := m.setCQ (es := ds ++ [y]) hi (dqs_app hd (.cons (.d o2) .nil))
    exact ⟨p, us, _, o1, rfl, e1, by rw [dqs_len hd]; exact Nat.lt_of_lt_of_le hz (by decide), c (.d .none) _ _ _ _ w2 m2 .non h⟩
theorem we_append {o : Expr} {apos cpos : Pos} (h : WE X o δ μ fun x μ1 => ∃ (p : Addr) (ds : List PyData), (∃ i : Nat, μ1[i]? = some (p, (ds : Cont))) ∧ x = .a p ∧ WE X e δ μ1 fun y μ2 => ∃ (yd : PyData) (ds : List PyData) (i : Nat), y = .d yd ∧ μ2[i]? = some (p, (ds : Cont)) ∧ ds.length < 100000 ∧ Q (.d .none) (μ2.set i (p, ds ++ [yd])))
    (hbase : attributeBase o "append" X.env (eval o X.env) = eval o X.env := by rfl)
    (hfew : ((backTo cpos (starEach [e] X.env)).all (fun x => !x.1) && (backToKw cpos (keywordEach [] X.env)).all (fun x => x.1.isSome)
      && decide ([e].length + ([] : List Keyword).length + (if ([] : List Keyword).isEmpty then 0 else 1) < 30)) = true := by rfl)
    (hline : (apos.endLine == cpos.line) = true := by rfl) (hs : starEach [e] X.env = (false, eval e X.env) :: starEach [] X.env := by rfl) (hplain : (backTo cpos (starEach [] X.env)).any (·.1) = false := by rfl) :
    WE X (.Call (.Attribute o "append" apos) [e] [] cpos) δ μ Q :=
  we_bmL PySem.F.plainAttrs_list PySem.F.slot_list_append PySem.F.type_list_append mt_append (h.mono fun x μ1 q => by
    obtain ⟨p, ds, ⟨i, hi⟩, rfl, q⟩ := q
    refine ⟨.c i hi, wa_one (q.mono fun y μ2 q => ?_) hs⟩
    obtain ⟨yd, ds', j, rfl, hj, hz, q⟩ := q
    exact mw_append j hj hz q) hbase hfew hline hs hplain
theorem wg_setL {is : List Nat} {o i : Expr} {x : PyData} {G : Dl → Cells → Prop} (h : WE X o δ μ fun y μ1 => WE X i δ μ1 fun z μ2 => ∃ (p : Addr) (ds : List PyData) (k j : Nat), y = .a p ∧ z = .d (.int (k : Int)) ∧ μ2[j]? = some (p, (ds : Cont)) ∧ k < ds.length ∧ G δ (μ2.set j (p, ds.set k x)))
    (ha : ∀ v, assign (.Subscript o i pos) X.env v = (do
      let ov ← holding [v] (eval o X.env)
      let iv ← holding [v, ov] (eval i X.env)
      standAt pos
      holding [v, ov, iv] (setItem ov iv v)
      release [v, ov, iv] []) := by intro _; rfl) : WGo X is (.Subscript o i pos) (.d x) δ μ G := fun F H σ R v ov QV c =>
  toG (pg_sub (pcE X o) (pcE X i) set_list ha) (h F H σ R _ fun v1 y F1 H1 μ1 w1 R1 o1 q => q F1 H1 σ R1 _ fun v2 z F2 H2 μ2 w2 R2 o2 q => by
    obtain ⟨p, ds, k, j, rfl, rfl, hj, hk, q⟩ := q
    obtain ⟨_, us, e1, hd⟩ := R2.m.cel _ _ (List.mem_of_getElem? hj)
    have hv : De X.K F2 v x := dp_up (w1.f.trans w2.f) _ _ ov
    obtain ⟨m2, w3⟩ := R2.m.setCQ (es := ds.set k x) hj (dqs_set (.d hv) k hd)
    refine ⟨p, us, (k : Int), k, (o1 : v1 = .ref p), dp_int o2, e1, ?_, ?_⟩
    · unfold ixN
      rw [if_pos (by omega), if_pos (by rw [dqs_len hd]; omega)]
      simp
    · exact c F2 _ σ δ _ ((w1.trans w2).trans w3) (R2.to w3.f m2) Only.refl q)
end
end Ec
set_option Elab.async false
set_option linter.all false
set_option maxRecDepth 100000
set_option maxHeartbeats 4000000
namespace Ec
open PySem PySem.Spec PyProof.Rows L2
inductive Lent (p : Addr) (ds : List PyData) : List Vd → List Vd → Prop
  | nil : Lent p ds [] []
  | keep {x : Vd} {xs ys : List Vd} : Lent p ds xs ys → Lent p ds (x :: xs) (x :: ys)
  | lend {xs ys : List Vd} : Lent p ds xs ys → Lent p ds (.a p :: xs) (.d (.list ds) :: ys)
theorem Lent.ok {K : PySem.W.Frag} {F F' : Hp} {p : Addr} {ds : List PyData} (f : Same F F') (hp : De K F' (.ref p) (.list ds)) : ∀ {xs ys : List Vd} {vs : List V}, Lent p ds xs ys → VAll K F xs vs → VAll K F' ys vs
  | _, _, _, .nil, h => by
    cases h
    exact .nil
  | _, _, _, .keep l, h => by
    cases h with
    | cons h1 h2 => exact .cons (h1.up f) (Lent.ok f hp l h2)
  | _, _, _, .lend l, h => by
    cases h with
    | cons h1 h2 =>
      rw [show _ = V.ref p from h1]
      exact .cons hp (Lent.ok f hp l h2)
section
variable {X : Cx} {δ : Dl} {μ : Cells} {e a b : Expr} {pos p : Pos} {Q : Vd → Cells → Prop}
theorem we_callP {P : Program} {w : World} {K : PySem.W.Frag} {mg : Str → Option Value} {base : Heap} {T : TrD} {k : Nat} {x : Str} {es : List Expr} (c : Cal P w K mg base k x T) (hr : Room k X.A) (hg : Gl X x) (h : WA X (e :: es) δ μ fun xs μ1 => T xs [] fun z μ' => Q z (μ' ++ μ1))
    (hgd : X.A.guards = some [] := by assumption) (hX : (X.prog, X.w, X.K, X.mg, X.base) = (P, w, K, mg, base) := by rfl)
    (hdb : (x == ("__debug__" : Str)) = false := by decide) (he : starEach (e :: es) X.env = (false, eval e X.env) :: starEach es X.env := by rfl) (hpl : (backTo pos (starEach es X.env)).any (·.1) = false := by rfl) :
    WE X (.Call (.Name x p) (e :: es) [] pos) δ μ Q := by
  cases hX
  refine we_call c hr hg (fun F H σ R QV kk => h F H σ R QV fun vs xs F1 H1 μ1 w1 R1 o1 q => kk vs xs F1 H1 μ1 w1 R1 o1 ⟨[], μ1, rfl, q⟩) hgd hdb he hpl
theorem perm_set {α : Type} : ∀ {l : List α} {i : Nat} (h : i < l.length) (y : α), (l.set i y).Perm (y :: l.eraseIdx i)
  | x :: r, 0, _, y => List.Perm.refl _
  | x :: r, i + 1, h, y => ((perm_set (l := r) (i := i) (Nat.lt_of_succ_lt_succ h) y).cons x).trans (List.Perm.swap _ _ _)
theorem we_callB {P : Program} {w : World} {K : PySem.W.Frag} {mg : Str → Option Value} {base : Heap} {T : TrD} {k : Nat} {x : Str} {es : List Expr} (i : Nat) (c : Cal P w K mg base k x T) (hr : Room k X.A) (hg : Gl X x)
    (h : WA X (e :: es) δ μ fun xs μ1 => ∃ (q : Addr) (ds : Cont), μ1[i]? = some (q, ds) ∧ T xs [(q, ds)] fun z μ' => ∃ (new : Cells) (ds' : Cont), μ' = new ++ ([(q, ds')] : Cells) ∧ Q z (new ++ μ1.set i (q, ds'))) (hgd : X.A.guards = some [] := by assumption) (hX : (X.prog, X.w, X.K, X.mg, X.base) = (P, w, K, mg, base) := by rfl)
    (hdb : (x == ("__debug__" : Str)) = false := by decide) (he : starEach (e :: es) X.env = (false, eval e X.env) :: starEach es X.env := by rfl) (hpl : (backTo pos (starEach es X.env)).any (·.1) = false := by rfl) :
    WE X (.Call (.Name x p) (e :: es) [] pos) δ μ Q := fun F H σ R QV kk => by
  obtain ⟨f, fd, ps, ok, hm, hk, hb⟩ := c
  cases hX
  refine toE (pe_callg ok hr hgd hg hm hk hb pass0 (pcA X (e :: es)) hdb he hpl) (h F H σ R _ fun vs xs F1 H1 μ1 w1 R1 o1 q => ?_)
  obtain ⟨q, ds, hi, q0⟩ := q
  have hlt := (List.getElem?_eq_some_iff.mp hi).1
  have pm : μ1.Perm ([(q, ds)] ++ μ1.eraseIdx i) := by
    obtain ⟨hlt, e⟩ := List.getElem?_eq_some_iff.mp hi
    rw [← e]
    exact perm_erase hlt
  have w1p := w1.perm (K := X.K) pm
  have R1p := R1.perm pm
  refine ⟨F1, xs, [(q, ds)], _, R1p.m.left, o1, q0, fun v z F2 H2 μ2 w2 m2 o2 q2 => ?_⟩
  obtain ⟨new, ds', rfl, q3⟩ := q2
  obtain ⟨m3, w3⟩ := R1p.m.frame w2 m2
  have pm2 : (new ++ [(q, ds')] ++ μ1.eraseIdx i).Perm (new ++ μ1.set i (q, ds')) := by
    rw [List.append_assoc]
    exact List.Perm.append_left new (perm_set hlt (q, ds')).symm
  exact kk v z F2 H2 _ ((w1p.trans w3).perm (K := X.K) pm2) (R1p.to w2.f (m3.perm pm2) |>.to (Same.refl _) (m3.perm pm2)) o2 q3
end
local macro_rules | `(tactic| walk_at "vis") => `(tactic| first | exact Or.inl rfl | exact Or.inr (Or.inl rfl) | exact Or.inr (Or.inr rfl))
end Ec
set_option Elab.async false
set_option linter.all false
set_option maxRecDepth 100000
set_option maxHeartbeats 4000000
namespace Ec
open PySem PySem.Spec PyProof.Rows L2
section
variable {X : Cx} {δ : Dl} {μ : Cells} {e a b : Expr} {pos p : Pos} {Q : Vd → Cells → Prop}
theorem wb_names {N : List Str} {st : List Stmt} {D : Dn} (hN : X.N = N) (k : (∀ (i : Nat) x, N[i]? = some x → X.N[i]? = some x) → WB X st δ μ D) : WB X st δ μ D := k (by rw [hN]; exact fun _ _ h => h)
theorem lcW {α : Type} (ι : α → PyData) (t : α → Bool) (g : α → PyData) {elt tg iter : Expr} {ifs : List Expr} {scope : Scope} {own : List (Str × Nat)}
    (h : WI X tg iter δ μ fun ds μ1 => ∃ xs : List α, ds = xs.map ι ∧ xs.length ≤ 100000 ∧ (∀ x ∈ xs, Blk X scope fun Y => WGo Y (own.map (·.2)) tg (.w (ι x)) (wipeD δ (own.map (·.2))) μ1 fun δ2 μ2 => Blk X scope fun Y => WTs Y ifs δ2 μ2 fun k μ3 => k = t x ∧
        if k = true then Blk X scope fun Y => WE Y elt δ2 μ3 fun y μ4 => y = .d (g x) ∧ μ4 = μ1 else μ3 = μ1) ∧ ∀ q, Q (.a q) ((q, (xs.filter t).map g) :: μ1)) : LcPg Vd.w X scope own elt tg iter ifs δ μ Q := by
  intro F H σ R RV c
  refine h F H σ R RV fun J ds F' H' μ' w r wk q => c J ds F' H' μ' w r wk ?_
  obtain ⟨xs, rfl, hz, hx, hq⟩ := q
  refine ⟨fun i acc μ2 => μ2 = μ' ∧ acc = ((xs.take i).filter t).map g, ⟨rfl, by simp⟩, by rw [List.length_map]; exact hz, fun i acc μ2 q => ?_, fun i d acc μ2 hd q => ?_, fun acc μ2 q p => ?_⟩
  · rw [q.2, List.length_map]
    refine Nat.le_trans (List.length_filter_le _ _) ?_
    rw [List.length_take]
    exact Nat.min_le_left _ _
  · obtain ⟨rfl, rfl⟩ := q
    rw [List.getElem?_map] at hd
    cases q : xs[i]? with
    | none =>
      rw [q] at hd
      cases hd
    | some x =>
      rw [q] at hd
      cases hd
      have tk : xs.take (i + 1) = xs.take i ++ [x] := by rw [List.take_add_one, q]; rfl
      intro s H C cl fp F0 H0 σ0 R0 v o QV c
      refine hx x (List.mem_of_getElem? q) s H C cl fp F0 H0 σ0 R0 v o QV fun F1 H1 σ1 δ1 μ1 w1 R1 y1 q1 => c F1 H1 σ1 δ1 μ1 w1 R1 y1 ?_
      have fin : ∀ k μ3, (k = t x ∧ if k = true then Blk X scope fun Y => WE Y elt δ1 μ3 fun y μ4 => y = .d (g x) ∧ μ4 = μ2 else μ3 = μ2) →
          (if k = true then Blk X scope fun Y => WE Y elt δ1 μ3 fun y μ4 => ∃ yd, y = .d yd ∧ μ4 = μ2 ∧ ((xs.take i).filter t).map g ++ [yd] = ((xs.take (i + 1)).filter t).map g else μ3 = μ2 ∧ ((xs.take i).filter t).map g = ((xs.take (i + 1)).filter t).map g) := by
        intro k μ3 ⟨ek, q⟩
        rw [tk, List.filter_append, List.map_append]
        cases k with
        | true =>
          rw [if_pos rfl] at q ⊢
          intro s H C cl fp
          refine (q s H C cl fp).mono fun y μ4 q => ⟨_, q.1, q.2, ?_⟩
          simp [← ek]
        | false =>
          rw [if_neg (by decide)] at q ⊢
          refine ⟨q, ?_⟩
          simp [← ek]
      intro s H C cl fp
      have h1 := q1 s H C cl fp
      match ifs, h1 with
      | [], h1 => exact fin _ _ h1
      | [cnd], h1 => exact (show WT _ cnd δ1 μ1 _ from h1).mono fun k μ3 q => fin k μ3 q
      | _ :: _ :: _, h1 => exact h1
  · obtain ⟨rfl, rfl⟩ := q
    rw [List.length_map, List.take_length]
    exact hq p
end
abbrev Co := List (List Int × Int)
def SqD (d : PyData) (ds : List PyData) : Prop := d = .list ds ∨ d = .tuple ds
def fr (c : Co) (p : Int) : List Int := (c.getD p.toNat ([], 0)).1
def nd (c : Co) (p : Int) : Int := (c.getD p.toNat ([], 0)).2
def cnt (c : Co) (t : List Int) (p : Int) : Int := (((fr c p).filter fun x => decide (x ∈ t)).length : Nat)
def comes (c : Co) (t : List Int) (p : Int) : Bool := decide (nd c p ≤ cnt c t p)
def rng (n : Nat) : List Int := (List.range n).map fun (i : Nat) => (i : Int)
def nexts (c : Co) (t : List Int) : List Int := ((rng c.length).filter fun p => !decide (p ∈ t)).filter (comes c t)
theorem rng_len (n : Nat) : (rng n).length = n := by simp [rng]
theorem mem_rng {n : Nat} {p : Int} : p ∈ rng n ↔ 0 ≤ p ∧ p < n := by
  unfold rng
  rw [List.mem_map]
  constructor
  · rintro ⟨i, h, rfl⟩
    rw [List.mem_range] at h
    omega
  · rintro ⟨h1, h2⟩
    exact ⟨p.toNat, by rw [List.mem_range]; omega, by omega⟩
theorem mem_nexts {c : Co} {t : List Int} {p : Int} : p ∈ nexts c t ↔ (0 ≤ p ∧ p < c.length) ∧ p ∉ t ∧ comes c t p = true := by
  unfold nexts
  rw [List.mem_filter, List.mem_filter, mem_rng]
  simp [and_assoc]
theorem ct_sq {μ : Cells} {d : PyData} {ds : List PyData} (h : SqD d ds) : Ct μ (.d d) ds := by
  rcases h with rfl | rfl
  · exact .l ds
  · exact .t ds
end Ec
set_option Elab.async false
set_option linter.all false
set_option maxRecDepth 100000
set_option maxHeartbeats 4000000
namespace Ec
open PySem PySem.Spec PyProof.Rows L2
theorem itT {b : Bool} {p q : Prop} (h : b = true) (g : p) : if b = true then p else q := by rw [if_pos h]; exact g
theorem itF {b : Bool} {p q : Prop} (h : b = false) (g : q) : if b = true then p else q := by rw [if_neg (by rw [h]; decide)]; exact g
def tyP : PyData → String
  | .none => "NoneType"
  | .bool _ => "bool"
  | .int _ => "int"
  | .str _ => "str"
  | .list _ => "list"
  | .tuple _ => "tuple"
  | .dict _ => "dict"
def tyD : Vd → String
  | .d x => tyP x
  | .a _ => "list"
  | .w _ => "tuple"
  | .s _ => "list"
  | .k _ _ => "dict"
  | .e _ _ _ _ => "dict"
  | .z _ _ => "dict"
  | .q _ _ => "dict"
  | .m _ b _ => if b = true then "tuple" else "list"
def tys : List String := ["NoneType", "bool", "int", "str", "list", "tuple"]
inductive Kn (μ : Cells) : Vd → Prop
  | d (x : PyData) : Kn μ (.d x)
  | c (i : Nat) {p : Addr} {ds : List PyData} (h : μ[i]? = some (p, (ds : Cont))) : Kn μ (.a p)
theorem Kn.x {μ : Cells} (ds : List PyData) : Kn μ (.x ds) := .d _
theorem ty_seqL {K : PySem.W.Frag} {H : Hp} {a : Addr} {xs : List V} (h : SqL K H a xs) : TyX K H (.ref a) (.type "list") := by
  rcases h with (h | ⟨o, h⟩) | ⟨o, its, n, h, hc, _⟩
  · exact .base (.lst h)
  · exact .base (.frz h)
  · exact .kList h hc
theorem ty_dp {K : PySem.W.Frag} {H : Hp} {v : V} {d : PyData} (h : De K H v d) : TyX K H v (.type (tyP d)) ∧ tyP d ∈ tys := by
  cases h with
  | non => exact ⟨.base .non, by decide⟩
  | bl b => exact ⟨.base (.bl b), (by decide : "bool" ∈ tys)⟩
  | int i => exact ⟨.base (.int i), (by decide : "int" ∈ tys)⟩
  | str x => exact ⟨.base (.str x), (by decide : "str" ∈ tys)⟩
  | lst h1 h2 => exact ⟨ty_seqL (.of h1), (by decide : "list" ∈ tys)⟩
  | tup h1 h2 h3 => exact ⟨.fTuple h1, (by decide : "tuple" ∈ tys)⟩
theorem ty_ok {K : PySem.W.Frag} {F H : Hp} {μ : Cells} {x : Vd} {v : V} (m : RpM K F H μ) (o : VOk K F x v) (k : Kn μ x) : TyX K H v (.type (tyD x)) ∧ tyD x ∈ tys := by
  cases k with
  | d x => exact ty_dp (dp_up m.ex _ _ o)
  | c i h =>
    obtain ⟨_, us, e1, _⟩ := m.cel _ _ (List.mem_of_getElem? h)
    rw [show v = V.ref _ from o]
    exact ⟨.base (.lst e1), (by decide : "list" ∈ tys)⟩
def isT (a T : String) : Bool := (kitB a T).getD false
theorem isT_ok {a T : String} (h : tys.all (fun a => (kitB a T).isSome) = true) (ha : a ∈ tys) : kitB a T = some (isT a T) := by
  have := (List.all_eq_true.mp h) a ha
  unfold isT
  cases q : kitB a T with
  | none =>
    rw [q] at this
    cases this
  | some b => rfl
section
variable {X : Cx} {δ : Dl} {μ : Cells} {e a b : Expr} {pos p p2 : Pos} {Q : Vd → Cells → Prop} {es : List Expr} {mg : Str → Option Value}
theorem we_isi {x2 : Str} {T : String} (B : Bl mg) (hg : Gl X "isinstance") (hg2 : Gl X x2) (h : WE X e δ μ fun x μ1 => Kn μ1 x ∧ Q (.d (.bool (isT (tyD x) T))) μ1) (hv2 : bootBuiltins x2 = some (.type T)) (hm2 : mg x2 = none) (hT : tys.all (fun a => (kitB a T).isSome) = true) (hn2 : x2 ≠ "__name__") (hd2 : (x2 == ("__debug__" : Str)) = false) (hm : X.mg = mg := by rfl)
    (s1 : starEach [e, .Name x2 p2] X.env = (false, eval e X.env) :: starEach [.Name x2 p2] X.env := by rfl) (s2 : starEach [.Name x2 p2] X.env = (false, eval (.Name x2 p2) X.env) :: starEach [] X.env := by rfl) (s3 : (backTo pos (starEach [.Name x2 p2] X.env)).any (·.1) = false := by rfl) :
    WE X (.Call (.Name "isinstance" p) [e, .Name x2 p2] [] pos) δ μ Q := fun F H σ R QV c =>
  toE (pe_callB call_isi hg (hm ▸ B.isi) PyProof.Rows.boot_isinstance (pa_cons (pcE X e) (pa_cons (pe_bltn (v := .ty T) hg2 (hm ▸ hm2) hv2 rfl hn2 hd2) pa_nil s2) s1) (by decide) (by decide) s1 s3)
    (h F H σ R _ fun v x F1 H1 μ1 w1 R1 o1 q => by
      obtain ⟨k, q⟩ := q
      obtain ⟨t1, t2⟩ := ty_ok R1.m o1 k
      exact ⟨v, .ty T, _, _, _, rfl, .ty T, t1, kit_ty (isT_ok hT t2), c _ (.d (.bool _)) F1 H1 μ1 w1 R1 (.bl _) q⟩)
theorem we_isi2 {x2 x3 : Str} {T U : String} {k : Nat} {tp p3 : Pos} (B : Bl mg) (hg : Gl X "isinstance") (hg2 : Gl X x2) (hg3 : Gl X x3) (h : WE X e δ μ fun x μ1 => Kn μ1 x ∧ Q (.d (.bool (isT (tyD x) T || isT (tyD x) U))) μ1) (hv2 : bootBuiltins x2 = some (.type T)) (hm2 : mg x2 = none) (hT : tys.all (fun a => (kitB a T).isSome) = true) (hn2 : x2 ≠ "__name__") (hd2 : (x2 == ("__debug__" : Str)) = false)
    (hv3 : bootBuiltins x3 = some (.type U)) (hm3 : mg x3 = none) (hU : tys.all (fun a => (kitB a U).isSome) = true) (hn3 : x3 ≠ "__name__") (hd3 : (x3 == ("__debug__" : Str)) = false) (hm : X.mg = mg := by rfl)
    (s1 : starEach [e, .Tuple [.Name x2 p2, .Name x3 p3] k tp] X.env = (false, eval e X.env) :: starEach [.Tuple [.Name x2 p2, .Name x3 p3] k tp] X.env := by rfl) (s2 : starEach [.Tuple [.Name x2 p2, .Name x3 p3] k tp] X.env = (false, eval (.Tuple [.Name x2 p2, .Name x3 p3] k tp) X.env) :: starEach [] X.env := by rfl) (s3 : (backTo pos (starEach [.Tuple [.Name x2 p2, .Name x3 p3] k tp] X.env)).any (·.1) = false := by rfl)
    (s4 : starEach [.Name x2 p2, .Name x3 p3] X.env = (false, eval (.Name x2 p2) X.env) :: starEach [.Name x3 p3] X.env := by rfl) (s5 : starEach [.Name x3 p3] X.env = (false, eval (.Name x3 p3) X.env) :: starEach [] X.env := by rfl) :
    WE X (.Call (.Name "isinstance" p) [e, .Tuple [.Name x2 p2, .Name x3 p3] k tp] [] pos) δ μ Q := fun F H σ R QV c =>
  toE (pe_callB call_isiT hg (hm ▸ B.isi) PyProof.Rows.boot_isinstance (pa_cons (pcE X e) (pa_cons (pe_tup (pa_cons (pe_bltn (v := .ty T) hg2 (hm ▸ hm2) hv2 rfl hn2 hd2) (pa_cons (pe_bltn (v := .ty U) hg3 (hm ▸ hm3) hv3 rfl hn3 hd3) pa_nil s5) s4)) pa_nil s2) s1) (by decide) (by decide) s1 s3)
    (h F H σ R _ fun v x F1 H1 μ1 w1 R1 o1 q => by
      obtain ⟨k, q⟩ := q
      refine ⟨by show 2 ≤ sizeLine; rw [sizeLine_eq]; omega, fun q0 nq => ?_⟩
      obtain ⟨m2, w2⟩ := R1.m.new (o := .tup [.ty T, .ty U]) nq
      have R2 := R1.to w2.f m2
      obtain ⟨t1, t2⟩ := ty_ok R2.m (o1.up w2.f) k
      refine ⟨v, q0, [.ty T, .ty U], _, [.type T, .type U], _, rfl, upd_same, .cons (.ty T) (.cons (.ty U) .nil), t1, ?_, c _ (.d (.bool _)) _ _ μ1 (w1.trans w2) R2 (.bl _) q⟩
      refine kitAny_cons (kit_ty (isT_ok hT t2)) (fun e1 => kitAny_cons (r := isT (tyD x) T || isT (tyD x) U) (kit_ty (isT_ok hU t2)) (fun e2 => ?_) (fun e2 => by rw [e2, Bool.or_true])) (fun e1 => by rw [e1, Bool.true_or])
      rw [e1, e2]
      exact kitAny_nil)
end
def isLi : Vd → Bool
  | .m _ b _ => !b
  | .d (.list _) => true
  | .s _ => true
  | .a _ => true
  | _ => false
def isTu : Vd → Bool
  | .d (.tuple _) => true
  | .w _ => true
  | .m _ b _ => b
  | _ => false
def isIn : Vd → Bool
  | .d (.int _) => true
  | .d (.bool _) => true
  | _ => false
def isBo : Vd → Bool
  | .d (.bool _) => true
  | _ => false
def isSt : Vd → Bool
  | .d (.str _) => true
  | _ => false
theorem isT_Li (x : Vd) : isT (tyD x) "list" = isLi x := by
  have h1 : isT "NoneType" "list" = false := by decide +kernel
  have h2 : isT "bool" "list" = false := by decide +kernel
  have h3 : isT "int" "list" = false := by decide +kernel
  have h4 : isT "str" "list" = false := by decide +kernel
  have h5 : isT "list" "list" = true := by decide +kernel
  have h6 : isT "tuple" "list" = false := by decide +kernel
  have h7 : isT "dict" "list" = false := by decide +kernel
  cases x with
  | a p => exact h5
  | w ds => exact h6
  | s ns => exact h5
  | k _ _ => exact h7
  | e _ _ _ _ => exact h7
  | z _ _ => exact h7
  | q _ _ => exact h7
  | m _ b _ => cases b <;> first | exact h5 | exact h6
  | d x => cases x <;> first | exact h1 | exact h2 | exact h3 | exact h4 | exact h5 | exact h6 | exact h7
theorem isT_Tu (x : Vd) : isT (tyD x) "tuple" = isTu x := by
  have h1 : isT "NoneType" "tuple" = false := by decide +kernel
  have h2 : isT "bool" "tuple" = false := by decide +kernel
  have h3 : isT "int" "tuple" = false := by decide +kernel
  have h4 : isT "str" "tuple" = false := by decide +kernel
  have h5 : isT "list" "tuple" = false := by decide +kernel
  have h6 : isT "tuple" "tuple" = true := by decide +kernel
  have h7 : isT "dict" "tuple" = false := by decide +kernel
  cases x with
  | a p => exact h5
  | w ds => exact h6
  | s ns => exact h5
  | k _ _ => exact h7
  | e _ _ _ _ => exact h7
  | z _ _ => exact h7
  | q _ _ => exact h7
  | m _ b _ => cases b <;> first | exact h5 | exact h6
  | d x => cases x <;> first | exact h1 | exact h2 | exact h3 | exact h4 | exact h5 | exact h6 | exact h7
theorem isT_In (x : Vd) : isT (tyD x) "int" = isIn x := by
  have h1 : isT "NoneType" "int" = false := by decide +kernel
  have h2 : isT "bool" "int" = true := by decide +kernel
  have h3 : isT "int" "int" = true := by decide +kernel
  have h4 : isT "str" "int" = false := by decide +kernel
  have h5 : isT "list" "int" = false := by decide +kernel
  have h6 : isT "tuple" "int" = false := by decide +kernel
  have h7 : isT "dict" "int" = false := by decide +kernel
  cases x with
  | a p => exact h5
  | w ds => exact h6
  | s ns => exact h5
  | k _ _ => exact h7
  | e _ _ _ _ => exact h7
  | z _ _ => exact h7
  | q _ _ => exact h7
  | m _ b _ => cases b <;> first | exact h5 | exact h6
  | d x => cases x <;> first | exact h1 | exact h2 | exact h3 | exact h4 | exact h5 | exact h6 | exact h7
theorem isT_Bo (x : Vd) : isT (tyD x) "bool" = isBo x := by
  have h1 : isT "NoneType" "bool" = false := by decide +kernel
  have h2 : isT "bool" "bool" = true := by decide +kernel
  have h3 : isT "int" "bool" = false := by decide +kernel
  have h4 : isT "str" "bool" = false := by decide +kernel
  have h5 : isT "list" "bool" = false := by decide +kernel
  have h6 : isT "tuple" "bool" = false := by decide +kernel
  have h7 : isT "dict" "bool" = false := by decide +kernel
  cases x with
  | a p => exact h5
  | w ds => exact h6
  | s ns => exact h5
  | k _ _ => exact h7
  | e _ _ _ _ => exact h7
  | z _ _ => exact h7
  | q _ _ => exact h7
  | m _ b _ => cases b <;> first | exact h5 | exact h6
  | d x => cases x <;> first | exact h1 | exact h2 | exact h3 | exact h4 | exact h5 | exact h6 | exact h7
theorem isT_St (x : Vd) : isT (tyD x) "str" = isSt x := by
  have h1 : isT "NoneType" "str" = false := by decide +kernel
  have h2 : isT "bool" "str" = false := by decide +kernel
  have h3 : isT "int" "str" = false := by decide +kernel
  have h4 : isT "str" "str" = true := by decide +kernel
  have h5 : isT "list" "str" = false := by decide +kernel
  have h6 : isT "tuple" "str" = false := by decide +kernel
  have h7 : isT "dict" "str" = false := by decide +kernel
  cases x with
  | a p => exact h5
  | w ds => exact h6
  | s ns => exact h5
  | k _ _ => exact h7
  | e _ _ _ _ => exact h7
  | z _ _ => exact h7
  | q _ _ => exact h7
  | m _ b _ => cases b <;> first | exact h5 | exact h6
  | d x => cases x <;> first | exact h1 | exact h2 | exact h3 | exact h4 | exact h5 | exact h6 | exact h7
section
variable {X : Cx} {δ : Dl} {μ : Cells} {e a b : Expr} {pos p p2 : Pos} {Q : Vd → Cells → Prop} {es : List Expr} {mg : Str → Option Value}
theorem we_isLi (B : Bl mg) (hg : Gl X "isinstance") (hg2 : Gl X "list") (h : WE X e δ μ fun x μ1 => Kn μ1 x ∧ Q (.d (.bool (isLi x))) μ1) (hm : X.mg = mg := by rfl)
    (s1 : starEach [e, .Name "list" p2] X.env = (false, eval e X.env) :: starEach [.Name "list" p2] X.env := by rfl) (s2 : starEach [.Name "list" p2] X.env = (false, eval (.Name "list" p2) X.env) :: starEach [] X.env := by rfl) (s3 : (backTo pos (starEach [.Name "list" p2] X.env)).any (·.1) = false := by rfl) :
    WE X (.Call (.Name "isinstance" p) [e, .Name "list" p2] [] pos) δ μ Q :=
  we_isi B hg hg2 (h.mono fun x μ1 q => by rw [isT_Li]; exact q) PyProof.Rows.boot_list B.list (by decide +kernel) (by decide) (by decide) hm s1 s2 s3
theorem we_isTu (B : Bl mg) (hg : Gl X "isinstance") (hg2 : Gl X "tuple") (h : WE X e δ μ fun x μ1 => Kn μ1 x ∧ Q (.d (.bool (isTu x))) μ1) (hm : X.mg = mg := by rfl)
    (s1 : starEach [e, .Name "tuple" p2] X.env = (false, eval e X.env) :: starEach [.Name "tuple" p2] X.env := by rfl) (s2 : starEach [.Name "tuple" p2] X.env = (false, eval (.Name "tuple" p2) X.env) :: starEach [] X.env := by rfl) (s3 : (backTo pos (starEach [.Name "tuple" p2] X.env)).any (·.1) = false := by rfl) :
    WE X (.Call (.Name "isinstance" p) [e, .Name "tuple" p2] [] pos) δ μ Q :=
  we_isi B hg hg2 (h.mono fun x μ1 q => by rw [isT_Tu]; exact q) PyProof.Rows.boot_tuple B.tuple (by decide +kernel) (by decide) (by decide) hm s1 s2 s3
theorem we_isIn (B : Bl mg) (hg : Gl X "isinstance") (hg2 : Gl X "int") (h : WE X e δ μ fun x μ1 => Kn μ1 x ∧ Q (.d (.bool (isIn x))) μ1) (hm : X.mg = mg := by rfl)
    (s1 : starEach [e, .Name "int" p2] X.env = (false, eval e X.env) :: starEach [.Name "int" p2] X.env := by rfl) (s2 : starEach [.Name "int" p2] X.env = (false, eval (.Name "int" p2) X.env) :: starEach [] X.env := by rfl) (s3 : (backTo pos (starEach [.Name "int" p2] X.env)).any (·.1) = false := by rfl) :
    WE X (.Call (.Name "isinstance" p) [e, .Name "int" p2] [] pos) δ μ Q :=
  we_isi B hg hg2 (h.mono fun x μ1 q => by rw [isT_In]; exact q) PyProof.Rows.boot_int B.int (by decide +kernel) (by decide) (by decide) hm s1 s2 s3
theorem we_isBo (B : Bl mg) (hg : Gl X "isinstance") (hg2 : Gl X "bool") (h : WE X e δ μ fun x μ1 => Kn μ1 x ∧ Q (.d (.bool (isBo x))) μ1) (hm : X.mg = mg := by rfl)
    (s1 : starEach [e, .Name "bool" p2] X.env = (false, eval e X.env) :: starEach [.Name "bool" p2] X.env := by rfl) (s2 : starEach [.Name "bool" p2] X.env = (false, eval (.Name "bool" p2) X.env) :: starEach [] X.env := by rfl) (s3 : (backTo pos (starEach [.Name "bool" p2] X.env)).any (·.1) = false := by rfl) :
    WE X (.Call (.Name "isinstance" p) [e, .Name "bool" p2] [] pos) δ μ Q :=
  we_isi B hg hg2 (h.mono fun x μ1 q => by rw [isT_Bo]; exact q) PyProof.Rows.boot_bool B.bool (by decide +kernel) (by decide) (by decide) hm s1 s2 s3
theorem we_isLiTu {k : Nat} {tp p3 : Pos} (B : Bl mg) (hg : Gl X "isinstance") (hg2 : Gl X "list") (hg3 : Gl X "tuple") (h : WE X e δ μ fun x μ1 => Kn μ1 x ∧ Q (.d (.bool (isLi x || isTu x))) μ1) (hm : X.mg = mg := by rfl)
    (s1 : starEach [e, .Tuple [.Name "list" p2, .Name "tuple" p3] k tp] X.env = (false, eval e X.env) :: starEach [.Tuple [.Name "list" p2, .Name "tuple" p3] k tp] X.env := by rfl) (s2 : starEach [.Tuple [.Name "list" p2, .Name "tuple" p3] k tp] X.env = (false, eval (.Tuple [.Name "list" p2, .Name "tuple" p3] k tp) X.env) :: starEach [] X.env := by rfl) (s3 : (backTo pos (starEach [.Tuple [.Name "list" p2, .Name "tuple" p3] k tp] X.env)).any (·.1) = false := by rfl)
    (s4 : starEach [.Name "list" p2, .Name "tuple" p3] X.env = (false, eval (.Name "list" p2) X.env) :: starEach [.Name "tuple" p3] X.env := by rfl) (s5 : starEach [.Name "tuple" p3] X.env = (false, eval (.Name "tuple" p3) X.env) :: starEach [] X.env := by rfl) :
    WE X (.Call (.Name "isinstance" p) [e, .Tuple [.Name "list" p2, .Name "tuple" p3] k tp] [] pos) δ μ Q :=
  we_isi2 B hg hg2 hg3 (h.mono fun x μ1 q => by rw [isT_Li, isT_Tu]; exact q) PyProof.Rows.boot_list B.list (by decide +kernel) (by decide) (by decide) PyProof.Rows.boot_tuple B.tuple (by decide +kernel) (by decide) (by decide) hm s1 s2 s3 s4 s5
theorem we_isBoSt {k : Nat} {tp p3 : Pos} (B : Bl mg) (hg : Gl X "isinstance") (hg2 : Gl X "bool") (hg3 : Gl X "str") (h : WE X e δ μ fun x μ1 => Kn μ1 x ∧ Q (.d (.bool (isBo x || isSt x))) μ1) (hm : X.mg = mg := by rfl)
    (s1 : starEach [e, .Tuple [.Name "bool" p2, .Name "str" p3] k tp] X.env = (false, eval e X.env) :: starEach [.Tuple [.Name "bool" p2, .Name "str" p3] k tp] X.env := by rfl) (s2 : starEach [.Tuple [.Name "bool" p2, .Name "str" p3] k tp] X.env = (false, eval (.Tuple [.Name "bool" p2, .Name "str" p3] k tp) X.env) :: starEach [] X.env := by rfl) (s3 : (backTo pos (starEach [.Tuple [.Name "bool" p2, .Name "str" p3] k tp] X.env)).any (·.1) = false := by rfl)
    (s4 : starEach [.Name "bool" p2, .Name "str" p3] X.env = (false, eval (.Name "bool" p2) X.env) :: starEach [.Name "str" p3] X.env := by rfl) (s5 : starEach [.Name "str" p3] X.env = (false, eval (.Name "str" p3) X.env) :: starEach [] X.env := by rfl) :
    WE X (.Call (.Name "isinstance" p) [e, .Tuple [.Name "bool" p2, .Name "str" p3] k tp] [] pos) δ μ Q :=
  we_isi2 B hg hg2 hg3 (h.mono fun x μ1 q => by rw [isT_Bo, isT_St]; exact q) PyProof.Rows.boot_bool B.bool (by decide +kernel) (by decide) (by decide) PyProof.Rows.boot_str B.str (by decide +kernel) (by decide) (by decide) hm s1 s2 s3 s4 s5
end
section
variable {X : Cx} {δ : Dl} {μ : Cells} {e a b : Expr} {pos p p2 : Pos} {Q : Vd → Cells → Prop} {es : List Expr} {mg : Str → Option Value}
theorem vall_q {K : PySem.W.Frag} {F : Hp} : ∀ {xs : List Vd} {vs : List V}, (∀ d, Vd.w d ∉ xs ∧ ∀ ns, Vd.s ns ∉ xs) → VAll K F xs vs → DqAll K F vs (xs.map toC)
  | _, _, _, .nil => .nil
  | _, _, n, .cons h t => .cons (VOk.toC (fun d => ⟨fun e => (n d).1 (e ▸ List.mem_cons_self), fun ns e => (n d).2 ns (e ▸ List.mem_cons_self)⟩) h) (vall_q (fun d => ⟨fun m => (n d).1 (List.mem_cons_of_mem _ m), fun ns m => (n d).2 ns (List.mem_cons_of_mem _ m)⟩) t)
theorem we_lstP (h : WA X es δ μ fun xs μ1 => xs.length ≤ 100000 ∧ (∀ d, Vd.w d ∉ xs ∧ ∀ ns, Vd.s ns ∉ xs) ∧ ∀ p, Q (.a p) ((p, xs.map toC) :: μ1)) : WE X (.List es pos) δ μ Q := fun F H σ R QV c =>
  toE (pe_lst (pcA X es)) (h F H σ R _ fun vs xs F1 H1 μ1 w1 R1 o1 q => by
    obtain ⟨hl, nw, q⟩ := q
    have hd := vall_q nw o1
    refine ⟨by rw [dqs_len hd, List.length_map]; exact Nat.le_trans hl (by decide), fun p np => ?_⟩
    obtain ⟨m, w⟩ := R1.m.cellQ np hd
    exact c _ (.a p) _ _ _ (w1.trans w) (R1.to w.f m) rfl (q p))
end
section
variable {K : PySem.W.Frag} {μ : Cells} {Q : Vd → Cells → Prop}
inductive LItem (μ : Cells) : PyData → PyData → Prop
  | d {d : PyData} (h : isP d = false) : LItem μ d d
  | q (j : Nat) {q : Addr} {es : List PyData} (h : μ[j]? = some (q, (es : Cont))) (pl : plS es) : LItem μ (ptr q) (.list es)
abbrev LItems (μ : Cells) : List PyData → List PyData → Prop := Paired (LItem μ)
inductive LView (μ : Cells) : Addr → PyData → Prop
  | mk (i : Nat) {p : Addr} {rs ds : List PyData} (h : μ[i]? = some (p, (rs : Cont))) (hs : LItems μ rs ds) : LView μ p (.list ds)
def allF (F H : Hp) (bs : List Addr) : Hp := fun b => if b ∈ bs then H b else F b
theorem RpM.all {F H : Hp} (m : RpM K F H μ) : Same F (allF F H (ks μ)) ∧ Same (allF F H (ks μ)) H ∧ ∀ b ∈ ks μ, F b = none ∧ ∃ o, allF F H (ks μ) b = some o ∧ Own o := by
  have inn : ∀ b ∈ ks μ, F b = none ∧ ∃ o, H b = some o ∧ Own o := fun b hb => by
    obtain ⟨⟨b', fs⟩, hm', e'⟩ := List.mem_map.mp hb
    have e2 : b' = b := e'
    subst e2
    obtain ⟨g1, g2⟩ := m.cel b' fs hm'
    exact ⟨g1, g2.obj⟩
  refine ⟨fun b o e => ?_, fun b o e => ?_, fun b hb => ?_⟩
  · unfold allF
    rw [if_neg fun h => by rw [(inn b h).1] at e; cases e]
    exact e
  · unfold allF at e
    split at e
    · exact e
    · exact m.ex b o e
  · obtain ⟨g1, us, g2, g3⟩ := inn b hb
    refine ⟨g1, us, ?_, g3⟩
    unfold allF
    rw [if_pos hb]
    exact g2
theorem lview_gen {F H G : Hp} (m : RpM K F H μ) (s1 : Same F G) (hG : ∀ b ∈ ks μ, G b = H b) {p : Addr} {d : PyData} (h : LView μ p d) : De K G (.ref p) d := by
  have key : ∀ {i : Nat} {q : Addr} {es : List PyData}, μ[i]? = some (q, (es : Cont)) → ∃ vs, G q = some (.lst vs) ∧ DqAll K G vs es := fun {i q es} hj => by
    have hm := List.mem_of_getElem? hj
    obtain ⟨_, vs, e, hd⟩ := m.cel _ _ hm
    exact ⟨vs, by rw [hG q (List.mem_map.mpr ⟨_, hm, rfl⟩)]; exact e, dqs_up s1 _ _ hd⟩
  have item : ∀ {v : V} {r d : PyData}, LItem μ r d → Dq K G v r → De K G v d := fun {v r d} hi ho => by
    cases hi with
    | d hp => exact ho.to hp
    | q j hj pl =>
      obtain ⟨vs, e, hd⟩ := key hj
      cases ho with
      | d h => cases h
      | p a => exact .lst e (hd.to pl)
  have items : ∀ {rs ds : List PyData} {vs : List V}, LItems μ rs ds → DqAll K G vs rs → DeAll K G vs ds := fun {rs ds vs} hi => by
    induction hi generalizing vs with
    | nil =>
      intro ho
      cases ho
      exact .nil
    | cons h1 _ ih =>
      intro ho
      cases ho with
      | cons o1 o2 => exact .cons (item h1 o1) (ih o2)
  cases h with
  | mk i hj hs =>
    obtain ⟨vs, e, hd⟩ := key hj
    exact .lst e (items hs hd)
inductive LentT (μ : Cells) : List Vd → List Vd → Prop
  | nil : LentT μ [] []
  | keep {x : Vd} {xs ys : List Vd} : LentT μ xs ys → LentT μ (x :: xs) (x :: ys)
  | lend {p : Addr} {d : PyData} {xs ys : List Vd} (h : LView μ p d) : LentT μ xs ys → LentT μ (.a p :: xs) (.d d :: ys)
  | wk {ds : List PyData} {xs ys : List Vd} : LentT μ xs ys → LentT μ (.x ds :: xs) (.d (.tuple ds) :: ys)
theorem LentT.ok {F H G : Hp} (m : RpM K F H μ) (s1 : Same F G) (hG : ∀ b ∈ ks μ, G b = H b) : ∀ {xs ys : List Vd} {vs : List V}, LentT μ xs ys → VAll K F xs vs → VAll K G ys vs
  | _, _, _, .nil, h => by
    cases h
    exact .nil
  | _, _, _, .keep l, h => by
    cases h with
    | cons h1 h2 => exact .cons (h1.up s1) (LentT.ok m s1 hG l h2)
  | _, _, _, .lend hv l, h => by
    cases h with
    | cons h1 h2 =>
      rw [show _ = V.ref _ from h1]
      exact .cons (lview_gen m s1 hG hv) (LentT.ok m s1 hG l h2)
  | _, _, _, .wk l, h => by
    cases h with
    | cons h1 h2 =>
      exact .cons (dp_up s1 _ _ h1) (LentT.ok m s1 hG l h2)
end
section
variable {X : Cx} {δ : Dl} {μ : Cells} {e a b E : Expr} {pos p p2 : Pos} {Q : Vd → Cells → Prop} {es : List Expr} {mg : Str → Option Value} {kws : List Keyword}
end
end Ec
set_option Elab.async false
set_option linter.all false
set_option maxRecDepth 100000
set_option maxHeartbeats 4000000
namespace Ec
open PySem PySem.Spec PyProof.Rows L2
theorem entry_hp {P : Program} {w : World} {K : PySem.W.Frag} {h : Heap} {a : Addr} {vs : List Value} {ns : List Int} (KX : K.In h) (ha : h.get? a = some { cls := .type "list", data := .seq vs.toArray }) (hi : IntsAre vs ns) (hl : ns.length ≤ sizeLine) :
    ∃ H : Hp, L2.Only H ∧ SqL K H a (ns.map V.int) ∧ HOk P w H h ∧ (∀ b, H b ≠ none → b = a) ∧ (H a ≠ none → K.lookup a = none) := by
  have rv := vals_ints hi
  cases hk : K.lookup a with
  | some o =>
    have e := (KX a o hk).symm.trans ha
    cases e
    exact ⟨fun _ => none, fun _ => .inl rfl, .inr ⟨_, vs.toArray, _, hk, rfl, rfl, rfl, by rw [List.size_toArray, hi.length]; exact hl, by simpa using rv⟩, (fun _ _ z => by cases z), fun _ z => absurd rfl z, fun z => absurd rfl z⟩
  | none =>
    let H : Hp := upd (fun _ => none) a (.frz { cls := .type "list", data := .seq vs.toArray } (.lst (ns.map V.int)))
    have at_ : ∀ b, b ≠ a → H b = none := fun b hb => upd_ne hb
    refine ⟨H, fun b => ?_, .inl (.inr ⟨_, upd_same⟩), fun b u z => ?_, fun b z => ?_, fun _ => rfl⟩
    · by_cases hb : b = a
      · subst hb
        exact .inr ⟨_, _, upd_same⟩
      · exact .inl (at_ b hb)
    · by_cases hb : b = a
      · subst hb
        cases (upd_same.symm.trans z : some _ = some u)
        exact ⟨ha, by rw [List.length_map]; exact hl, vs, _, rv, ha⟩
      · cases (at_ b hb).symm.trans z
    · by_cases hb : b = a
      · exact hb
      · exact absurd (at_ b hb) z
theorem law_g {P : Program} {w : World} {K : PySem.W.Frag} {mg mb : Str → Option Value} {k : Nat} {fa a : Addr} {fd : FuncData} {x : Str} {sp : Sp} {s₁ : Shared} {vs : List Value} {ns : List Int}
    (KX : K.In s₁.heap) (hns : s₁.heap.Ns mainGlobals mg) (hb : s₁.heap.Ns builtinsNs mb) (hbb : ∀ x : Str, x ≠ "__name__" → mb x = bootBuiltins x) (hlim : s₁.heap.NoLimit) (hg : s₁.gens = #[])
    (ha : s₁.heap.get? a = some { cls := .type "list", data := .seq vs.toArray }) (hi : IntsAre vs ns) (hl : ns.length ≤ sizeLine) (hr : Room k callerA)
    (F : ∀ base : Heap, K.In base → base.Ns mainGlobals mg → FnG P w K mg base CX0 k fa fd [x] sp) (hbind : ∀ (s : Shared) (u : Value), BindsTo s fd ⟨[u], []⟩ [(x, u)])
    (hsp : ∀ H : Hp, L2.Only H → SqL K H a (ns.map V.int) → sp [.ref a] H (fun v _ => v = .bl true) fun _ _ _ => False) :
    codeAny (model P w) callerA (.call (.ref fa) ⟨[.ref a], []⟩) (fun r s' => r = .ok (.ret (.bool true)) ∧ OldK s₁.heap s'.heap ∧ s'.os = s₁.os ∧ AllBare s'.gens) s₁ := by
  obtain ⟨H, hO, hS, hok, hA, hK⟩ := entry_hp (P := P) (w := w) KX ha hi hl
  have off : ∀ {b : Addr} {o : Obj}, s₁.heap.get? b = some o → (b = a → False) → (hidT s₁.heap H).get? b = some o := fun {b o} e n => hidT_get e (by
    cases q : H b with
    | none => rfl
    | some u => exact (n (hA b (by rw [q]; simp))).elim)
  have nsOff : ∀ {b : Addr} {m : Str → Option Value}, s₁.heap.Ns b m → (hidT s₁.heap H).Ns b m := fun {b m} ⟨o, es, ep, e, d, r⟩ => ⟨o, es, ep, off e (fun z => by
    subst z
    rw [ha] at e
    cases e
    cases (show Data.seq vs.toArray _ = Data.dict es ep from d)), d, r⟩
  have hKb : K.In (hidT s₁.heap H) := fun b o e => by
    cases q : H b with
    | none => exact hidT_get (KX b o e) q
    | some u =>
      have z := hA b (by rw [q]; simp)
      subst z
      rw [hK (by rw [q]; simp)] at e
      cases e
  obtain ⟨mc, l1, l2⟩ := hlim
  have e0 : Env0 P w K mg (hidT s₁.heap H) callerA [] s₁ H := ⟨rfl, ⟨hKb, nsOff hns, ⟨mb, nsOff hb, hbb⟩, ⟨mc, nsOff l1, l2⟩⟩, fun b o e => of_hidT e, Nat.le_of_eq (hidT_size _ _), trivial, fun b z => absurd (show b ∈ ([] : List Addr) from z) (by simp), hok, .of_eq hg⟩
  refine codeAny_mono ((F _ hKb (nsOff hns)).run callerA [] s₁ H ⟨[.ref a], []⟩ [.ref a] [.ref a] _ _ hr rfl e0 (hbind s₁ (.ref a)) (.cons rfl .nil) (hsp H hO hS)) fun r s' h => ?_
  match r, h with
  | .error e, h => exact h.elim
  | .ok .next, h => exact h.elim
  | .ok .brk, h => exact h.elim
  | .ok .cont, h => exact h.elim
  | .ok (.ret u), ⟨v, H', os, bare, un, hok', r', q⟩ =>
    have q' : v = .bl true := q
    subst q'
    obtain rfl : u = Value.bool true := r'
    refine ⟨rfl, OldK.of_keep fun b o e => ?_, os, bare⟩
    rcases hO b with z | ⟨ob, xs, z⟩
    · exact un.keep b o e z (fun m => absurd (show b ∈ ([] : List Addr) from m) (by simp)) (by simp)
    · obtain ⟨e1, _⟩ := hok b _ z
      obtain ⟨e2, _⟩ := hok' b _ (un.frzs b ob _ z)
      rw [e] at e1
      cases e1
      exact e2
theorem walk_g {l : PySem.W.OpenLaw} {n k : Nat} {q : Program} {loose : List Str} {XP : (Str → Option Value) → Heap → Prop} {YP : World → Heap → Prop} {d : DefRec} {K : Params → PySem.W.Frag} {sp : World → Sp} {x : Str}
    (hn : l.most = some n) (hn2 : n ≤ sizeLine) (hdf : d.params.defaults = []) (hr : Room k callerA)
    (hY : ∀ (w : World) (h : Heap), YP w h → (K w.params).In h)
    (F : ∀ (w : World) (mg : Str → Option Value) (fa : Addr) (h : Heap), (K w.params).In h → h.Ns mainGlobals mg → mg d.name = some (.ref fa) →
      ∃ fd : FuncData, (∀ (s : Shared) (u : Value), BindsTo s fd ⟨[u], []⟩ [(x, u)]) ∧
        ∀ base : Heap, (K w.params).In base → base.Ns mainGlobals mg → FnG l.prog w (K w.params) mg base CX0 k fa fd [x] (sp w))
    (hsp : ∀ (w : World) (H : Hp) (a : Addr) (ns : List Int), ns.length ≤ n → L2.Only H → SqL (K w.params) H a (ns.map V.int) → sp w [.ref a] H (fun v _ => v = .bl true) fun _ _ _ => False) :
    PySem.W.WalkO q loose XP YP l.row.toRowW d [] (fun f vs => PySem.call f vs) :=
  Att.attach_call hn hdf fun w s₀ s₁ mg mb fa o pm cd doc a vs ns G Y ho hd hcd hmg hobj hints hlen hg => by
    obtain ⟨fd, hb, hF⟩ := F w mg fa _ (hY w _ Y) G.T.g hmg
    exact law_g (hY w _ Y) G.T.g G.T.b G.T.builtins G.T.nolimit hg hobj hints (Nat.le_trans hlen hn2) hr hF hb fun H hO hS => hsp w H a ns hlen hO hS
section
variable {X : Cx} {δ : Dl} {μ : Cells} {e : Expr} {pos p : Pos} {Q : Vd → Cells → Prop} {mg : Str → Option Value}
end
end Ec
set_option Elab.async false
set_option linter.all false
set_option maxRecDepth 100000
set_option maxHeartbeats 4000000
namespace Ec
theorem filter_lt {α : Type} {p q : α → Bool} : ∀ {l : List α}, (∀ a ∈ l, p a = true → q a = true) → (∃ a ∈ l, q a = true ∧ p a = false) → (l.filter p).length < (l.filter q).length
  | [], _, h => by
    obtain ⟨a, h, _⟩ := h
    cases h
  | x :: l, h, ⟨a, ha, h1, h2⟩ => by
    have le : (l.filter p).length ≤ (l.filter q).length := by
      clear h1 h2 ha
      have hl : ∀ a ∈ l, p a = true → q a = true := fun a m => h a (List.mem_cons_of_mem _ m)
      clear h
      induction l with
      | nil => exact Nat.le_refl _
      | cons y r ih =>
        have := ih fun a m => hl a (List.mem_cons_of_mem _ m)
        have hy := hl y List.mem_cons_self
        rw [List.filter_cons, List.filter_cons]
        by_cases e : p y = true
        · rw [if_pos e, if_pos (hy e)]
          simp only [List.length_cons]
          omega
        · rw [if_neg e]
          split
          · simp only [List.length_cons]
            omega
          · exact this
    rw [List.filter_cons, List.filter_cons]
    rcases List.mem_cons.mp ha with e | m
    · subst e
      rw [h1, h2]
      simp only [if_true, Bool.false_eq_true, if_false, List.length_cons]
      omega
    · have ih := filter_lt (fun a m => h a (List.mem_cons_of_mem _ m)) ⟨a, m, h1, h2⟩
      by_cases e : p x = true
      · rw [if_pos e, if_pos (h x List.mem_cons_self e)]
        simp only [List.length_cons]
        omega
      · rw [if_neg e]
        split
        · simp only [List.length_cons]
          omega
        · exact ih
theorem rng_nodup (n : Nat) : (rng n).Nodup := by
  unfold rng
  rw [List.nodup_iff_pairwise_ne, List.pairwise_map]
  exact (List.nodup_range).imp fun h e => h (by omega)
def stp (c : Co) (t b : List Int) : List Int := (nexts c t).filter fun p => !decide (p ∈ b)
def rnds : Nat → Co → List Int → List Int → List (List Int)
  | 0, _, _, _ => []
  | n + 1, c, t, b => if stp c t b = [] then [] else stp c t b :: rnds n c (t ++ stp c t b) b
def und (c : Co) (t : List Int) : Nat := ((rng c.length).filter fun p => !decide (p ∈ t)).length
theorem mem_stp {c : Co} {t b : List Int} {p : Int} : p ∈ stp c t b ↔ (0 ≤ p ∧ p < c.length) ∧ p ∉ t ∧ comes c t p = true ∧ p ∉ b := by
  unfold stp
  rw [List.mem_filter, mem_nexts]
  simp [and_assoc]
theorem und_le (c : Co) (t : List Int) : und c t ≤ c.length := by
  unfold und
  refine Nat.le_trans (List.length_filter_le _ _) ?_
  rw [rng_len]
  exact Nat.le_refl _
theorem und_lt {c : Co} {t s : List Int} (h : ∃ x, x ∈ s ∧ x ∉ t ∧ 0 ≤ x ∧ x < c.length) : und c (t ++ s) < und c t := by
  obtain ⟨x, h1, h2, h3, h4⟩ := h
  refine filter_lt (fun a _ e => ?_) ⟨x, mem_rng.mpr ⟨h3, h4⟩, by simp [h2], by simp [h1]⟩
  simp at e ⊢
  exact e.1
theorem stp_lt {c : Co} {t b : List Int} (h : stp c t b ≠ []) : und c (t ++ stp c t b) < und c t := by
  obtain ⟨x, hx⟩ := List.exists_mem_of_ne_nil _ h
  obtain ⟨h1, h2, _⟩ := mem_stp.mp hx
  exact und_lt ⟨x, hx, h2, h1⟩
def AR (c : Co) (t b : List Int) : List (List Int) := rnds (c.length + 1) c t b
def cl (c : Co) (t b : List Int) : List Int := srt (t ++ (AR c t b).flatten)
theorem comes_mono {c : Co} {s t : List Int} (h : ∀ x ∈ s, x ∈ t) {p : Int} (hp : comes c s p = true) : comes c t p = true := by
  unfold comes cnt at *
  have h1 := of_decide_eq_true hp
  refine decide_eq_true (Int.le_trans h1 ?_)
  have : ∀ L : List Int, (L.filter fun x => decide (x ∈ s)).length ≤ (L.filter fun x => decide (x ∈ t)).length := fun L => by
    induction L with
    | nil => exact Nat.le_refl _
    | cons y r ih =>
      rw [List.filter_cons, List.filter_cons]
      by_cases e : y ∈ s
      · rw [if_pos (decide_eq_true e), if_pos (decide_eq_true (h y e))]
        simp only [List.length_cons]
        omega
      · rw [if_neg (by simp [e])]
        split
        · simp only [List.length_cons]
          omega
        · exact ih
  exact Int.ofNat_le.mpr (this _)
theorem comes_same {c : Co} {s t : List Int} (h : ∀ x, x ∈ s ↔ x ∈ t) (p : Int) : comes c s p = comes c t p := by
  cases h1 : comes c s p with
  | true => exact (comes_mono (fun x m => (h x).mp m) h1).symm
  | false =>
    cases h2 : comes c t p with
    | true => exact absurd (comes_mono (fun x m => (h x).mpr m) h2) (by rw [h1]; decide)
    | false => rfl
def Shut (c : Co) (b : List Int) (S : Int → Prop) : Prop := ∀ p : Int, 0 ≤ p → p < c.length → p ∉ b → (∃ t : List Int, (∀ x ∈ t, S x) ∧ comes c t p = true) → S p
theorem rnds_in {c : Co} {b : List Int} {S : Int → Prop} (hS : Shut c b S) : ∀ (n : Nat) (t : List Int), (∀ x ∈ t, S x) → ∀ x ∈ (rnds n c t b).flatten, S x
  | 0, _, _, x, h => by cases h
  | n + 1, t, ht, x, h => by
    unfold rnds at h
    split at h
    · cases h
    · rw [List.flatten_cons] at h
      have hs : ∀ y ∈ stp c t b, S y := fun y hy => by
        obtain ⟨⟨h0, h1⟩, _, h3, h4⟩ := mem_stp.mp hy
        exact hS y h0 h1 h4 ⟨t, ht, h3⟩
      rcases List.mem_append.mp h with h | h
      · exact hs x h
      · exact rnds_in hS n _ (fun y hy => (List.mem_append.mp hy).elim (ht y) (hs y)) x h
theorem rnds_end {c : Co} {b : List Int} : ∀ (n : Nat) (t : List Int), und c t < n → stp c (t ++ (rnds n c t b).flatten) b = []
  | 0, _, h => absurd h (Nat.not_lt_zero _)
  | n + 1, t, h => by
    unfold rnds
    split
    · rename_i e
      rw [List.flatten_nil, List.append_nil]
      exact e
    · rename_i e
      rw [List.flatten_cons, ← List.append_assoc]
      have := stp_lt e
      exact rnds_end n _ (by omega)
theorem shut_of {c : Co} {b t : List Int} (h : stp c t b = []) : Shut c b (fun x => x ∈ t) := fun p h0 h1 hb ⟨s, hs, hc⟩ => by
  apply Classical.byContradiction
  intro hn
  have : p ∈ stp c t b := mem_stp.mpr ⟨⟨h0, h1⟩, hn, comes_mono hs hc, hb⟩
  rw [h] at this
  cases this
theorem rnds_nodup : ∀ (n : Nat) (c : Co) (t b : List Int), (rnds n c t b).flatten.Nodup ∧ ∀ x ∈ (rnds n c t b).flatten, x ∉ t ∧ 0 ≤ x ∧ x < c.length
  | 0, _, _, _ => ⟨List.nodup_nil, fun x h => by cases h⟩
  | n + 1, c, t, b => by
    unfold rnds
    split
    · exact ⟨List.nodup_nil, fun x h => by cases h⟩
    · obtain ⟨ih, ih2⟩ := rnds_nodup n c (t ++ stp c t b) b
      rw [List.flatten_cons]
      refine ⟨List.nodup_append.mpr ⟨?_, ih, fun x h y h' e => ?_⟩, fun x h => ?_⟩
      · exact (((rng_nodup _).filter _).filter _).filter _
      · subst e
        exact (ih2 x h').1 (List.mem_append_right _ h)
      · rcases List.mem_append.mp h with h | h
        · obtain ⟨h1, h2, _⟩ := mem_stp.mp h
          exact ⟨h2, h1⟩
        · obtain ⟨h1, h2⟩ := ih2 x h
          exact ⟨fun z => h1 (List.mem_append_left _ z), h2⟩
theorem mem_srt {x : Int} {l : List Int} : x ∈ srt l ↔ x ∈ l := (srt_perm l).mem_iff
theorem mem_cl {c : Co} {t b : List Int} {x : Int} : x ∈ cl c t b ↔ x ∈ t ++ (AR c t b).flatten := mem_srt
theorem cl_in {c : Co} {t b : List Int} {S : Int → Prop} (hS : Shut c b S) (ht : ∀ x ∈ t, S x) : ∀ x ∈ cl c t b, S x := fun x h => by
  rcases List.mem_append.mp (mem_cl.mp h) with h | h
  · exact ht x h
  · exact rnds_in hS _ t ht x h
theorem cl_shut (c : Co) (t b : List Int) : Shut c b (fun x => x ∈ cl c t b) := by
  have h := shut_of (rnds_end (c := c) (b := b) (c.length + 1) t (by have := und_le c t; omega))
  intro p h0 h1 hb hc
  obtain ⟨s, hs, hc⟩ := hc
  exact mem_cl.mpr (h p h0 h1 hb ⟨s, fun x m => mem_cl.mp (hs x m), hc⟩)
theorem cl_nodup {c : Co} {t b : List Int} (h : t.Nodup) : (cl c t b).Nodup := by
  refine (srt_perm _).nodup_iff.mpr (List.nodup_append.mpr ⟨h, (rnds_nodup _ c t b).1, fun x hx y hy e => ?_⟩)
  subst e
  exact ((rnds_nodup _ c t b).2 x hy).1 hx
theorem cl_rng {c : Co} {t b : List Int} (h : ∀ x ∈ t, 0 ≤ x ∧ x < c.length) : ∀ x ∈ cl c t b, 0 ≤ x ∧ x < c.length := fun x hx => by
  rcases List.mem_append.mp (mem_cl.mp hx) with m | m
  · exact h x m
  · exact ((rnds_nodup _ c t b).2 x m).2
theorem perm_of_mem {as bs : List Int} (h1 : as.Nodup) (h2 : bs.Nodup) (h : ∀ x, x ∈ as ↔ x ∈ bs) : as.Perm bs := (List.perm_ext_iff_of_nodup h1 h2).mpr h
def gr (c : Co) : List Int := cl c [] []
def nev (c : Co) : List Int := (rng c.length).filter fun p => !decide (p ∈ gr c)
end Ec
set_option Elab.async false
set_option linter.all false
namespace Ec
open PySem PySem.Spec PyProof.Rows L2
def boxD (x y z : Int) : List PyData := [.int x, .int y, .int z]
def BoxOk (m : Nat) (ds : List PyData) : Prop := ∃ x y z : Int, ds = boxD x y z ∧ 0 ≤ x ∧ 0 ≤ y ∧ y < 4611686018427387904 ∧ 0 ≤ z ∧ z ≤ m
theorem BoxOk.mono {m n : Nat} {ds : List PyData} (h : BoxOk m ds) (l : m ≤ n) : BoxOk n ds := by
  obtain ⟨x, y, z, e, h1, h2, h3, h4, h5⟩ := h
  exact ⟨x, y, z, e, h1, h2, h3, h4, by omega⟩
abbrev T_cell : TrD := fun xs μ R => ∃ (ns : List Int) (k : Nat), xs = [.s ns, .d (.int (k : Int))] ∧ R (.d (.int (ns.getD k 0))) μ
abbrev T_box : TrD := fun xs μ R => ∃ (ns : List Int) (k : Nat), xs = [.s ns, .d (.int (k : Int))] ∧ k ≤ 1000 ∧ ∀ q ds, BoxOk 0 ds → R (.a q) ((q, ds) :: μ)
abbrev T_takeN (lim c : Nat) : TrD := fun xs μ R => ∃ (b : Addr) (ds : List PyData) (n : Int) (m : Nat), xs = [.a b, .d (.int n)] ∧ μ = ([(b, ds)] : Cells) ∧ BoxOk m ds ∧ 0 < n ∧ n ≤ lim ∧ m ≤ 1000000000000 ∧ ∀ (r : Int) ds', 0 ≤ r → r < n → BoxOk (m + c) ds' → R (.d (.int r)) [(b, ds')]
abbrev T_take : TrD := T_takeN 10000000 1
structure CoW (c : Co) : Prop where
  up : ∀ e ∈ c, e.1.Pairwise (· < ·)
  nn : ∀ e ∈ c, 0 ≤ e.2
  nb : ∀ e ∈ c, e.2 ≤ 1000
  lt : ∀ e ∈ c, ∀ x ∈ e.1, 0 ≤ x ∧ x < c.length
  no : ∀ (i : Nat) (e : List Int × Int), c[i]? = some e → (i : Int) ∉ e.1
def CoP (n : Nat) (c : Co) : Prop := ∀ (j : Nat) (e : List Int × Int), c[j]? = some e → e.1.Sublist (rng n) ∧ (j : Int) ∉ e.1 ∧ 0 ≤ e.2 ∧ e.2 ≤ 1000
theorem CoP.add {n : Nat} {c : Co} {e : List Int × Int} (h : CoP n c) (h1 : e.1.Sublist (rng n)) (h2 : (c.length : Int) ∉ e.1) (h3 : 0 ≤ e.2) (h4 : e.2 ≤ 1000) : CoP n (c ++ [e]) := fun j x hj => by
  by_cases hl : j < c.length
  · rw [List.getElem?_append_left hl] at hj
    exact h j x hj
  · rw [List.getElem?_append_right (by omega)] at hj
    have hz : j - c.length = 0 := by
      have := (List.getElem?_eq_some_iff.mp hj).1
      simp at this
      omega
    rw [hz] at hj
    cases hj
    rw [show j = c.length by omega]
    exact ⟨h1, h2, h3, h4⟩
theorem sub_rng {n : Nat} {l : List Int} (h : l.Sublist (rng n)) : l.Pairwise (· < ·) ∧ (∀ x ∈ l, 0 ≤ x ∧ x < n) ∧ l.length ≤ n := by
  refine ⟨?_, fun x hx => mem_rng.mp (h.mem hx), ?_⟩
  · refine List.Pairwise.sublist h ?_
    unfold rng
    rw [List.pairwise_map]
    exact List.pairwise_lt_range.imp fun h => by omega
  · have := h.length_le
    rw [rng_len] at this
    exact this
theorem CoP.whole {c : Co} (h : CoP c.length c) : CoW c where
  up := fun e he => by
    obtain ⟨j, hj⟩ := List.mem_iff_getElem?.mp he
    exact (sub_rng (h j e hj).1).1
  nn := fun e he => by
    obtain ⟨j, hj⟩ := List.mem_iff_getElem?.mp he
    exact (h j e hj).2.2.1
  nb := fun e he => by
    obtain ⟨j, hj⟩ := List.mem_iff_getElem?.mp he
    exact (h j e hj).2.2.2
  lt := fun e he => by
    obtain ⟨j, hj⟩ := List.mem_iff_getElem?.mp he
    exact (sub_rng (h j e hj).1).2.1
  no := fun j e hj => (h j e hj).2.1
abbrev tups (rs : List (List Int)) : List PyData := rs.map fun r => .tuple (intsD r)
theorem asc_len {b : Int} : ∀ {l : List Int} {a : Int}, l.Pairwise (· < ·) → (∀ x ∈ l, a ≤ x ∧ x < b) → l.length ≤ (b - a).toNat
  | [], _, _, _ => Nat.zero_le _
  | x :: l, a, h, hb => by
    obtain ⟨h1, h2⟩ := List.pairwise_cons.mp h
    have hx := hb x List.mem_cons_self
    have := asc_len (a := x + 1) (b := b) h2 fun y hy => by
      have := h1 y hy
      have := hb y (List.mem_cons_of_mem _ hy)
      omega
    rw [List.length_cons]
    omega
theorem canLays_ints : ∀ ns : List Int, PyData.canLayAll0 (intsD ns) = true
  | [] => rfl
  | n :: ns => by
    show (PyData.canLay0 (.int n) && PyData.canLayAll0 (intsD ns)) = true
    rw [canLays_ints ns]
    rfl
theorem depth_ints : ∀ ns : List Int, PyData.depthAll (intsD ns) = 0
  | [] => rfl
  | n :: ns => by
    have := depth_ints ns
    simp only [intsD, List.map_cons, PyData.depthAll] at this ⊢
    rw [this]
    rfl
theorem shaped_tup (ns : List Int) : SeqAt.shaped (.tuple (intsD ns)) = true := by
  unfold SeqAt.shaped
  rw [Bool.and_eq_true_iff]
  refine ⟨canLays_ints ns, decide_eq_true ?_⟩
  simp only [PyData.depth, depth_ints]
  decide
theorem shaped_lst (ns : List Int) : SeqAt.shaped (.list (intsD ns)) = true := by
  unfold SeqAt.shaped
  rw [Bool.and_eq_true_iff]
  refine ⟨canLays_ints ns, decide_eq_true ?_⟩
  simp only [PyData.depth, depth_ints]
  decide
theorem eqvAll_ints : ∀ as bs : List Int, PyData.eqvAll (intsD as) (intsD bs) = decide (as = bs)
  | [], [] => rfl
  | [], b :: bs => rfl
  | a :: as, [] => rfl
  | a :: as, b :: bs => by
    show (PyData.eqv (.int a) (.int b) && PyData.eqvAll (intsD as) (intsD bs)) = _
    rw [eqvAll_ints as bs]
    simp only [PyData.eqv, List.cons.injEq, Bool.decide_and]
    congr 1
theorem eqv_lst (as bs : List Int) : PyData.eqv (.list (intsD as)) (.list (intsD bs)) = decide (as = bs) := eqvAll_ints as bs
end Ec
set_option Elab.async false
set_option linter.all false
namespace Ec
open PySem PySem.Spec PyProof.Rows L2
structure Cls (c : Co) (t b tt : List Int) : Prop where
  nd : tt.Nodup
  base : ∀ x ∈ t, x ∈ tt
  low : ∀ S : Int → Prop, Shut c b S → (∀ x ∈ t, S x) → ∀ x ∈ tt, S x
  len : tt.length + und c tt ≤ t.length + c.length
theorem Cls.start {c : Co} {t b : List Int} (h : t.Nodup) : Cls c t b t := ⟨h, fun _ h => h, fun _ _ h => h, by have := und_le c t; omega⟩
theorem Cls.add {c : Co} {t b tt : List Int} {i : Int} (h : Cls c t b tt) (h0 : 0 ≤ i) (h1 : i < c.length) (h2 : i ∉ tt) (h3 : i ∉ b) (h4 : comes c tt i = true) : Cls c t b (tt ++ [i]) where
  nd := List.nodup_append.mpr ⟨h.nd, by simp, fun x hx y hy e => by
    rw [List.mem_singleton] at hy
    subst hy
    subst e
    exact h2 hx⟩
  base := fun x m => List.mem_append_left _ (h.base x m)
  low := fun S hS ht x m => by
    rcases List.mem_append.mp m with m | m
    · exact h.low S hS ht x m
    · rw [List.mem_singleton] at m
      subst m
      exact hS x h0 h1 h3 ⟨tt, h.low S hS ht, h4⟩
  len := by
    have := und_lt (c := c) (t := tt) (s := [i]) ⟨i, List.mem_singleton.mpr rfl, h2, h0, h1⟩
    have := h.len
    rw [List.length_append, List.length_singleton]
    omega
def fits : Nat → PyData → Bool
  | _, .none => true
  | _, .bool _ => true
  | _, .int _ => true
  | _, .str x => SeqAt.shaped (.str x)
  | 0, .list _ => false
  | 0, .tuple _ => false
  | n + 1, .list ds => decide (ds.length ≤ 1000) && ds.all (fits n)
  | n + 1, .tuple ds => decide (ds.length ≤ 1000) && ds.all (fits n)
  | _, .dict _ => false
abbrev T_same (n : Nat) : TrD := fun xs μ R => ∃ d, xs = [.d d, .d d] ∧ fits n d = true ∧ R (.d (.bool true)) μ
theorem all_true {α : Type} (l : List α) : ((l.map fun _ => true).all id) = true := by
  rw [List.all_map]
  exact List.all_eq_true.mpr fun _ _ => rfl
theorem zip_self (ds : List PyData) : zipD ds ds = ds.map fun d => .tuple [d, d] := by
  unfold zipD
  induction ds with
  | nil => rfl
  | cons d r ih =>
    rw [List.zipWith_cons_cons, ih]
    rfl
theorem filt_all {α : Type} (l : List α) : l.filter (fun _ => true) = l := List.filter_eq_self.mpr fun _ _ => rfl
theorem eqv_ii (i : Int) : PyData.eqv (.int i) (.int i) = true := by simp [PyData.eqv]
theorem eqv_bb (i : Bool) : PyData.eqv (.bool i) (.bool i) = true := by simp [PyData.eqv]
theorem eqv_ss (i : Str) : PyData.eqv (.str i) (.str i) = true := by simp [PyData.eqv]
theorem eqv_nn : PyData.eqv .none .none = true := by simp [PyData.eqv]
theorem fits_ints (n : Nat) (ns : List Int) (h : ns.length ≤ 1000) : fits (n + 1) (.list (intsD ns)) = true ∧ fits (n + 1) (.tuple (intsD ns)) = true := by
  have : (intsD ns).all (fits n) = true := List.all_eq_true.mpr fun d hd => by
    obtain ⟨i, _, rfl⟩ := List.mem_map.mp hd
    unfold fits
    rfl
  unfold fits
  rw [this, List.length_map]
  simp [h]
end Ec
set_option Elab.async false
set_option linter.all false
set_option maxRecDepth 100000
set_option maxHeartbeats 4000000
namespace Ec
open PySem PySem.Spec PyProof.Rows L2
section
variable {X : Cx} {δ : Dl} {μ : Cells} {e a b : Expr} {pos p : Pos} {Q : Vd → Cells → Prop} {D : Dn} {sts : List Stmt}
theorem wts_nil {Q : Bool → Cells → Prop} (h : Q true μ) : WTs X [] δ μ Q := h
end
theorem CoW.frs {c : Co} (h : CoW c) (hl : c.length ≤ 40) : ∀ e ∈ c, e.1.length ≤ 1000 := fun e he => by
  have := asc_len (h.up e he) (h.lt e he)
  omega
theorem canLays_all : ∀ {ds : List PyData}, (∀ d ∈ ds, d.canLay0 = true) → PyData.canLayAll0 ds = true
  | [], _ => rfl
  | d :: ds, h => by
    show (PyData.canLay0 d && PyData.canLayAll0 ds) = true
    rw [h d List.mem_cons_self, canLays_all fun x m => h x (List.mem_cons_of_mem _ m)]
    rfl
theorem depths_le {k : Nat} : ∀ {ds : List PyData}, (∀ d ∈ ds, d.depth ≤ k) → PyData.depthAll ds ≤ k
  | [], _ => Nat.zero_le _
  | d :: ds, h => by
    simp only [PyData.depthAll]
    exact Nat.max_le.mpr ⟨h d List.mem_cons_self, depths_le fun x m => h x (List.mem_cons_of_mem _ m)⟩
theorem eqvs_self : ∀ {ds : List PyData}, (∀ d ∈ ds, PyData.eqv d d = true) → PyData.eqvAll ds ds = true
  | [], _ => rfl
  | d :: ds, h => by
    show (PyData.eqv d d && PyData.eqvAll ds ds) = true
    rw [h d List.mem_cons_self, eqvs_self fun x m => h x (List.mem_cons_of_mem _ m)]
    rfl
theorem fits_all : ∀ (n : Nat) (d : PyData), fits n d = true → d.canLay0 = true ∧ d.depth ≤ n ∧ PyData.eqv d d = true
  | n, .none, _ => ⟨rfl, Nat.zero_le _, eqv_nn⟩
  | n, .bool b, _ => ⟨rfl, Nat.zero_le _, eqv_bb b⟩
  | n, .int i, _ => ⟨rfl, Nat.zero_le _, eqv_ii i⟩
  | n, .str x, h => by
    have h' : SeqAt.shaped (.str x) = true := by
      unfold fits at h
      exact h
    unfold SeqAt.shaped at h'
    rw [Bool.and_eq_true_iff] at h'
    exact ⟨h'.1, Nat.zero_le _, eqv_ss x⟩
  | 0, .list ds, h => by simp [fits] at h
  | 0, .tuple ds, h => by simp [fits] at h
  | n, .dict ds, h => by simp [fits] at h
  | n + 1, .list ds, h => by
    simp [fits] at h
    have ih := fun d m => fits_all n d (h.2 d m)
    exact ⟨canLays_all fun d m => (ih d m).1, by simp only [PyData.depth]; exact Nat.succ_le_succ (depths_le fun d m => (ih d m).2.1), eqvs_self fun d m => (ih d m).2.2⟩
  | n + 1, .tuple ds, h => by
    simp [fits] at h
    have ih := fun d m => fits_all n d (h.2 d m)
    exact ⟨canLays_all fun d m => (ih d m).1, by simp only [PyData.depth]; exact Nat.succ_le_succ (depths_le fun d m => (ih d m).2.1), eqvs_self fun d m => (ih d m).2.2⟩
theorem fits_shaped {n : Nat} {d : PyData} (h : fits n d = true) (hn : n ≤ 64 := by decide) : SeqAt.shaped d = true := by
  obtain ⟨h1, h2, _⟩ := fits_all n d h
  unfold SeqAt.shaped
  rw [h1, Bool.true_and]
  exact decide_eq_true (Nat.le_trans h2 hn)
theorem fits_lst {n : Nat} {ds : List PyData} (hl : ds.length ≤ 1000) (h : ∀ d ∈ ds, fits n d = true) : fits (n + 1) (.list ds) = true := by
  unfold fits
  rw [decide_eq_true hl, List.all_eq_true.mpr h]
  rfl
section
variable {X : Cx} {δ : Dl} {μ : Cells}
end
abbrev T_right (k : Nat) : TrD := fun xs μ R => ∃ (b : Addr) (ds : List PyData) (m : Nat), xs = [.a b] ∧ μ = ([(b, ds)] : Cells) ∧ BoxOk m ds ∧ m + k ≤ 1000000000000 ∧ ∀ ds', BoxOk (m + k) ds' → R (.d (.bool true)) [(b, ds')]
section
variable {X : Cx} {δ : Dl} {μ : Cells} {D : Dn} {st : Stmt}
end
abbrev T_law : TrD := fun xs μ R => ∃ ns : List Int, xs = [.s ns] ∧ ns.length ≤ 63 ∧ μ = [] ∧ R (.d (.bool true)) []
theorem law_end {K : PySem.W.Frag} {vs : List V} {H : Hp} {Q : VK} {E : XK} (h : ∃ (a : Addr) (ns : List Int), vs = [.ref a] ∧ SqL K H a (ns.map V.int) ∧ ns.length ≤ 63 ∧ ∀ H', Q (.bl true) H') : spW K T_law vs H Q E := by
  obtain ⟨a, ns, rfl, hs, hl, q⟩ := h
  refine ⟨H, [.s ns], [], fun z _ => z = .d (.bool true), ⟨Same.refl _, List.nodup_nil, fun _ _ z => by cases z⟩, .cons ⟨a, rfl, hs⟩ .nil, ⟨ns, rfl, hl, rfl, rfl⟩, fun v x F' H' μ' _ _ o e => ?_⟩
  subst e
  rw [dp_bl o]
  exact q H'
end Ec
set_option Elab.async false
set_option linter.all false
set_option maxRecDepth 100000
set_option maxHeartbeats 4000000
namespace Ec
open PySem PySem.Spec PyProof.Rows L2
section
variable {prog : Program} {w : World} {A : Around} {E : Value → Shared → Prop} {s : Shared}
end
section
variable {X : Cx} {δ : Dl} {μ : Cells} {e a b : Expr} {pos p : Pos} {Q : Vd → Cells → Prop} {es : List Expr} {mg : Str → Option Value}
def posn (v : Int) : List Int → Nat
  | [] => 0
  | x :: r => if x = v then 0 else posn v r + 1
theorem posn_at {v : Int} : ∀ {ns : List Int}, v ∈ ns → ns[posn v ns]? = some v ∧ ∀ m : Nat, m < posn v ns → ∀ z, ns[m]? = some z → z ≠ v
  | [], h => by cases h
  | x :: r, h => by
    unfold posn
    by_cases e : x = v
    · rw [if_pos e]
      exact ⟨by rw [e]; rfl, fun m h => absurd h (Nat.not_lt_zero _)⟩
    · rw [if_neg e]
      rcases List.mem_cons.mp h with h | h
      · exact absurd h.symm e
      · obtain ⟨h1, h2⟩ := posn_at h
        refine ⟨by simpa using h1, fun m hm z hz => ?_⟩
        cases m with
        | zero =>
          simp at hz
          rw [← hz]
          exact e
        | succ m => exact h2 m (by omega) z (by simpa using hz)
end
end Ec
set_option Elab.async false
set_option linter.all false
namespace Ec
open PySem PySem.Spec PyProof.Rows L2
def misL (c : Co) (r : List Int) : List Nat := (List.range r.length).filter fun i => !comes c (r.take i) (r.getD i 0)
def bh (c : Co) (p : Int) : List Int := (rng c.length).filter fun o => !decide (o = p) && !decide (o ∈ cl c [] [p])
def duoD (q : Int × Int) : PyData := .tuple [.int q.1, .int q.2]
def prs (n : Nat) : List (Int × Int) := (rng n).flatMap fun lo => ((rng n).filter fun h => decide (lo < h)).map fun h => (lo, h)
def mb (c : Co) : List (Int × Int) := (rng c.length).flatMap fun p => (bh c p).map fun o => (p, o)
def fp (c : Co) : List (Int × Int) := (prs c.length).filter fun q => !decide (q ∈ mb c) && !decide ((q.2, q.1) ∈ mb c)
def er (c : Co) (p : Int) : List Int := ((rng c.length).filter fun o => !decide (o = p)).filter fun o => decide (p ∈ bh c o)
theorem pr_fits (q : Int × Int) : fits 1 (duoD q) = true := by
  unfold duoD fits
  simp only [List.all_cons, List.all_nil]
  unfold fits
  rfl
theorem shaped_lst' {n : Nat} {ds : List PyData} (h : ∀ d ∈ ds, fits n d = true) (hn : n + 1 ≤ 64 := by decide) : SeqAt.shaped (.list ds) = true := by
  have ih := fun d m => fits_all n d (h d m)
  unfold SeqAt.shaped
  rw [Bool.and_eq_true_iff]
  refine ⟨canLays_all fun d m => (ih d m).1, decide_eq_true ?_⟩
  simp only [PyData.depth]
  exact Nat.le_trans (Nat.succ_le_succ (depths_le fun d m => (ih d m).2.1)) hn
theorem prs_shaped (l : List (Int × Int)) : SeqAt.shaped (.list (l.map duoD)) = true := shaped_lst' (n := 1) fun d m => by
  obtain ⟨q, _, rfl⟩ := List.mem_map.mp m
  exact pr_fits q
end Ec
set_option Elab.async false
set_option linter.all false
set_option maxRecDepth 100000
set_option maxHeartbeats 4000000
namespace Ec
theorem cnt_two {α : Type} (f : α → Bool) : ∀ L : List α, (L.filter f).length + (L.filter fun p => !f p).length = L.length
  | [] => rfl
  | x :: r => by
    have := cnt_two f r
    rw [List.filter_cons, List.filter_cons]
    cases hf : f x <;> simp <;> omega
theorem nodup_le {as bs : List Int} (ha : as.Nodup) (hb : bs.Nodup) (h : ∀ x ∈ as, x ∈ bs) : as.length ≤ bs.length := by
  have p : as.Perm (bs.filter fun x => decide (x ∈ as)) := perm_of_mem ha (hb.filter _) fun x => by
    rw [List.mem_filter]
    exact ⟨fun m => ⟨h x m, decide_eq_true m⟩, fun m => of_decide_eq_true m.2⟩
  rw [p.length_eq]
  exact List.length_filter_le _ _
theorem len_und {c : Co} {t : List Int} (h : t.Nodup) (hr : ∀ x ∈ t, 0 ≤ x ∧ x < c.length) : t.length + und c t = c.length := by
  have p : t.Perm ((rng c.length).filter fun x => decide (x ∈ t)) := perm_of_mem h ((rng_nodup _).filter _) fun x => by
    rw [List.mem_filter]
    exact ⟨fun m => ⟨mem_rng.mpr (hr x m), decide_eq_true m⟩, fun m => of_decide_eq_true m.2⟩
  have := cnt_two (fun x => decide (x ∈ t)) (rng c.length)
  rw [rng_len] at this
  unfold und
  rw [p.length_eq]
  exact this
theorem gr_nodup (c : Co) : (gr c).Nodup := cl_nodup List.nodup_nil
theorem gr_rng (c : Co) : ∀ x ∈ gr c, 0 ≤ x ∧ x < c.length := cl_rng fun x h => by cases h
theorem whole_iff (c : Co) : nev c = [] ↔ ∀ p : Int, 0 ≤ p → p < c.length → p ∈ gr c := by
  unfold nev
  rw [List.filter_eq_nil_iff]
  constructor
  · intro h p h0 h1
    have := h p (mem_rng.mpr ⟨h0, h1⟩)
    simpa using this
  · intro h p hp
    have := mem_rng.mp hp
    simpa using h p this.1 this.2
theorem whole_len {c : Co} (h : nev c = []) : (gr c).length = c.length := by
  have h1 := nodup_le (gr_nodup c) (rng_nodup c.length) fun x m => mem_rng.mpr (gr_rng c x m)
  have h2 := nodup_le (rng_nodup c.length) (gr_nodup c) fun x m => (whole_iff c).mp h x (mem_rng.mp m).1 (mem_rng.mp m).2
  rw [rng_len] at h1 h2
  omega
structure POrd (c : Co) (r : List Int) : Prop where
  nd : r.Nodup
  rg : ∀ x ∈ r, 0 ≤ x ∧ x < c.length
  ok : ∀ i : Nat, ∀ x, r[i]? = some x → comes c (r.take i) x = true
theorem POrd.nil (c : Co) : POrd c [] := ⟨List.nodup_nil, fun x h => (by cases h), fun i x h => (by simp at h)⟩
theorem POrd.add {c : Co} {r : List Int} {x : Int} (h : POrd c r) (h0 : 0 ≤ x) (h1 : x < c.length) (h2 : x ∉ r) (h3 : comes c r x = true) : POrd c (r ++ [x]) where
  nd := List.nodup_append.mpr ⟨h.nd, by simp, fun a ha b hb e => by
    rw [List.mem_singleton] at hb
    subst hb
    subst e
    exact h2 ha⟩
  rg := fun y m => by
    rcases List.mem_append.mp m with m | m
    · exact h.rg y m
    · rw [List.mem_singleton] at m
      subst m
      exact ⟨h0, h1⟩
  ok := fun i y hy => by
    by_cases hi : i < r.length
    · rw [List.getElem?_append_left hi] at hy
      rw [List.take_append_of_le_length (by omega)]
      exact h.ok i y hy
    · have hl := (List.getElem?_eq_some_iff.mp hy).1
      rw [List.length_append, List.length_singleton] at hl
      have e : i = r.length := by omega
      subst e
      rw [List.getElem?_append_right (Nat.le_refl _), Nat.sub_self] at hy
      cases hy
      rw [List.take_append_of_le_length (Nat.le_refl _), List.take_length]
      exact h3
theorem POrd.take {c : Co} {r : List Int} (h : POrd c r) (k : Nat) : POrd c (r.take k) where
  nd := h.nd.sublist (List.take_sublist _ _)
  rg := fun x m => h.rg x (List.mem_of_mem_take m)
  ok := fun i x hx => by
    have hl := (List.getElem?_eq_some_iff.mp hx).1
    rw [List.length_take] at hl
    rw [List.getElem?_take_of_lt (by omega)] at hx
    rw [List.take_take, Nat.min_eq_left (by omega)]
    exact h.ok i x hx
theorem POrd.len {c : Co} {r : List Int} (h : POrd c r) : r.length ≤ c.length := by
  have := nodup_le h.nd (rng_nodup c.length) fun x m => mem_rng.mpr (h.rg x m)
  rw [rng_len] at this
  exact this
theorem POrd.more {c : Co} {r : List Int} (h : POrd c r) (hw : nev c = []) (hl : r.length < c.length) : ∃ x : Int, 0 ≤ x ∧ x < c.length ∧ x ∉ r ∧ comes c r x = true := by
  apply Classical.byContradiction
  intro hn
  have hS : Shut c [] (fun x => x ∈ r) := fun p h0 h1 _ ⟨t, ht, hc⟩ => by
    apply Classical.byContradiction
    intro hp
    exact hn ⟨p, h0, h1, hp, comes_mono ht hc⟩
  have hin := cl_in (t := []) hS (fun x h => by cases h)
  have := nodup_le (gr_nodup c) h.nd hin
  rw [whole_len hw] at this
  omega
theorem POrd.sub {c : Co} {s : Int} : ∀ {r : List Int}, POrd c r → s ∉ r → ∀ x ∈ r, x ∈ cl c [] [s] := fun {r} h hs => by
  have key : ∀ k, ∀ x ∈ r.take k, x ∈ cl c [] [s] := fun k => by
    induction k with
    | zero => intro x hx; simp at hx
    | succ k ih =>
      intro x hx
      cases q : r[k]? with
      | none =>
        rw [List.take_add_one, q] at hx
        exact ih x (by simpa using hx)
      | some y =>
        rw [List.take_add_one, q] at hx
        rcases List.mem_append.mp hx with hx | hx
        · exact ih x hx
        · have e : x = y := by simpa using hx
          subst e
          have hm := List.mem_of_getElem? q
          refine cl_shut c [] [s] x (h.rg x hm).1 (h.rg x hm).2 ?_ ⟨r.take k, ih, h.ok k x q⟩
          intro z
          rw [List.mem_singleton] at z
          exact hs (z ▸ hm)
  intro x hx
  refine key r.length x ?_
  rw [List.take_length]
  exact hx
structure IsOrd (c : Co) (r : List Int) : Prop where
  po : POrd c r
  len : r.length = c.length
theorem IsOrd.mem {c : Co} {r : List Int} (h : IsOrd c r) {x : Int} (h0 : 0 ≤ x) (h1 : x < c.length) : x ∈ r := by
  have p : und c r = 0 := by
    have := len_und h.po.nd h.po.rg
    have := h.len
    omega
  unfold und at p
  have := List.filter_eq_nil_iff.mp (List.length_eq_zero_iff.mp p) x (mem_rng.mpr ⟨h0, h1⟩)
  simpa using this
theorem IsOrd.perm {c : Co} {r : List Int} (h : IsOrd c r) : r.Perm (rng c.length) := perm_of_mem h.po.nd (rng_nodup _) fun x => ⟨fun m => mem_rng.mpr (h.po.rg x m), fun m => h.mem (mem_rng.mp m).1 (mem_rng.mp m).2⟩
theorem rng_up (n : Nat) : (rng n).Pairwise (· ≤ ·) := by
  unfold rng
  rw [List.pairwise_map]
  exact List.pairwise_lt_range.imp fun h => by omega
theorem misL_nil {c : Co} {r : List Int} (h : POrd c r) : misL c r = [] := by
  unfold misL
  refine List.filter_eq_nil_iff.mpr fun i hi => ?_
  have hl := List.mem_range.mp hi
  have := h.ok i r[i] (List.getElem?_eq_getElem hl)
  rw [List.getD_eq_getElem?_getD, List.getElem?_eq_getElem hl]
  simp [this]
theorem posn_lt {v : Int} {r : List Int} (h : v ∈ r) : posn v r < r.length := (List.getElem?_eq_some_iff.mp (posn_at h).1).1
theorem posn_take {v : Int} {r : List Int} (h : v ∈ r) : v ∉ r.take (posn v r) := fun z => by
  obtain ⟨k, hk⟩ := List.mem_iff_getElem?.mp z
  have hl := (List.getElem?_eq_some_iff.mp hk).1
  rw [List.length_take] at hl
  rw [List.getElem?_take_of_lt (by omega)] at hk
  exact (posn_at h).2 k (by omega) v hk rfl
theorem mem_bh {c : Co} {p o : Int} : o ∈ bh c p ↔ (0 ≤ o ∧ o < c.length) ∧ o ≠ p ∧ o ∉ cl c [] [p] := by
  unfold bh
  rw [List.mem_filter, mem_rng]
  simp
structure Led (c : Co) (s : Int) (r : List Int) : Prop where
  po : POrd c r
  off : s ∈ r → ∀ x ∈ cl c [] [s], x ∈ r.take (posn s r)
theorem posn_end {v : Int} {r : List Int} (h : v ∉ r) : posn v (r ++ [v]) = r.length := by
  induction r with
  | nil => simp [posn]
  | cons x t ih =>
    show (if x = v then 0 else posn v (t ++ [v]) + 1) = t.length + 1
    rw [if_neg (fun e : x = v => h (by rw [← e]; exact List.mem_cons_self)), ih fun m => h (List.mem_cons_of_mem _ m)]
theorem Led.nil (c : Co) (s : Int) : Led c s [] := ⟨POrd.nil c, fun h => (by cases h)⟩
theorem Led.self {c : Co} {s : Int} {r : List Int} (h : Led c s r) (hp : POrd c (r ++ [s])) (hs : s ∉ r) (hno : ∀ x : Int, 0 ≤ x → x < c.length → x ∉ r → comes c r x = true → x = s) : Led c s (r ++ [s]) := ⟨hp, fun _ y hy => by
  rw [posn_end hs, List.take_append_of_le_length (Nat.le_refl _), List.take_length]
  refine cl_in (t := []) (fun p h0 h1 hb ⟨t, ht, hc⟩ => ?_) (fun x h => by cases h) y hy
  apply Classical.byContradiction
  intro hn
  exact hb (List.mem_singleton.mpr (hno p h0 h1 hn (comes_mono ht hc)))⟩
theorem Led.set {c : Co} {s : Int} {r : List Int} (h : Led c s r) (hs : s ∈ r) (x : Int) : x ∈ r.take (posn s r) ↔ x ∈ cl c [] [s] := ⟨(h.po.take _).sub (posn_take hs) x, h.off hs x⟩
theorem Led.place {c : Co} {s : Int} {r : List Int} (h : Led c s r) (hs : s ∈ r) : posn s r = (cl c [] [s]).length := by
  have p : (r.take (posn s r)).Perm (cl c [] [s]) := perm_of_mem (h.po.take _).nd (cl_nodup List.nodup_nil) (h.set hs)
  rw [← p.length_eq, List.length_take]
  have := posn_lt hs
  omega
theorem Led.rest {c : Co} {s : Int} {r : List Int} (h : Led c s r) (hl : r.length = c.length) (h0 : 0 ≤ s) (h1 : s < c.length) : srt (r.drop (posn s r + 1)) = bh c s := by
  have ho : IsOrd c r := ⟨h.po, hl⟩
  have hs := ho.mem h0 h1
  have nd2 : (r.drop (posn s r + 1)).Nodup := h.po.nd.sublist (List.drop_sublist _ _)
  have split : ∀ x, x ∈ r ↔ x ∈ r.take (posn s r) ∨ x = s ∨ x ∈ r.drop (posn s r + 1) := fun x => by
    have e : r = r.take (posn s r) ++ (s :: r.drop (posn s r + 1)) := by
      have h2 := (posn_at hs).1
      obtain ⟨hl2, e2⟩ := List.getElem?_eq_some_iff.mp h2
      conv => lhs; rw [← List.take_append_drop (posn s r) r]
      rw [List.drop_eq_getElem_cons hl2, e2]
    constructor
    · intro m
      rw [e] at m
      rcases List.mem_append.mp m with m | m
      · exact .inl m
      · rcases List.mem_cons.mp m with m | m
        · exact .inr (.inl m)
        · exact .inr (.inr m)
    · rintro (m | rfl | m)
      · exact List.mem_of_mem_take m
      · exact hs
      · exact List.mem_of_mem_drop m
  have dis : ∀ x, x ∈ r.drop (posn s r + 1) → x ∉ r.take (posn s r) ∧ x ≠ s := fun x m => by
    have nd := h.po.nd
    rw [← List.take_append_drop (posn s r + 1) r] at nd
    have d := (List.nodup_append.mp nd).2.2
    have e3 : r.take (posn s r + 1) = r.take (posn s r) ++ [s] := by rw [List.take_add_one, (posn_at hs).1]; rfl
    rw [e3] at d
    exact ⟨fun z => d x (List.mem_append_left _ z) x m rfl, fun z => d s (List.mem_append_right _ (List.mem_singleton.mpr rfl)) x m z.symm⟩
  have up : (bh c s).Pairwise (· ≤ ·) := (rng_up _).sublist List.filter_sublist
  refine srt_one ((srt_perm _).trans ?_) (srt_up _) up
  refine perm_of_mem nd2 ((rng_nodup _).filter _) fun x => ?_
  rw [mem_bh, ← h.set hs]
  constructor
  · intro m
    exact ⟨h.po.rg x (List.mem_of_mem_drop m), (dis x m).2, (dis x m).1⟩
  · rintro ⟨hr, hn, hx⟩
    rcases (split x).mp (ho.mem hr.1 hr.2) with m | m | m
    · exact absurd m hx
    · exact absurd m hn
    · exact m
section
open PySem PySem.Spec PyProof.Rows L2
def Eas (c c' : Co) : Prop := ∀ (i : Nat) (e : List Int × Int), c[i]? = some e → ∃ k, c'[i]? = some (e.1, k) ∧ (k = e.2 ∨ (0 ≤ k ∧ k ≤ e.2))
theorem Eas.refl (c : Co) : Eas c c := fun i e h => ⟨e.2, h, .inl rfl⟩
end
end Ec
set_option Elab.async false
set_option linter.all false
set_option maxRecDepth 100000
set_option maxHeartbeats 4000000
namespace Ec
theorem map_nodup {α β : Type} {f : α → β} (hf : ∀ x y, f x = f y → x = y) {l : List α} (h : l.Nodup) : (l.map f).Nodup := by
  rw [List.nodup_iff_pairwise_ne, List.pairwise_map]
  exact (List.nodup_iff_pairwise_ne.mp h).imp fun hn e => hn (hf _ _ e)
section
open PySem PySem.Spec PyProof.Rows L2
end
end Ec
set_option Elab.async false
set_option linter.all false
namespace Ec
open PySem PySem.Spec PyProof.Rows L2
end Ec
set_option Elab.async false
set_option linter.all false
set_option maxRecDepth 100000
set_option maxHeartbeats 4000000
namespace Ec
open PySem PySem.Spec PyProof.Rows L2
section
variable {X : Cx} {δ : Dl} {μ : Cells} {e a b tg : Expr} {pos p : Pos} {Q : Vd → Cells → Prop} {D : Dn} {QI : List PyData → Cells → Prop} {mg : Str → Option Value}
end
end Ec
set_option Elab.async false
set_option linter.all false
set_option maxRecDepth 100000
set_option maxHeartbeats 4000000
namespace Ec
open PySem PySem.Spec PyProof.Rows L2
def swp (r : List Int) (i : Nat) : List Int := r.take i ++ [r.getD (i + 1) 0, r.getD i 0] ++ r.drop (i + 2)
theorem swp_perm {r : List Int} {i : Nat} (h : i + 1 < r.length) : (swp r i).Perm r := by
  have e1 : r.drop i = r.getD i 0 :: r.drop (i + 1) := by
    rw [List.drop_eq_getElem_cons (by omega), List.getD_eq_getElem?_getD, List.getElem?_eq_getElem (by omega)]
    rfl
  have e2 : r.drop (i + 1) = r.getD (i + 1) 0 :: r.drop (i + 2) := by
    rw [List.drop_eq_getElem_cons h, List.getD_eq_getElem?_getD, List.getElem?_eq_getElem h]
    rfl
  have e3 : r.take i ++ (r.getD i 0 :: r.getD (i + 1) 0 :: r.drop (i + 2)) = r := by
    rw [← e2, ← e1, List.take_append_drop]
  refine List.Perm.trans ?_ (List.Perm.of_eq e3)
  unfold swp
  rw [List.append_assoc]
  exact List.Perm.append_left _ (List.Perm.swap _ _ _)
theorem swp_len {r : List Int} {i : Nat} (h : i + 1 < r.length) : (swp r i).length = r.length := (swp_perm h).length_eq
abbrev natsD (l : List Nat) : List PyData := l.map fun i : Nat => .int (i : Int)
def frp (c : Co) (r : List Int) : List Nat := (List.range (r.length - 1)).filter fun i => (misL c (swp r i)).isEmpty
theorem IsOrd.lens {c : Co} {r : List Int} (h : IsOrd c r) : r.length = c.length := by
  have := h.perm.length_eq
  rw [rng_len] at this
  exact this
section
variable {X : Cx} {δ : Dl} {μ : Cells} {a b c tg : Expr} {pos p : Pos} {QI : List PyData → Cells → Prop}
end
end Ec
set_option Elab.async false
set_option linter.all false
namespace Ec
open PySem PySem.Spec PyProof.Rows L2
theorem posn_eq {v : Int} {r : List Int} {k : Nat} (h : r.Nodup) (e : r[k]? = some v) : posn v r = k := by
  have hm : v ∈ r := List.mem_of_getElem? e
  have h1 := (posn_at hm).1
  exact (List.getElem?_inj (posn_lt hm) h).mp (h1.trans e.symm)
structure Row (n : Nat) (r : List Int) : Prop where
  nd : r.Nodup
  rg : ∀ x, x ∈ r ↔ 0 ≤ x ∧ x < n
theorem IsOrd.row {c : Co} {r : List Int} (h : IsOrd c r) : Row c.length r := ⟨h.po.nd, fun x => ⟨h.po.rg x, fun g => h.mem g.1 g.2⟩⟩
theorem Row.len {n : Nat} {r : List Int} (h : Row n r) : r.length = n := by
  have := (perm_of_mem h.nd (rng_nodup n) fun x => (h.rg x).trans mem_rng.symm).length_eq
  rw [rng_len] at this
  exact this
theorem Row.swp {n : Nat} {r : List Int} (h : Row n r) {i : Nat} (hi : i + 1 < r.length) : Row n (swp r i) :=
  ⟨(swp_perm hi).nodup_iff.mpr h.nd, fun x => (swp_perm hi).mem_iff.trans (h.rg x)⟩
theorem Row.at {n : Nat} {r : List Int} (h : Row n r) {i : Nat} (hi : i < r.length) : r[i]? = some (r.getD i 0) := by
  rw [List.getD_eq_getElem?_getD, List.getElem?_eq_getElem hi]
  rfl
theorem Row.posn {n : Nat} {r : List Int} (h : Row n r) {i : Nat} (hi : i < r.length) : posn (r.getD i 0) r = i := posn_eq h.nd (h.at hi)
theorem Row.ne {n : Nat} {r : List Int} (h : Row n r) {i j : Nat} (hi : i < r.length) (hj : j < r.length) (hn : i ≠ j) : r.getD i 0 ≠ r.getD j 0 := fun e => hn (by rw [← h.posn hi, ← h.posn hj, e])
def xd (r s : List Int) (x : Int × Int) : Bool := !decide (decide (((posn x.1 r : Nat) : Int) < ((posn x.2 r : Nat) : Int)) = decide (((posn x.1 s : Nat) : Int) < ((posn x.2 s : Nat) : Int)))
theorem frp_ok {c : Co} {r : List Int} (h : IsOrd c r) {i : Nat} : i ∈ frp c r ↔ i + 1 < r.length ∧ IsOrd c (swp r i) := by
  unfold frp
  rw [List.mem_filter, List.mem_range]
  constructor
  · rintro ⟨h1, h2⟩
    have hi : i + 1 < r.length := by omega
    refine ⟨hi, ⟨(h.row.swp hi).nd, fun x hx => ((h.row.swp hi).rg x).mp hx, fun j x hj => ?_⟩, by rw [swp_len hi]; exact h.lens⟩
    have e : misL c (swp r i) = [] := List.isEmpty_iff.mp h2
    unfold misL at e
    have hl := (List.getElem?_eq_some_iff.mp hj).1
    have := List.filter_eq_nil_iff.mp e j (List.mem_range.mpr hl)
    rw [List.getD_eq_getElem?_getD, hj] at this
    simpa using this
  · rintro ⟨h1, h2⟩
    exact ⟨by omega, by rw [misL_nil h2.po]; rfl⟩
inductive Pth (c : Co) : List Int → List Nat → List Int → Prop
  | nil (r : List Int) : Pth c r [] r
  | snoc {r s : List Int} {ps : List Nat} {i : Nat} (h : Pth c r ps s) (hi : i ∈ frp c s) : Pth c r (ps ++ [i]) (swp s i)
theorem Pth.ord {c : Co} {r s : List Int} {ps : List Nat} (h : Pth c r ps s) (ho : IsOrd c r) : IsOrd c s := by
  induction h with
  | nil => exact ho
  | snoc _ hi ih => exact ((frp_ok ih).mp hi).2
theorem natsD_ints (l : List Nat) : natsD l = intsD (l.map fun i : Nat => (i : Int)) := by simp [natsD, intsD]
end Ec
set_option Elab.async false
set_option linter.all false
set_option maxRecDepth 100000
set_option maxHeartbeats 4000000
namespace Ec
open PySem PySem.Spec PyProof.Rows L2
section
variable {K : PySem.W.Frag} {μ : Cells} {Q : Vd → Cells → Prop}
end
section
variable {prog : Program} {w : World} {A : Around} {E : Value → Shared → Prop} {s : Shared}
end
section
variable {X : Cx} {δ : Dl} {μ : Cells} {e a b c : Expr} {pos p : Pos} {Q : Vd → Cells → Prop} {mg : Str → Option Value}
end
section
variable {X : Cx} {δ : Dl} {μ : Cells} {a b c : Expr} {pos : Pos} {D : Dn}
end
end Ec
set_option Elab.async false
set_option linter.all false
set_option maxRecDepth 100000
set_option maxHeartbeats 4000000
namespace Ec
open PySem PySem.Spec PyProof.Rows L2
end Ec
set_option Elab.async false
set_option linter.all false
set_option maxRecDepth 100000
set_option maxHeartbeats 4000000
namespace Ec
open PySem PySem.Spec PyProof.Rows L2
def getI : List (Int × PyData) → Int → Option PyData
  | [], _ => none
  | p :: r, k => if p.1 = k then some p.2 else getI r k
section
variable {X : Cx} {δ : Dl} {μ : Cells} {Q : Vd → Cells → Prop} {a b o i : Expr} {pos : Pos}
end
def NF (u : HO) : Prop := (∀ xs, u ≠ .tup xs) ∧ ∀ o v, u ≠ .frz o v
section
variable {K : PySem.W.Frag} {F H : Hp} {p : Addr} {od : Obj} {u : HO}
theorem CelOk.dict {c : Cont} (h : CelOk K F H p c) (nl : ∀ ds, c ≠ .l ds) : ∃ u, H p = some u ∧ Mut (some u) ∧ NF u ∧ (∀ F' od, Same F F' → F' p = some (.frz od u) → LkOk K F' p c) ∧ ∀ F' H', Same F F' → H' p = some u → CelOk K F' H' p c := by
  cases c with
  | l ds => exact absurd rfl (nl ds)
  | i kvs =>
    obtain ⟨ws, h1, h2⟩ := h
    exact ⟨_, h2, trivial, ⟨(fun xs z => by cases z), fun o v z => by cases z⟩, fun F' od e g => ⟨od, ws, dps_up e _ _ h1, g⟩, fun F' H' e g => ⟨ws, dps_up e _ _ h1, g⟩⟩
  | t kvs =>
    obtain ⟨xs, h1, h2⟩ := h
    have up : ∀ F', Same F F' → Paired (DtE K F') xs kvs := fun F' e => Paired.mapP h2 fun x p ⟨e1, ⟨o, e2, e3⟩, w, e4, e5⟩ => ⟨e1, ⟨o, e _ _ e2, e3⟩, w, e4, dp_up e _ _ e5⟩
    exact ⟨_, h1, trivial, ⟨(fun xs z => by cases z), fun o v z => by cases z⟩, fun F' od e g => ⟨od, xs, g, up F' e⟩, fun F' H' e g => ⟨xs, g, up F' e⟩⟩
  | o C fs =>
    obtain ⟨dx, vs, h1, h2⟩ := h
    exact ⟨_, h1, trivial, ⟨(fun xs z => by cases z), fun o v z => by cases z⟩, fun F' od e g => ⟨od, dx, vs, g, FlE.up e h2⟩, fun F' H' e g => ⟨dx, vs, g, FlE.up e h2⟩⟩
end
section
variable {X : Cx} {δ : Dl} {μ : Cells} {Q : Vd → Cells → Prop} {e : Expr} {D : Dn} {st : Stmt}
end
section
variable {X : Cx} {δ : Dl} {μ : Cells} {e tg : Expr} {QI : List PyData → Cells → Prop}
end
def ndI (kvs : List (Int × PyData)) : Prop := (kvs.map Prod.fst).Nodup
section
variable {X : Cx} {δ : Dl} {μ : Cells} {Q : Vd → Cells → Prop} {o e : Expr} {apos cpos : Pos}
end
end Ec
set_option Elab.async false
set_option linter.all false
set_option maxRecDepth 100000
set_option maxHeartbeats 4000000
namespace Ec
open PySem PySem.Spec PyProof.Rows L2
structure Bas (B newId initId : String) (bmB : List Value) : Prop where
  F : ExcBaseFacts B newId initId bmB
  S : StoreFacts B bmB "object.__setattr__" "object"
  tl : PySem.W.excTail bmB bmB = true
  ty : typeOf (.type B) = pure (.type "type")
  bt : ∃ x : Str, bootBuiltins x = some (.type B)
theorem bas_VE : Bas "ValueError" "ValueError.__new__" "ValueError.__init__" [.type "ValueError", .type "Exception", .type "BaseException", .type "object"] :=
  ⟨F.excBase_ValueError, F.store_ValueError, by decide +kernel, by kernel_rfl, "ValueError", by kernel_rfl⟩
theorem bas_LE : Bas "LookupError" "LookupError.__new__" "LookupError.__init__" [.type "LookupError", .type "Exception", .type "BaseException", .type "object"] :=
  ⟨F.excBase_LookupError, F.store_LookupError, by decide +kernel, by kernel_rfl, "LookupError", by kernel_rfl⟩
theorem bas_RE : Bas "RuntimeError" "RuntimeError.__new__" "RuntimeError.__init__" [.type "RuntimeError", .type "Exception", .type "BaseException", .type "object"] :=
  ⟨F.excBase_RuntimeError, F.store_RuntimeError, by decide +kernel, by kernel_rfl, "RuntimeError", by kernel_rfl⟩
theorem bas_OE : Bas "OverflowError" "OverflowError.__new__" "OverflowError.__init__" [.type "OverflowError", .type "ArithmeticError", .type "Exception", .type "BaseException", .type "object"] :=
  ⟨F.excBase_OverflowError, F.store_OverflowError, by decide +kernel, by kernel_rfl, "OverflowError", by kernel_rfl⟩
structure Oxg (K : PySem.W.Frag) (C : Addr) (newId : String) (bmB : List Value) : Prop where
  cl : ∃ nm q N bs sn sub ab col dd k0 k1 k2 k3 k5, K.lookup C = some (excClassObj nm q C N bs bmB true sn sub ab col dd k0 k1 k2 k3 k5 newId)
  sa : PySem.W.findIn K (.ref C) "__setattr__" = some (some (.builtin "object.__setattr__"))
  exC : PySem.W.subIn K (.ref C) (.type "BaseException") = some true
  tyC : PySem.W.typeIn K (.ref C) = some (.type "type")
  kC : PySem.W.keepIn K (.ref C) = true
section
variable {X : Cx} {pins : List (Addr × Obj)} {σ : L2.St} {H : Hp} {s : Shared} {a C dx : Addr} {f : Str} {y : V} {u : Value} {E : Value → Shared → Prop} {A : Around} {B newId initId : String} {bmB : List Value}
theorem Oxg.obj (T : Oxg X.K C newId bmB) (I : Inv X pins σ H s) : ∃ nm q N bs sn sub ab col dd k0 k1 k2 k3 k5, s.heap.get? C = some (excClassObj nm q C N bs bmB true sn sub ab col dd k0 k1 k2 k3 k5 newId) := by
  obtain ⟨nm, q, N, bs, sn, sub, ab, col, dd, k0, k1, k2, k3, k5, h⟩ := T.cl
  exact ⟨nm, q, N, bs, sn, sub, ab, col, dd, k0, k1, k2, k3, k5, I.kIn _ _ h⟩
theorem ini_base {us : List Value} {Q : Value → Shared → Prop} (Z : Bas B newId initId bmB) (T : Oxg X.K C newId bmB) (I : Inv X pins σ H s) (e : H a = some (exo a C none)) (hl : us.length ≤ sizeLine) (h : ∀ s', Inv X pins σ H s' → Q .none s') :
    wpAny (model X.prog X.w) A (call (.builtin initId) (.ref a :: us)) Q E s := by
  obtain ⟨nm, q, N, bs, sn, sub, ab, col, dd, k0, k1, k2, k3, k5, hC⟩ := T.obj I
  obtain ⟨t1, ho⟩ := exo_at I.hok e
  obtain ⟨hp, g, d, t, os⟩ := s
  refine wpAny_call (PySem.HandSPX.init_base Z.F (fun _ => rfl) hC ho hl fun h' t2 k hx => ?_)
  have same : upd H a (exo a C none) = H := by
    funext b
    by_cases hb : b = a
    · rw [hb, upd_same, e]
    · rw [upd_ne hb]
  have J := I.write (t' := t) (x := a) (e := a) (o := exo a C none) (by rw [e]; trivial) (.inl rfl) k ⟨_, hx⟩ (exo_ok hx)
  rw [same] at J
  exact h _ J
theorem sto_base {Q : Unit → Shared → Prop} (Z : Bas B newId initId bmB) (T : Oxg X.K C newId bmB) (I : Inv X pins σ H s) (e : H a = some (exo a C none)) (hno : PySem.W.findIn X.K (.ref C) f = some none) (ry : RelV y u)
    (h : ∀ dx s', H dx = none → dx ≠ a → Inv X pins σ (upd (upd H dx (exd dx [(f, y)])) a (exo a C (some dx))) s' → Q () s') : wpAny (model X.prog X.w) A (setAttr (.ref a) f u) Q E s := by
  obtain ⟨nm, q, N, bs, sn, sub, ab, col, dd, k0, k1, k2, k3, k5, hC⟩ := T.cl
  have hcl : PySem.W.clsIn X.K C = some { name := nm, bases := bs, mro := .ref C :: bmB, ns := N, qualname := q, hasDict := true, slotNames := sn, subclasses := sub, abstract := ab, collection := col, hasDel := false } := by
    unfold PySem.W.clsIn
    rw [hC]
  have hov : PySem.W.excOver X.K C bmB = true := by
    unfold PySem.W.excOver
    rw [hcl]
    show (C == C && PySem.W.excTail bmB bmB) = true
    rw [Z.tl, beq_self_eq_true]
    rfl
  have htk : PySem.W.takerIn X.K C f = some none := by
    unfold PySem.W.takerIn
    rw [hno]
    rfl
  obtain ⟨t1, ho⟩ := exo_at I.hok e
  obtain ⟨hp, g, d, t, os⟩ := s
  have hcls : PySem.W.Looks (model X.prog X.w) hp (classData C) _ := PySem.W.looks_clsIn I.kIn hcl
  have hxs : a ≠ hp.objs.size := Nat.ne_of_lt (Heap.lt_size ho)
  refine PySem.W.set_plain I.kIn (ox := { cls := .ref C, dict := none, data := .fields #[.ref t1, .none, .none, .none, .bool false, .none] }) (od := none) ⟨ho, rfl, rfl, trivial⟩ T.sa ?_
  refine PySem.W.osa_openX (od := none) Z.S I.kIn ⟨ho, rfl, rfl, trivial⟩ hov htk fun b => ?_
  show wpAny _ _ (Builtin.ObjectAttr.storeInOwnDict (.ref a) (.ref C) (.str f t) f u b) _ _ _
  unfold Builtin.ObjectAttr.storeInOwnDict Builtin.ObjectAttr.ownDictForStores
  repeat (first | with_reducible refine PySem.HandSPX.store_in_new ?_ ?_ | with_reducible refine wpAny_loadPart_at ho ?_ | with_reducible refine hcls.at ?_ | wp_step)
  · exact ⟨_, #[], _, (Heap.get?_update_ne _ _ _ _ hxs.symm).trans (Heap.get?_push_at rfl rfl), rfl, fun e he => absurd he (by simp), fun _ => rfl⟩
  · intro h' tk' hn hs
    have h1 : (hp.push { cls := .type "dict", data := .dict #[] }).get? a = some { cls := .ref C, dict := none, data := .fields #[.ref t1, .none, .none, .none, .bool false, .none] } := Heap.get?_push_of_some _ ho
    have k : ∀ b o, b ≠ a → hp.get? b = some o → h'.get? b = some o := fun b o hb q => (hs.2 b (Nat.ne_of_lt (Heap.lt_size q))).trans ((Heap.get?_update_ne _ _ _ _ hb).trans (Heap.get?_push_of_some _ q))
    have hx : h'.get? a = some { cls := .ref C, dict := some hp.objs.size, data := .fields #[.ref t1, .none, .none, .none, .bool false, .none] } := (hs.2 a hxs).trans (Heap.get?_update_self _ h1 rfl)
    have hnd : H hp.objs.size = none := I.hok.fresh (Nat.le_refl _)
    have nd : ∀ {b : Addr} {o : Obj}, hp.get? b = some o → b ≠ hp.objs.size := fun q => Nat.ne_of_lt (Heap.lt_size q)
    have na : ∀ {b : Addr}, H b = none → b ≠ a := fun n z => by
      rw [z, e] at n
      cases n
    have U : Un X.fs [] H (upd (upd H hp.objs.size (exd hp.objs.size [(f, y)])) a (exo a C (some hp.objs.size))) hp h' := {
      keep := fun b o q n _ _ => k b o (na n) q
      slot := fun b o q n _ _ => ⟨o.slots, k b o (na n) q⟩
      free := fun b o q n _ => by
        rw [upd_ne (na n), upd_ne (nd q)]
        exact n
      there := fun b o q _ => by
        by_cases hb : b = a
        · exact ⟨_, by rw [hb]; exact hx⟩
        · exact ⟨o, k b o hb q⟩
      tups := fun b xs q => by
        rw [upd_ne (at_ne e q exo_tup), upd_ne (ne_of_none q hnd)]
        exact q
      frzs := fun b o v q => by
        rw [upd_ne (at_ne e q exo_frz), upd_ne (ne_of_none q hnd)]
        exact q
      tbls := fun b ps q => ⟨#[], by
        rw [upd_ne (at_ne e q exo_tbl), upd_ne (ne_of_none q hnd), q]
        simp⟩ }
    refine h hp.objs.size _ hnd hxs.symm (I.un (t' := tk') U fun b o q => ?_)
    by_cases hb : b = a
    · subst hb
      rw [upd_same] at q
      cases q
      exact exo_ok hx
    · rw [upd_ne hb] at q
      by_cases hd : b = hp.objs.size
      · subst hd
        rw [upd_same] at q
        cases q
        exact exd_ok hn (relO_put (fs := []) ry fun g => trivial)
      · rw [upd_ne hd] at q
        refine (I.hok b o q).stay (fun c v hc z => k c v ?_ z) (fun c hc => ?_) fun c xs hc => ?_
        · rcases hc with hc | hc
          · rw [hc]
            exact hb
          · exact at_ne e hc exo_own
        · rw [upd_ne (at_ne e hc exo_own), upd_ne (ne_of_none hc hnd)]
          exact hc
        · rw [upd_ne (at_ne e hc exo_tup), upd_ne (ne_of_none hc hnd)]
          exact hc
end
def tIni (K : PySem.W.Frag) (newId : String) (bmB : List Value) (ta : TA) : TE := fun σ H Q => ta σ H fun vs H1 => ∃ (a C : Addr) (ws : List V), vs = .ref a :: ws ∧ ws.length ≤ 1000 ∧ Oxg K C newId bmB ∧ H1 a = some (exo a C none) ∧ Q .non H1
def tSto (K : PySem.W.Frag) (newId : String) (bmB : List Value) (f : Str) (to te : TE) : TS := fun D σ H => te σ H fun y H1 => to σ H1 fun x H2 => ∃ a C : Addr, x = .ref a ∧ Oxg K C newId bmB ∧ PySem.W.findIn K (.ref C) f = some none ∧ H2 a = some (exo a C none) ∧
  ∀ dx, H2 dx = none → dx ≠ a → D.nx σ (upd (upd H2 dx (exd dx [(f, y)])) a (exo a C (some dx)))
section
variable {X : Cx} {B newId initId : String} {bmB : List Value} {x f : Str} {o e : Expr} {es : List Expr} {to te : TE} {ta : TA} {p p' p1 p2 pos : Pos}
theorem pe_ini {pl : Sem Bool} (Z : Bas B newId initId bmB) (hg : Gl X x) (hm : X.mg x = none) (hv : bootBuiltins x = some (.type B)) (vV : PySem.W.findCls X.K (.type B) (.type "type") "__init__" = some (.val (.builtin initId)))
    (hst : Manifest.isStub B = false) (hh : PySem.W.handedIn (.builtin initId) = true) (hn : x ≠ "__name__") (hdb : (x == ("__debug__" : Str)) = false) (ha : PA X (e :: es) ta)
    (hc : eval (.Call (.Attribute (.Name x p1) "__init__" p2) (e :: es) [] pos) X.env = (do
      let ov ← eval (.Name x p1) X.env
      standAt p2.atName
      let (g, first) ← holding [ov] (getMethod ov "__init__" pl)
      callWith pos g first (backTo pos (starEach (e :: es) X.env)) (backToKw pos (keywordEach [] X.env))) := by rfl)
    (he : starEach (e :: es) X.env = (false, eval e X.env) :: starEach es X.env := by rfl) (hpl : (backTo pos (starEach es X.env)).any (·.1) = false := by rfl) :
    PE X (.Call (.Attribute (.Name x p1) "__init__" p2) (e :: es) [] pos) (tIni X.K newId bmB ta) := ⟨fun pins s σ H Q I h => by
  refine PySem.W.methodCall_KW (ld_blt I hg hm hv ?_ hn hdb) hc
  obtain ⟨m, fr⟩ := I.fr
  refine PySem.W.method_type fr I.ok.mod.kin Z.ty hst vV hh ?_
  show wpAny _ _ (callWith pos (Value.builtin initId) [] _ []) _ _ _
  refine PyProof.Rows.callWith_method1 (thn (ha.run pos pins _ σ H _ (I.tok _) h) fun us s1 hq => ?_) he hpl
  obtain ⟨vs, H1, I1, r1, a, C, ws, rfl, hl, T, ea, q⟩ := hq
  cases r1 with
  | cons ra rs =>
    cases ra
    refine ini_base Z T I1 ea ?_ fun s' J => ⟨.non, H1, J, rfl, q⟩
    rw [← Paired.length rs, sizeLine_eq]
    omega⟩
theorem ps_sto (Z : Bas B newId initId bmB) (ho : PE X o to) (he : PE X e te) (hs : swapsWith e (some (.Attribute o f p')) pos.line X.env = pure false := by rfl) : PS X (.Assign [.Attribute o f p'] e pos) (tSto X.K newId bmB f to te) := ⟨fun pins s σ H D I h => by
  refine plainObj_wpAny_Assign_Attribute (thn (he.run pins s σ H _ I h) fun v s1 h1 => ?_) hs
  obtain ⟨y, H1, I1, r1, q1⟩ := h1
  refine thn (ho.run pins s1 σ H1 _ I1 q1) fun u s2 h2 => ?_
  obtain ⟨z, H2, I2, r2, a, C, rfl, T, hno, ea, q⟩ := h2
  cases r2
  exact sto_base Z T I2 ea hno r1 fun dx s' n ne J => ⟨σ, _, J, q dx n ne⟩⟩
end
inductive Fm (K : PySem.W.Frag) (H : Hp) : V → Prop
  | int (i : Int) (h : i.natAbs.log2 < 1920) : Fm K H (.int i)
  | tup {a : Addr} {ns : List Int} (h : SqT K H a (ns.map V.int)) (l : ns.length ≤ 1000) (b : ∀ i ∈ ns, i.natAbs.log2 < 1920) : Fm K H (.ref a)
theorem int_txt {i : Int} (h : i.natAbs.log2 < 1920) : ((PySem.Str.ofString (toString i)) : Str).length ≤ 1921 := int_text_len_1921 h
theorem repr_ints {prog : Program} {w : World} : ∀ {l : List Int} {its : List Value}, Vals (l.map V.int) its → (∀ i ∈ l, i.natAbs.log2 < 1920) → ReprAll prog w its (l.map fun i => PySem.Str.ofString (toString i))
  | [], _, r, _ => by
    cases r
    exact .nil
  | i :: l, _, r, h => by
    cases r with
    | cons r1 r2 =>
      obtain ⟨t, rfl⟩ := r1
      exact .cons (ReprIs.int t (h i List.mem_cons_self)) (repr_ints r2 fun z hz => h z (List.mem_cons_of_mem _ hz))
theorem ints_piled : ∀ l : List Int, (∀ i ∈ l, i.natAbs.log2 < 1920) → piled (l.map fun i => PySem.Str.ofString (toString i)) ≤ 1930 * l.length
  | [], _ => Nat.zero_le _
  | i :: l, h => by
    have h1 := int_txt (h i List.mem_cons_self)
    have h2 := ints_piled l fun z hz => h z (List.mem_cons_of_mem _ hz)
    rw [List.map_cons, piled_cons, List.length_cons]
    omega
def tFmD (K : PySem.W.Frag) (te : TE) : TE := fun σ H Q => te σ H fun x H1 => Fm K H1 x ∧ ∀ m : Str, m.length ≤ 2000000 → Q (.str m) H1
theorem pe_fmD {X : Cx} {e : Expr} {te : TE} {pos : Pos} {k : Nat} (hr : Room k X.A) (he : PE X e te) : PE X (.FormattedValue e (-1) none pos) (tFmD X.K te) := ⟨fun pins s σ H Q I h => by
  refine wpAny_FormattedValue_plain (thn (he.run pins s σ H _ I h) fun v s1 hv => ?_)
  obtain ⟨x, H1, I1, r1, hf, q⟩ := hv
  cases hf with
  | int i hz =>
    obtain ⟨t, rfl⟩ := r1
    exact wpAny_formatField_int hz ⟨.str (toString i), H1, I1.tok _, ⟨_, rfl⟩, q _ (Nat.le_trans (int_txt hz) (by decide))⟩
  | tup ht hl hb =>
    rename_i a ns
    cases r1
    obtain ⟨its, rv, ⟨o, ho, hcl, n, hd⟩, _⟩ := I1.tuple ht
    have hu := hr.units
    have hp := ints_piled ns hb
    have htx := fmt_text (ns.map fun i => PySem.Str.ofString (toString i))
    refine fmt_tuple (by omega) ho hcl hd (repr_ints rv hb) (by rw [sizeLine_eq]; omega) fun m u tk hm => ⟨.str m, H1, I1.tok _, ⟨u, rfl⟩, q m (by omega)⟩⟩
def spIni (C : Addr) (f : Str) (Fx : Hp → V → Prop) : Sp := fun vs H Q _ => ∃ (a : Addr) (y : V), vs = [.ref a, y] ∧ H a = some (exo a C none) ∧ Fx H y ∧ ∀ dx, H dx = none → dx ≠ a → Q .non (upd (upd H dx (exd dx [(f, y)])) a (exo a C (some dx)))
end Ec
set_option Elab.async false
set_option linter.all false
set_option maxRecDepth 100000
set_option maxHeartbeats 4000000
namespace Ec
open PySem PySem.Spec PyProof.Rows L2
section
variable {M : Model} {A : Around} {E : Value → Shared → Prop} {s : Shared}
end
section
variable {X : Cx} {a : Addr} {pn : List (Addr × Obj)} {σ : L2.St} {H : Hp} {s : Shared}
end
theorem exv_at {P : Program} {w : World} {H : Hp} {h : Heap} {a : Addr} {cls : Value} {d : Option Addr} (hok : HOk P w H h) (he : H a = some (exv a cls d)) : ∃ oe vs, h.get? a = some oe ∧ oe.cls = cls ∧ oe.dict = d ∧ oe.data = .fields vs := by
  have x : ObjOk P w H h a (.ext fun h => ∃ oe vs, h.get? a = some oe ∧ oe.cls = cls ∧ oe.dict = d ∧ oe.data = .fields vs) := hok a _ he
  exact x.1
end Ec
set_option Elab.async false
set_option linter.all false
set_option maxRecDepth 100000
set_option maxHeartbeats 4000000
namespace Ec
open PySem PySem.Spec PyProof.Rows L2
structure Exn where
  C : Addr
  f : Str
  x : PyData
def ExOk (K : PySem.W.Frag) (F : Hp) (ex : Exn) (cls : Value) (d : Option Addr) : Prop := cls = .ref ex.C ∧ ∃ dd w, d = some dd ∧ F dd = some (.xd [(ex.f, w)]) ∧ De K F w ex.x
abbrev ErP := Exn → Dl → Cells → Prop
def ErB (K : PySem.W.Frag) (W : WX) (F H : Hp) (μ : Cells) (er : ErP) : Prop := ∀ ex cls d F' H' σ' δ' μ', Fw (ks μ) (ks μ') F H F' H' → Rp K F' H' σ' δ' μ' → ExOk K F' ex cls d → er ex δ' μ' → W cls d σ' H'
theorem ErB.next {K : PySem.W.Frag} {W : WX} {F H F' H' : Hp} {μ μ' : Cells} {er : ErP} (b : ErB K W F H μ er) (w : Fw (ks μ) (ks μ') F H F' H') : ErB K W F' H' μ' er := fun ex cls d F2 H2 σ2 δ2 μ2 w2 => b ex cls d F2 H2 σ2 δ2 μ2 (w.trans w2)
section
variable {X : Cx} {W : WX} {er : ErP} {δ : Dl} {μ : Cells} {e a b : Expr} {es : List Expr} {pos p : Pos} {Q : Vd → Cells → Prop} {D : Dn} {st : Stmt} {rest : List Stmt}
end
def ExcM (P : Program) (w : World) (K : PySem.W.Frag) (mg : Str → Option Value) (base : Heap) (k : Nat) (x f : Str) (C : Addr) : Prop :=
  ∃ (B newId initId : String) (bmB : List Value) (fI : Addr) (fd : FuncData) (ps : List Str), Bas B newId initId bmB ∧ Oxg K C newId bmB ∧ PySem.W.findIn K (.ref C) "__init__" = some (some (.ref fI)) ∧ PySem.W.typeIn K (.ref fI) = some (.type "function") ∧
    FnOk P w K mg base CX0 k fI fd ps (spIni C f (Fm K)) ∧ Binds K fd ps [] ∧ mg x = some (.ref C)
def FmD : PyData → Prop
  | .int i => i.natAbs.log2 < 1920
  | .tuple ds => ∃ ns : List Int, ds = intsD ns ∧ ns.length ≤ 1000 ∧ ∀ i ∈ ns, i.natAbs.log2 < 1920
  | _ => False
theorem fm_of {K : PySem.W.Frag} {F H : Hp} {d : PyData} {v : V} (e : Same F H) (h : De K F v d) (f : FmD d) : Fm K H v := by
  cases h with
  | int i => exact .int i f
  | tup h1 h2 h3 =>
    obtain ⟨ns, rfl, hl, hb⟩ := f
    have hv := dps_ints h3
    subst hv
    exact .tup (.inl (.inr ⟨_, e _ _ h1⟩)) hl hb
  | non => exact f.elim
  | bl b => exact f.elim
  | str x => exact f.elim
  | lst h1 h2 => exact f.elim
section
variable {X : Cx} {W : WX} {er : ErP} {δ : Dl} {μ : Cells} {e : Expr} {pos p pos' : Pos} {D : Dn}
end
section
variable {X : Cx} {W : WX} {er : ErP} {δ : Dl} {μ : Cells} {e E : Expr} {es : List Expr} {kws : List Keyword} {pos p : Pos} {Q : Vd → Cells → Prop}
end
section
variable {X : Cx} {W : WX} {er : ErP} {δ : Dl} {μ : Cells} {D : Dn} {n y : Str} {i j : Nat} {body : List Stmt} {t : Expr} {cs : List Value} {p1 p2 p3 hpos pos : Pos}
end
structure XCls (K : PySem.W.Frag) (C : Addr) (B : String) : Prop where
  cl : (PySem.W.clsIn K C).isSome = true
  ty : PySem.W.typeIn K (.ref C) = some (.type "type")
  ga : PySem.W.findIn K (.ref C) "__getattribute__" = some (some (.builtin "BaseException.__getattribute__"))
  gg : PySem.W.findIn K (.ref C) "__getattr__" = some none
  be : PySem.W.subIn K (.ref C) (.type "BaseException") = some true
  hd : PySem.W.hasDictIn K C = true
  ca : PySem.W.findIn K (.ref C) "__class__" = some (some (.builtin "object.__class__"))
  sp : PySem.W.specialIn K (.builtin "object.__class__") "__get__" = some (some (.builtin "getset_descriptor.__get__"))
  tk : PySem.W.takesIn K (.builtin "object.__class__") = some true
  mo : PySem.W.mroIn K C (.type "object") = some true
  me : PySem.W.subIn K (.ref C) (.ref C) = some true
  sb : ∀ T ∈ ["ValueError", "LookupError", "RuntimeError", "OverflowError", "KeyError", "IndexError", "NotImplementedError"], PySem.W.subIn K (.ref C) (.type T) = some (T == B)
theorem kit_sub {K : PySem.W.Frag} {C D : Addr} {B B' : String} {b : Bool} (y : XCls K C B') (x : XCls K D B) (h : PySem.W.subIn K (.ref C) (.ref D) = some b) : PySem.W.kitOne K (.ref C) (.ref D) = some b := by
  unfold PySem.W.kitOne
  by_cases e : C = D
  · subst e
    have z := h.symm.trans y.me
    rw [if_pos (beq_self_eq_true _)]
    exact z.symm
  · rw [if_neg (by
      intro z
      exact e (Value.ref.inj (beq_iff_eq.mp z)))]
    unfold PySem.W.kitCls
    dsimp only
    rw [if_pos (show ((PySem.W.clsIn K D).isSome && PySem.W.typeIn K (.ref D) == some (.type "type")) = true by rw [x.cl, x.ty]; rfl)]
    exact h
theorem kit_blt {K : PySem.W.Frag} {C : Addr} {B T : String} (x : XCls K C B) (hT : T ∈ ["ValueError", "LookupError", "RuntimeError", "OverflowError", "KeyError", "IndexError", "NotImplementedError"]) (hm : PySem.W.kitMeta T = true) : PySem.W.kitOne K (.ref C) (.type T) = some (T == B) := by
  unfold PySem.W.kitOne
  rw [if_neg (by intro z; cases beq_iff_eq.mp z)]
  unfold PySem.W.kitCls
  dsimp only
  rw [if_pos hm]
  exact x.sb T hT
inductive ClsN (X : Cx) : Expr → V → Value → Prop
  | own {x : Str} {p : Pos} {C : Addr} (hg : Gl X x) (hm : X.mg x = some (.ref C)) (hd : (x == ("__debug__" : Str)) = false) : ClsN X (.Name x p) (.ref C) (.ref C)
  | blt {x : Str} {p : Pos} {T : String} (hg : Gl X x) (hm : X.mg x = none) (hv : bootBuiltins x = some (.type T)) (hn : x ≠ "__name__") (hd : (x == ("__debug__" : Str)) = false) : ClsN X (.Name x p) (.ty T) (.type T)
theorem ClsN.pe {X : Cx} {e : Expr} {c : V} {cv : Value} (h : ClsN X e c cv) : PE X e (tC c) := by
  cases h with
  | own hg hm hd => exact ⟨fun pins s σ H Q I q => ld_glob I hg hm ⟨.ref _, H, I, (rfl : _ = _), q⟩ hd⟩
  | blt hg hm hv hn hd => exact pe_bltn (v := .ty _) hg hm hv rfl hn hd
theorem ClsN.rel {X : Cx} {e : Expr} {c : V} {cv : Value} (h : ClsN X e c cv) {u : Value} (r : RelV c u) : u = cv := by
  cases h with
  | own hg hm hd => exact r
  | blt hg hm hv hn hd => exact r
def rIsX (K : PySem.W.Frag) : List V → Hp → VK → Prop := fun xs H Q => ∃ (a C dd : Addr) (fs : List (Str × V)) (c : V) (B : String), xs = [.ref a, c] ∧ XCls K C B ∧ H a = some (exv a (.ref C) (some dd)) ∧ H dd = some (.xd fs) ∧
  ((∃ (cv : Value) (b : Bool), (∀ u, RelV c u → u = cv) ∧ PySem.W.kitOne K (.ref C) cv = some b ∧ Q (.bl b) H) ∨
    ∃ (tp : Addr) (vs : List V) (cvs : List Value) (b : Bool), c = .ref tp ∧ SqT K H tp vs ∧ (∀ us, Vals vs us → us = cvs) ∧ PySem.W.kitAny K (.ref C) cvs = some b ∧ Q (.bl b) H)
theorem exv_inst {X : Cx} {pins : List (Addr × Obj)} {σ : L2.St} {H : Hp} {s : Shared} (I : Inv X pins σ H s) {a C dd : Addr} {fs : List (Str × V)} (ha : H a = some (exv a (.ref C) (some dd))) (hd : H dd = some (.xd fs)) :
    ∃ oe od mA, PySem.W.InstAt s.heap a oe C (some od) ∧ s.heap.Ns1 dd mA ∧ s.heap.get? dd = some od ∧ ∀ f, RelO (fs.lookup f) (mA f) := by
  obtain ⟨oe, vs, h1, h2, h3, h4⟩ := exv_at I.hok ha
  have hx : ObjOk X.prog X.w H s.heap dd (.xd fs) := I.hok dd _ hd
  obtain ⟨mA, hns, hr⟩ := hx
  obtain ⟨od, ho, hl⟩ := lookIn_ns hns
  exact ⟨oe, od, mA, ⟨h1, h2, by unfold PySem.W.notCls; rw [h4], by rw [h3]; exact ho⟩, hns, ho, hr⟩
theorem call_isX {X : Cx} : CallR X (.builtin "isinstance") (rIsX X.K) := fun pins s σ H xs us Q I r h => by
  obtain ⟨a, C, dd, fs, c, B, rfl, x, ha, hd, q⟩ := h
  cases r with
  | cons rx rr =>
    cases rr with
    | cons rt rr =>
      cases rr
      cases rx
      obtain ⟨oe, od, mA, J, _⟩ := exv_inst I ha hd
      have Z := PySem.W.kitx_exc (x := a) (ox := oe) (od := some od) x.cl x.ga x.gg x.be x.ca x.sp x.tk x.mo
      rcases q with ⟨cv, b, hcv, e, q⟩ | ⟨tp, vs, cvs, b, rfl, ht, hcv, e, q⟩
      · have ec := hcv _ rt
        subst ec
        exact PySem.W.kia_one Z I.kIn J e (fun z => nomatch z) fun tk => ⟨.bl b, H, I.kept (t' := tk) fun _ _ z => z, rfl, q⟩
      · cases rt
        obtain ⟨its, rv, ⟨ot, g1, g2, n, g3⟩, _⟩ := I.tuple ht
        have ec := hcv _ rv
        subst ec
        obtain ⟨oc, odd, odt, osl⟩ := ot
        dsimp only at g2 g3
        subst g2 g3
        exact PySem.W.kia_tup Z I.kIn J g1 e (fun z => nomatch z) fun tk => ⟨.bl b, H, I.kept (t' := tk) fun _ _ z => z, rfl, q⟩
inductive ClsA (X : Cx) : List Expr → List V → List Value → Prop
  | nil : ClsA X [] [] []
  | cons {e : Expr} {es : List Expr} {c : V} {cs : List V} {v : Value} {vs : List Value} (h : ClsN X e c v) (hs : starEach (e :: es) X.env = (false, eval e X.env) :: starEach es X.env) (r : ClsA X es cs vs) : ClsA X (e :: es) (c :: cs) (v :: vs)
def tCs : List V → TA
  | [] => tNil
  | c :: cs => tCons (tC c) (tCs cs)
theorem ClsA.pa {X : Cx} {es : List Expr} {cs : List V} {vs : List Value} (h : ClsA X es cs vs) : PA X es (tCs cs) := by
  induction h with
  | nil => exact pa_nil
  | cons h hs r ih => exact pa_cons h.pe ih hs
theorem ClsA.rel {X : Cx} {es : List Expr} {cs : List V} {vs : List Value} (h : ClsA X es cs vs) : ∀ us, Vals cs us → us = vs := by
  induction h with
  | nil =>
    intro us r
    cases r
    rfl
  | cons h hs r ih =>
    intro us q
    cases q with
    | cons q1 q2 => rw [h.rel q1, ih _ q2]
theorem tCs_run : ∀ (cs acc : List V) {σ : L2.St} {H : Hp} {Q : List V → Hp → Prop}, Q cs H → tCs cs σ H Q
  | [], _, _, _, _, q => q
  | c :: cs, acc, σ, H, Q, q => tCs_run cs acc (Q := fun xs H2 => Q (c :: xs) H2) q
section
variable {X : Cx} {δ : Dl} {μ : Cells} {e : Expr} {pos p : Pos} {Q : Vd → Cells → Prop} {mg : Str → Option Value}
theorem we_isX {c : Expr} {cv : V} {v : Value} (B : Bl mg) (hg : Gl X "isinstance") (hc : ClsN X c cv v) (h : WE X e δ μ fun x μ1 => ∃ (a C : Addr) (f : Str) (d : PyData) (N : String) (b : Bool), x = .e a C f d ∧ XCls X.K C N ∧ PySem.W.kitOne X.K (.ref C) v = some b ∧ Q (.d (.bool b)) μ1) (hm : X.mg = mg := by rfl)
    (s1 : starEach [e, c] X.env = (false, eval e X.env) :: starEach [c] X.env := by rfl) (s2 : starEach [c] X.env = (false, eval c X.env) :: starEach [] X.env := by rfl) (s3 : (backTo pos (starEach [c] X.env)).any (·.1) = false := by rfl) :
    WE X (.Call (.Name "isinstance" p) [e, c] [] pos) δ μ Q := fun F H σ R QV k =>
  toE (pe_callB call_isX hg (hm ▸ B.isi) PyProof.Rows.boot_isinstance (pa_cons (pcE X e) (pa_cons hc.pe pa_nil s2) s1) (by decide) (by decide) s1 s3)
    (h F H σ R _ fun u x F1 H1 μ1 w1 R1 o1 q => by
      obtain ⟨a, C, f, d, N, b, rfl, x, e1, q⟩ := q
      obtain ⟨rfl, dd, w, g1, g2, _⟩ := o1
      exact ⟨a, C, dd, _, cv, N, rfl, x, R1.m.ex _ _ g1, R1.m.ex _ _ g2, .inl ⟨v, b, fun u r => hc.rel r, e1, k _ (.d (.bool b)) F1 H1 μ1 w1 R1 (.bl b) q⟩⟩)
theorem we_isXs {es : List Expr} {cs : List V} {vs : List Value} {kk : Nat} {tp : Pos} (B : Bl mg) (hg : Gl X "isinstance") (hc : ClsA X es cs vs) (hl : cs.length ≤ 100) (h : WE X e δ μ fun x μ1 => ∃ (a C : Addr) (f : Str) (d : PyData) (N : String) (b : Bool), x = .e a C f d ∧ XCls X.K C N ∧ PySem.W.kitAny X.K (.ref C) vs = some b ∧ Q (.d (.bool b)) μ1) (hm : X.mg = mg := by rfl)
    (s1 : starEach [e, .Tuple es kk tp] X.env = (false, eval e X.env) :: starEach [.Tuple es kk tp] X.env := by rfl) (s2 : starEach [.Tuple es kk tp] X.env = (false, eval (.Tuple es kk tp) X.env) :: starEach [] X.env := by rfl) (s3 : (backTo pos (starEach [.Tuple es kk tp] X.env)).any (·.1) = false := by rfl) :
    WE X (.Call (.Name "isinstance" p) [e, .Tuple es kk tp] [] pos) δ μ Q := fun F H σ R QV k =>
  toE (pe_callB call_isX hg (hm ▸ B.isi) PyProof.Rows.boot_isinstance (pa_cons (pcE X e) (pa_cons (pe_tup hc.pa) pa_nil s2) s1) (by decide) (by decide) s1 s3)
    (h F H σ R _ fun u x F1 H1 μ1 w1 R1 o1 q => tCs_run cs cs ⟨by rw [sizeLine_eq]; omega, fun q0 nq => by
      obtain ⟨a, C, f, d, N, b, rfl, x, e1, q⟩ := q
      obtain ⟨rfl, dd, w, g1, g2, _⟩ := o1
      obtain ⟨m2, w2⟩ := R1.m.new (o := .tup cs) nq
      exact ⟨a, C, dd, _, .ref q0, N, rfl, x, m2.ex _ _ (w2.f _ _ g1), m2.ex _ _ (w2.f _ _ g2), .inr ⟨q0, cs, vs, b, rfl, .inl (.inl upd_same), hc.rel, e1, k _ (.d (.bool b)) _ _ μ1 (w1.trans w2) (R1.to w2.f m2) (.bl b) q⟩⟩⟩)
theorem we_xf {n : Str} (h : WE X e δ μ fun x μ1 => ∃ (a C : Addr) (d : PyData) (N : String), x = .e a C n d ∧ XCls X.K C N ∧ PySem.W.findIn X.K (.ref C) n = some none ∧ Q (.d d) μ1) (hb : attributeBase e n X.env (eval e X.env) = eval e X.env := by rfl) :
    WE X (.Attribute e n pos) δ μ Q := fun F H σ R QV k =>
  toE (t := fun σ H Q => cE X e σ H fun x H1 => ∃ (a C dd : Addr) (w : V) (N : String), x = .ref a ∧ XCls X.K C N ∧ PySem.W.findIn X.K (.ref C) n = some none ∧ H1 a = some (exv a (.ref C) (some dd)) ∧ H1 dd = some (.xd [(n, w)]) ∧ Q w H1) ⟨fun pins s σ H Q I hq => attr_of hb (thn ((pcE X e).run pins s σ H _ I hq) fun u s1 hh => by
      obtain ⟨x, H1, I1, rx, a, C, dd, w, N, rfl, c, hno, ha, hd, q⟩ := hh
      cases rx
      obtain ⟨oe, od, mA, J, hns, ho, hr⟩ := exv_inst I1 ha hd
      obtain ⟨od', ho', hl⟩ := lookIn_ns hns
      rw [ho] at ho'
      cases ho'
      have l : List.lookup n [(n, w)] = some w := by simp [List.lookup]
      obtain ⟨u, hu, ru⟩ := RelO.some_of (v := w) (o := mA n) (by rw [← l]; exact hr n)
      exact HandSPX.exc_get I1.kIn J c.ga c.gg c.be (PySem.W.findObj_own c.hd hno rfl (by rw [hl, hu])) (handed_of ru) ⟨w, H1, I1.tok _, ru, q⟩)⟩
    (h F H σ R _ fun v x F1 H1 μ1 w1 R1 o1 q => by
      obtain ⟨a, C, d, N, rfl, c, hno, q⟩ := q
      obtain ⟨rfl, dd, w, g1, g2, g3⟩ := o1
      exact ⟨a, C, dd, w, N, rfl, c, hno, R1.m.ex _ _ g1, R1.m.ex _ _ g2, k w (.d d) F1 H1 μ1 w1 R1 g3 q⟩)
end
def clsS (st : Stmt) (j : Nat) : Stmt := match st with
  | .ClassDef _ _ _ body _ _ _ _ _ _ _ => body.getD j (.Pass ⟨0, 0, 0, 0⟩)
  | _ => .Pass ⟨0, 0, 0, 0⟩
def Txt (X : Cx) (e : Expr) (n : Nat) : Prop := ∃ t, PE X e t ∧ ∀ σ H Q v, σ[1]? = some (some v) → Fm X.K H v → (∀ m : Str, m.length ≤ n → Q (.str m) H) → t σ H Q
theorem txt_c {X : Cx} {x : Str} {j : Nat} {pos : Pos} (n : Nat) (h : x.length ≤ n) : Txt X (.Constant (.str x) j pos) n := ⟨_, pe_str, fun _ _ _ _ _ _ q => q x h⟩
theorem txt_v {X : Cx} {x : Str} {k : Nat} {pos p : Pos} (hr : Room k X.A) (hN : X.N[1]? = some x) (hv : Vis X.env.scope x) (hd : (x == ("__debug__" : Str)) = false) (hcd : (x == ("__classdict__" : Str)) = false) : Txt X (.FormattedValue (.Name x p) (-1) none pos) 2000000 :=
  ⟨_, pe_fmD hr (pe_var hN hv hd hcd), fun σ H Q v e f q => ⟨v, e, f, q⟩⟩
inductive Parts (X : Cx) : List Expr → Nat → Prop
  | nil : Parts X [] 0
  | cons {e : Expr} {es : List Expr} {n m : Nat} (h : Txt X e n) (r : Parts X es m) : Parts X (e :: es) (n + m)
theorem Parts.run {X : Cx} {es : List Expr} {n : Nat} (h : Parts X es n) : ∃ ts, PJ X es ts ∧ ∀ (acc : Str) σ H (Q : Str → Hp → Prop) v, σ[1]? = some (some v) → Fm X.K H v → acc.length + n ≤ sizeLine → (∀ out, Q out H) → tJs ts acc σ H Q := by
  induction h with
  | nil => exact ⟨[], .nil, fun acc σ H Q v _ _ _ q => q acc⟩
  | @cons e es n m h r ih =>
    obtain ⟨ts, h1, h2⟩ := ih
    obtain ⟨t, g1, g2⟩ := h
    refine ⟨t :: ts, .cons g1 h1, fun acc σ H Q v e1 e2 hz q => g2 σ H _ v e1 e2 fun y hy => ⟨y, rfl, ?_, h2 _ σ H Q v e1 e2 ?_ q⟩⟩
    · rw [strLen_append]
      omega
    · rw [strLen_append]
      omega
theorem ini_fn {P : Program} {w : World} {K : PySem.W.Frag} {mg : Str → Option Value} {base : Heap} {qual : Str} {st : Stmt} {f : Addr} {fd : FuncData} {k : Nat} {B newId initId : String} {bmB : List Value} {bx arg fld : Str} {C : Addr} {v1 v2 : Expr} {vs : List Expr} {p1 p2 p3 p4 p5 p6 p7 p8 p9 pj : Pos}
    (F : Fun K "__init__" qual st f fd) (S : FnScope ["self", arg] ["self", arg] (defScope st)) (Z : Bas B newId initId bmB) (T : Oxg K C newId bmB) (hno : PySem.W.findIn K (.ref C) fld = some none) (hm : mg bx = none) (hv : bootBuiltins bx = some (.type B))
    (vV : PySem.W.findCls K (.type B) (.type "type") "__init__" = some (.val (.builtin initId))) (hst : Manifest.isStub B = false) (hh : PySem.W.handedIn (.builtin initId) = true) (hn : bx ≠ "__name__") (hdb : (bx == ("__debug__" : Str)) = false)
    (hb : defBody st = [.Expr (.Call (.Attribute (.Name bx p1) "__init__" p2) [.Name "self" p3, .JoinedStr (v1 :: v2 :: vs) pj] [] p4) p5, .Assign [.Attribute (.Name "self" p6) fld p7] (.Name arg p8) p9])
    (h0 : (defScope st).names.lookup ("self" : Str) = some .local) (h1 : (defScope st).names.lookup arg = some .local) (ha1 : (arg == ("__debug__" : Str)) = false) (ha2 : (arg == ("__classdict__" : Str)) = false)
    (hg : ∀ X : Cx, X.env.scope = defScope st → Gl X bx) (pl : Cx → Sem Bool)
    (hc : ∀ X : Cx, X.env.scope = defScope st → eval (.Call (.Attribute (.Name bx p1) "__init__" p2) [.Name "self" p3, .JoinedStr (v1 :: v2 :: vs) pj] [] p4) X.env = (do
      let ov ← eval (.Name bx p1) X.env
      standAt p2.atName
      let (g, first) ← holding [ov] (getMethod ov "__init__" (pl X))
      callWith p4 g first (backTo p4 (starEach [.Name "self" p3, .JoinedStr (v1 :: v2 :: vs) pj] X.env)) (backToKw p4 (keywordEach [] X.env))))
    (hp : ∀ X : Cx, Room k X.A → X.N[1]? = some arg → X.env.scope = defScope st → ∃ n, Parts X (v1 :: v2 :: vs) n ∧ n ≤ 16000000)
    (q1 : ∀ X : Cx, X.env.scope = defScope st → swapsWith (.Call (.Attribute (.Name bx p1) "__init__" p2) [.Name "self" p3, .JoinedStr (v1 :: v2 :: vs) pj] [] p4) none p5.line X.env = pure false)
    (q2 : ∀ X : Cx, X.env.scope = defScope st → swapsWith (.Name arg p8) (some (.Attribute (.Name "self" p6) fld p7)) p9.line X.env = pure false) : FnOk P w K mg base CX0 (k + 1) f fd ["self", arg] (spIni C fld (Fm K)) := by
  refine F.ok S (fun vs H Q E h => ?_) fun cdv A outer s H vs' Q E hr h => ?_
  · obtain ⟨a, y, rfl, _⟩ := h
    rfl
  · obtain ⟨a, y, rfl, ea, hf, hq⟩ := h
    rw [hb]
    obtain ⟨n, hpn, hle⟩ := hp (cxOf CX0 P w K mg base ["self", arg] qual (defScope st) f cdv A outer s H E).nox hr rfl rfl
    obtain ⟨ts, hj, hrun⟩ := hpn.run
    refine ⟨_, pss_cons (ps_expr (pe_ini Z (hg _ rfl) hm hv vV hst hh hn hdb (pa_cons (pe_var (i := 0) rfl (.inl h0)) (pa_cons (pe_joined hj) pa_nil)) (hc _ rfl)) (q1 _ rfl)) (pss_one (ps_sto Z (pe_var (i := 0) rfl (.inl h0)) (pe_var (i := 1) rfl (.inl h1) ha1 ha2) (q2 _ rfl))), ?_⟩
    refine ⟨.ref a, rfl, hrun Str.empty _ H _ y rfl hf (by rw [sizeLine_eq]; exact Nat.le_trans (Nat.add_le_add_left hle _) (by decide)) fun out => ?_⟩
    refine ⟨a, C, [.str out], rfl, (by decide : 1 ≤ 1000), T, ea, ?_⟩
    exact ⟨y, rfl, .ref a, rfl, a, C, rfl, T, hno, ea, fun dx hdx ne => hq dx hdx ne⟩
end Ec
set_option Elab.async false
set_option linter.all false
set_option maxRecDepth 100000
set_option maxHeartbeats 4000000
namespace Ec
open PySem PySem.Spec PyProof.Rows L2
def FmS (H : Hp) (v : V) : Prop := ∃ x : Str, v = .str x ∧ x.length ≤ 100000 ∧ ∀ c ∈ x.cps.toList, c < 16 ^ 8
def TxtG (Fx : Hp → V → Prop) (X : Cx) (e : Expr) (n : Nat) : Prop := ∃ t, PE X e t ∧ ∀ σ H Q v, σ[1]? = some (some v) → Fx H v → (∀ m : Str, m.length ≤ n → Q (.str m) H) → t σ H Q
theorem txtg_c {Fx : Hp → V → Prop} {X : Cx} {x : Str} {j : Nat} {pos : Pos} (n : Nat) (h : x.length ≤ n) : TxtG Fx X (.Constant (.str x) j pos) n := ⟨_, pe_str, fun _ _ _ _ _ _ q => q x h⟩
theorem txt_r {X : Cx} {x : Str} {pos p : Pos} (hN : X.N[1]? = some x) (hv : Vis X.env.scope x) (hd : (x == ("__debug__" : Str)) = false) (hcd : (x == ("__classdict__" : Str)) = false) : TxtG FmS X (.FormattedValue (.Name x p) 114 none pos) 2000000 :=
  ⟨_, pe_fmtR (pe_var hN hv hd hcd), fun σ H Q v e f q => by
    obtain ⟨y, rfl, hl, hc⟩ := f
    have h1 := StrLaws.reprText_len y hc
    exact ⟨.str y, e, .inl ⟨y, rfl, by rw [sizeLine_eq]; omega, q _ (by omega)⟩⟩⟩
inductive PartsG (Fx : Hp → V → Prop) (X : Cx) : List Expr → Nat → Prop
  | nil : PartsG Fx X [] 0
  | cons {e : Expr} {es : List Expr} {n m : Nat} (h : TxtG Fx X e n) (r : PartsG Fx X es m) : PartsG Fx X (e :: es) (n + m)
theorem PartsG.run {Fx : Hp → V → Prop} {X : Cx} {es : List Expr} {n : Nat} (h : PartsG Fx X es n) : ∃ ts, PJ X es ts ∧ ∀ (acc : Str) σ H (Q : Str → Hp → Prop) v, σ[1]? = some (some v) → Fx H v → acc.length + n ≤ sizeLine → (∀ out, Q out H) → tJs ts acc σ H Q := by
  induction h with
  | nil => exact ⟨[], .nil, fun acc σ H Q v _ _ _ q => q acc⟩
  | @cons e es n m h r ih =>
    obtain ⟨ts, h1, h2⟩ := ih
    obtain ⟨t, g1, g2⟩ := h
    refine ⟨t :: ts, .cons g1 h1, fun acc σ H Q v e1 e2 hz q => g2 σ H _ v e1 e2 fun y hy => ⟨y, rfl, ?_, h2 _ σ H Q v e1 e2 ?_ q⟩⟩
    · rw [strLen_append]
      omega
    · rw [strLen_append]
      omega
theorem ini_fnG {Fx : Hp → V → Prop} {P : Program} {w : World} {K : PySem.W.Frag} {mg : Str → Option Value} {base : Heap} {qual : Str} {st : Stmt} {f : Addr} {fd : FuncData} {k : Nat} {B newId initId : String} {bmB : List Value} {bx arg fld : Str} {C : Addr} {v1 v2 : Expr} {vs : List Expr} {p1 p2 p3 p4 p5 p6 p7 p8 p9 pj : Pos}
    (F : Fun K "__init__" qual st f fd) (S : FnScope ["self", arg] ["self", arg] (defScope st)) (Z : Bas B newId initId bmB) (T : Oxg K C newId bmB) (hno : PySem.W.findIn K (.ref C) fld = some none) (hm : mg bx = none) (hv : bootBuiltins bx = some (.type B))
    (vV : PySem.W.findCls K (.type B) (.type "type") "__init__" = some (.val (.builtin initId))) (hst : Manifest.isStub B = false) (hh : PySem.W.handedIn (.builtin initId) = true) (hn : bx ≠ "__name__") (hdb : (bx == ("__debug__" : Str)) = false)
    (hb : defBody st = [.Expr (.Call (.Attribute (.Name bx p1) "__init__" p2) [.Name "self" p3, .JoinedStr (v1 :: v2 :: vs) pj] [] p4) p5, .Assign [.Attribute (.Name "self" p6) fld p7] (.Name arg p8) p9])
    (h0 : (defScope st).names.lookup ("self" : Str) = some .local) (h1 : (defScope st).names.lookup arg = some .local) (ha1 : (arg == ("__debug__" : Str)) = false) (ha2 : (arg == ("__classdict__" : Str)) = false)
    (hg : ∀ X : Cx, X.env.scope = defScope st → Gl X bx) (pl : Cx → Sem Bool)
    (hc : ∀ X : Cx, X.env.scope = defScope st → eval (.Call (.Attribute (.Name bx p1) "__init__" p2) [.Name "self" p3, .JoinedStr (v1 :: v2 :: vs) pj] [] p4) X.env = (do
      let ov ← eval (.Name bx p1) X.env
      standAt p2.atName
      let (g, first) ← holding [ov] (getMethod ov "__init__" (pl X))
      callWith p4 g first (backTo p4 (starEach [.Name "self" p3, .JoinedStr (v1 :: v2 :: vs) pj] X.env)) (backToKw p4 (keywordEach [] X.env))))
    (hp : ∀ X : Cx, Room k X.A → X.N[1]? = some arg → X.env.scope = defScope st → ∃ n, PartsG Fx X (v1 :: v2 :: vs) n ∧ n ≤ 16000000)
    (q1 : ∀ X : Cx, X.env.scope = defScope st → swapsWith (.Call (.Attribute (.Name bx p1) "__init__" p2) [.Name "self" p3, .JoinedStr (v1 :: v2 :: vs) pj] [] p4) none p5.line X.env = pure false)
    (q2 : ∀ X : Cx, X.env.scope = defScope st → swapsWith (.Name arg p8) (some (.Attribute (.Name "self" p6) fld p7)) p9.line X.env = pure false) : FnOk P w K mg base CX0 (k + 1) f fd ["self", arg] (spIni C fld Fx) := by
  refine F.ok S (fun vs H Q E h => ?_) fun cdv A outer s H vs' Q E hr h => ?_
  · obtain ⟨a, y, rfl, _⟩ := h
    rfl
  · obtain ⟨a, y, rfl, ea, hf, hq⟩ := h
    rw [hb]
    obtain ⟨n, hpn, hle⟩ := hp (cxOf CX0 P w K mg base ["self", arg] qual (defScope st) f cdv A outer s H E).nox hr rfl rfl
    obtain ⟨ts, hj, hrun⟩ := hpn.run
    refine ⟨_, pss_cons (ps_expr (pe_ini Z (hg _ rfl) hm hv vV hst hh hn hdb (pa_cons (pe_var (i := 0) rfl (.inl h0)) (pa_cons (pe_joined hj) pa_nil)) (hc _ rfl)) (q1 _ rfl)) (pss_one (ps_sto Z (pe_var (i := 0) rfl (.inl h0)) (pe_var (i := 1) rfl (.inl h1) ha1 ha2) (q2 _ rfl))), ?_⟩
    refine ⟨.ref a, rfl, hrun Str.empty _ H _ y rfl hf (by rw [sizeLine_eq]; exact Nat.le_trans (Nat.add_le_add_left hle _) (by decide)) fun out => ?_⟩
    refine ⟨a, C, [.str out], rfl, (by decide : 1 ≤ 1000), T, ea, ?_⟩
    exact ⟨y, rfl, .ref a, rfl, a, C, rfl, T, hno, ea, fun dx hdx ne => hq dx hdx ne⟩
def ExcS (P : Program) (w : World) (K : PySem.W.Frag) (mg : Str → Option Value) (base : Heap) (k : Nat) (x f : Str) (C : Addr) : Prop :=
  ∃ (B newId initId : String) (bmB : List Value) (fI : Addr) (fd : FuncData) (ps : List Str), Bas B newId initId bmB ∧ Oxg K C newId bmB ∧ PySem.W.findIn K (.ref C) "__init__" = some (some (.ref fI)) ∧ PySem.W.typeIn K (.ref fI) = some (.type "function") ∧
    FnOk P w K mg base CX0 k fI fd ps (spIni C f FmS) ∧ Binds K fd ps [] ∧ mg x = some (.ref C)
section
variable {X : Cx} {W : WX} {er : ErP} {δ : Dl} {μ : Cells} {e : Expr} {pos p pos' : Pos} {D : Dn}
end
end Ec
set_option Elab.async false
set_option linter.all false
set_option maxRecDepth 100000
set_option maxHeartbeats 4000000
namespace Ec
open PySem PySem.Spec PyProof.Rows L2
section
variable {X : Cx} {is : List Nat} {δ : Dl} {μ : Cells} {pos : Pos} {G : Dl → Cells → Prop}
end
end Ec
set_option Elab.async false
set_option linter.all false
namespace Ec
open PySem PySem.Spec PyProof.Rows L2
theorem rng_ltp (n : Nat) : (rng n).Pairwise (· < ·) := by
  unfold rng
  rw [List.pairwise_map]
  exact List.pairwise_lt_range.imp fun h => by omega
theorem nexts_up (c : Co) (t : List Int) : (nexts c t).Pairwise (· < ·) := ((rng_ltp _).filter _).filter _
end Ec
set_option Elab.async false
set_option linter.all false
namespace Ec
open PySem PySem.Spec PyProof.Rows L2
end Ec
set_option Elab.async false
set_option linter.all false
namespace Ec
open PySem PySem.Spec PyProof.Rows L2
def sh (n : Nat) (l : List Int) : List Int := l.map fun x => x + (n : Int)
theorem mem_sh {n : Nat} {l : List Int} {x : Int} : x ∈ sh n l ↔ x - n ∈ l := by
  unfold sh
  rw [List.mem_map]
  exact ⟨fun ⟨y, h, e⟩ => by rw [show x - n = y by omega]; exact h, fun h => ⟨x - n, h, by omega⟩⟩
structure Mix (c d : Co) (t t1 t2 : List Int) : Prop where
  l : ∀ x : Int, 0 ≤ x → x < c.length → (x ∈ t ↔ x ∈ t1)
  r : ∀ x : Int, 0 ≤ x → x < d.length → (x + (c.length : Int) ∈ t ↔ x ∈ t2)
theorem Mix.nil (c d : Co) : Mix c d [] [] [] := ⟨fun x _ _ => by simp, fun x _ _ => by simp⟩
theorem Mix.more {c d : Co} {t t1 t2 u1 u2 : List Int} (m : Mix c d t t1 t2) (h1 : ∀ x ∈ u1, 0 ≤ x ∧ x < c.length) (h2 : ∀ x ∈ u2, 0 ≤ x ∧ x < d.length) : Mix c d (t ++ (u1 ++ sh c.length u2)) (t1 ++ u1) (t2 ++ u2) where
  l := fun x g0 g1 => by
    rw [List.mem_append, List.mem_append, List.mem_append, m.l x g0 g1, mem_sh]
    refine ⟨fun h => ?_, fun h => ?_⟩
    · rcases h with h | h | h
      · exact .inl h
      · exact .inr h
      · have := h2 _ h
        omega
    · rcases h with h | h
      · exact .inl h
      · exact .inr (.inl h)
  r := fun x g0 g1 => by
    rw [List.mem_append, List.mem_append, List.mem_append, m.r x g0 g1, mem_sh, Int.add_sub_cancel]
    refine ⟨fun h => ?_, fun h => ?_⟩
    · rcases h with h | h | h
      · exact .inl h
      · have := h1 _ h
        omega
      · exact .inr h
    · rcases h with h | h
      · exact .inl h
      · exact .inr (.inr h)
theorem stp_nil (c : Co) (t : List Int) : stp c t [] = nexts c t := by
  unfold stp
  exact List.filter_eq_self.mpr fun x _ => by simp
end Ec
set_option Elab.async false
set_option linter.all false
namespace Ec
open PySem PySem.Spec PyProof.Rows L2
theorem misL_iff {c : Co} {r : List Int} : misL c r = [] ↔ ∀ pre x post, r = pre ++ x :: post → comes c pre x = true := by
  unfold misL
  rw [List.filter_eq_nil_iff]
  constructor
  · intro h pre x post e
    have := h pre.length (List.mem_range.mpr (by rw [e]; simp))
    rw [e] at this
    simpa using this
  · intro h i hi
    have hl := List.mem_range.mp hi
    have e : r = r.take i ++ r.getD i 0 :: r.drop (i + 1) := by
      have : r.drop i = r.getD i 0 :: r.drop (i + 1) := by
        rw [List.drop_eq_getElem_cons hl, List.getD_eq_getElem?_getD, List.getElem?_eq_getElem hl]
        rfl
      rw [← this, List.take_append_drop]
    have := h _ _ _ e
    simpa [List.getD_eq_getElem?_getD] using this
structure Il (n : Nat) (q a b : List Int) : Prop where
  l : q.filter (fun x => decide (x < (n : Int))) = a
  r : q.filter (fun x => !decide (x < (n : Int))) = sh n b
def un (n : Nat) (l : List Int) : List Int := l.map fun x => x - (n : Int)
theorem mem_un {n : Nat} {l : List Int} {x : Int} : x ∈ un n l ↔ x + n ∈ l := by
  unfold un
  rw [List.mem_map]
  exact ⟨fun ⟨y, h, e⟩ => by rw [show x + (n : Int) = y by omega]; exact h, fun h => ⟨_, h, by omega⟩⟩
theorem Mix.of (c d : Co) (u : List Int) : Mix c d u (u.filter fun x => decide (x < (c.length : Int))) (un c.length (u.filter fun x => !decide (x < (c.length : Int)))) where
  l := fun x g0 g1 => by
    rw [List.mem_filter]
    simp [g1]
  r := fun x g0 g1 => by
    rw [mem_un, List.mem_filter]
    have : ¬ x + (c.length : Int) < c.length := by omega
    simp [this]
theorem Row.srt {n : Nat} {r : List Int} (h : Row n r) : srt r = rng n :=
  srt_one ((srt_perm r).trans (perm_of_mem h.nd (rng_nodup n) fun x => (h.rg x).trans mem_rng.symm)) (srt_up r) (rng_up n)
theorem Row.il {n m : Nat} {q a b : List Int} (h : Il n q a b) (ha : Row n a) (hb : Row m b) : Row (n + m) q := by
  have hp : q.Perm (a ++ sh n b) := by
    rw [← h.l, ← h.r]
    exact (List.filter_append_perm _ q).symm
  refine ⟨hp.nodup_iff.mpr (List.nodup_append.mpr ⟨ha.nd, map_nodup (fun x y e => by omega) hb.nd, fun x hx y hy e => ?_⟩), fun x => ?_⟩
  · subst e
    have := ((ha.rg x).mp hx).2
    have := ((hb.rg _).mp (mem_sh.mp hy)).1
    omega
  · rw [hp.mem_iff, List.mem_append, mem_sh, ha.rg, hb.rg]
    omega
end Ec
set_option Elab.async false
set_option linter.all false
set_option maxRecDepth 100000
set_option maxHeartbeats 4000000
namespace Ec
open PySem PySem.Spec PyProof.Rows L2
inductive Mx : List Int → List Int → List Int → Prop
  | nil : Mx [] [] []
  | l {q a b : List Int} (x : Int) (h : Mx q a b) : Mx (x :: q) (x :: a) b
  | r {q a b : List Int} (x : Int) (h : Mx q a b) : Mx (x :: q) a (x :: b)
theorem Mx.len {q a b : List Int} (h : Mx q a b) : q.length = a.length + b.length := by
  induction h with
  | nil => rfl
  | l x _ ih => simp only [List.length_cons, ih]; omega
  | r x _ ih => simp only [List.length_cons, ih]; omega
theorem Mx.il {n : Nat} {q a b : List Int} (h : Mx q a b) (ha : ∀ x ∈ a, x < (n : Int)) (hb : ∀ x ∈ b, (n : Int) ≤ x) : q.filter (fun x => decide (x < (n : Int))) = a ∧ q.filter (fun x => !decide (x < (n : Int))) = b := by
  induction h with
  | nil => exact ⟨rfl, rfl⟩
  | @l q a b x h ih =>
    obtain ⟨h1, h2⟩ := ih (fun y hy => ha y (List.mem_cons_of_mem _ hy)) hb
    have := ha x List.mem_cons_self
    rw [List.filter_cons, List.filter_cons, if_pos (decide_eq_true this), h1, if_neg (by simp [this]), h2]
    exact ⟨rfl, rfl⟩
  | @r q a b x h ih =>
    obtain ⟨h1, h2⟩ := ih ha (fun y hy => hb y (List.mem_cons_of_mem _ hy))
    have : ¬ x < (n : Int) := by have := hb x List.mem_cons_self; omega
    rw [List.filter_cons, List.filter_cons, if_neg (by simp [this]), h1, if_pos (by simp [this]), h2]
    exact ⟨rfl, rfl⟩
def inn (n : Nat) (i : Int) : List (Int × Int) := ((rng n).filter fun h => decide (i < h)).map fun h => (i, h)
end Ec
set_option Elab.async false
set_option linter.all false
namespace Ec
open PySem PySem.Spec PyProof.Rows L2
theorem tups_shaped (rs : List (List Int)) : SeqAt.shaped (.list (tups rs)) = true := by
  have h : ∀ d ∈ tups rs, d.canLay0 = true ∧ d.depth ≤ 1 := fun d hd => by
    obtain ⟨r, _, rfl⟩ := List.mem_map.mp hd
    refine ⟨canLays_ints r, ?_⟩
    simp only [PyData.depth, depth_ints]
    decide
  unfold SeqAt.shaped
  rw [Bool.and_eq_true_iff]
  refine ⟨canLays_all fun d m => (h d m).1, decide_eq_true ?_⟩
  simp only [PyData.depth]
  exact Nat.le_trans (Nat.succ_le_succ (depths_le fun d m => (h d m).2)) (by decide)
theorem misL_ord {c : Co} {r : List Int} (h : Row c.length r) (hm : misL c r = []) : IsOrd c r where
  po := ⟨h.nd, fun x m => (h.rg x).mp m, fun i x hi => by
    have hl := (List.getElem?_eq_some_iff.mp hi).1
    have e := (List.getElem?_eq_some_iff.mp hi).2
    have : r = r.take i ++ x :: r.drop (i + 1) := by
      rw [← e, ← List.drop_eq_getElem_cons hl, List.take_append_drop]
    exact misL_iff.mp hm _ _ _ this⟩
  len := h.len
end Ec
set_option Elab.async false
set_option linter.all false
namespace Ec
open PySem PySem.Spec PyProof.Rows L2
def ren (nw : List Int) (x : Int) : Int := nw.getD x.toNat 0
abbrev Rn (n : Nat) (nw : List Int) : Prop := nw.Perm (rng n)
abbrev Rg (n : Nat) (t : List Int) : Prop := ∀ x ∈ t, 0 ≤ x ∧ x < n
theorem Rn.len {n : Nat} {nw : List Int} (h : Rn n nw) : nw.length = n := by rw [List.Perm.length_eq h, rng_len]
theorem ren_at {n : Nat} {nw : List Int} (h : Rn n nw) {x : Int} (h0 : 0 ≤ x) (h1 : x < n) : nw[x.toNat]? = some (ren nw x) := by
  have hl : x.toNat < nw.length := by rw [h.len]; omega
  unfold ren
  rw [List.getD_eq_getElem?_getD, List.getElem?_eq_getElem hl]
  rfl
theorem ren_inj {n : Nat} {nw : List Int} (h : Rn n nw) {x y : Int} (hx : 0 ≤ x ∧ x < n) (hy : 0 ≤ y ∧ y < n) (e : ren nw x = ren nw y) : x = y := by
  have nd : nw.Nodup := h.nodup_iff.mpr (rng_nodup n)
  have h1 := ren_at h hx.1 hx.2
  have h2 := ren_at h hy.1 hy.2
  have l1 := (List.getElem?_eq_some_iff.mp h1).1
  rw [e, ← h2] at h1
  have := (List.getElem?_inj l1 nd).mp h1
  omega
theorem mem_ren {n : Nat} {nw t : List Int} (h : Rn n nw) (ht : Rg n t) {x : Int} (h0 : 0 ≤ x) (h1 : x < n) : ren nw x ∈ t.map (ren nw) ↔ x ∈ t := by
  rw [List.mem_map]
  constructor
  · rintro ⟨y, hy, e⟩
    have := ren_inj h (ht y hy) ⟨h0, h1⟩ e
    subst this
    exact hy
  · exact fun m => ⟨x, m, rfl⟩
abbrev Mp (n : Nat) (nw t t' : List Int) : Prop := ∀ x : Int, 0 ≤ x → x < n → (ren nw x ∈ t' ↔ x ∈ t)
theorem Mp.nil (n : Nat) (nw : List Int) : Mp n nw [] [] := fun x _ _ => by simp
theorem Mp.map {n : Nat} {nw t : List Int} (h : Rn n nw) (ht : Rg n t) : Mp n nw t (t.map (ren nw)) := fun x h0 h1 => mem_ren h ht h0 h1
end Ec
set_option Elab.async false
set_option linter.all false
namespace Ec
open PySem PySem.Spec PyProof.Rows L2
theorem rng_lt (n : Nat) : (rng n).Pairwise (· < ·) := by
  unfold rng
  rw [List.pairwise_map]
  exact List.pairwise_lt_range.imp fun h => by omega
end Ec
set_option Elab.async false
set_option linter.all false
namespace Ec
open PySem PySem.Spec PyProof.Rows L2
end Ec
set_option Elab.async false
set_option linter.all false
namespace Ec
open PySem PySem.Spec PyProof.Rows L2
theorem natsD_shaped (l : List Nat) : SeqAt.shaped (.list (natsD l)) = true := by
  rw [natsD_ints]
  exact shaped_lst _
end Ec
set_option Elab.async false
set_option linter.all false
namespace Ec
open PySem PySem.Spec PyProof.Rows L2
structure Wid (c c' : Co) : Prop where
  len : c'.length = c.length
  fr : ∀ p : Int, 0 ≤ p → p < c.length → ∀ x ∈ fr c p, x ∈ Ec.fr c' p
  nd : ∀ p : Int, 0 ≤ p → p < c.length → Ec.nd c' p ≤ Ec.nd c p
theorem fr_nodup {c : Co} (w : CoW c) {p : Int} (h0 : 0 ≤ p) (h1 : p < c.length) : (fr c p).Nodup := by
  have hl : p.toNat < c.length := by omega
  have e : c.getD p.toNat ([], 0) = c[p.toNat] := by rw [List.getD_eq_getElem?_getD, List.getElem?_eq_getElem hl]; rfl
  unfold fr
  rw [e]
  exact (w.up _ (List.getElem_mem hl)).imp fun h => by omega
theorem Wid.comes {c c' : Co} (h : Wid c c') (w : CoW c) (w' : CoW c') {t t' : List Int} (ht : ∀ x ∈ t, x ∈ t') {p : Int} (h0 : 0 ≤ p) (h1 : p < c.length) (hc : comes c t p = true) : comes c' t' p = true := by
  have hn := h.nd p h0 h1
  have hl : cnt c t p ≤ cnt c' t' p := by
    unfold cnt
    refine Int.ofNat_le.mpr (nodup_le ((fr_nodup w h0 h1).filter _) ((fr_nodup w' h0 (by rw [h.len]; exact h1)).filter _) fun x hx => ?_)
    rw [List.mem_filter] at hx ⊢
    exact ⟨h.fr p h0 h1 x hx.1, decide_eq_true (ht x (of_decide_eq_true hx.2))⟩
  unfold Ec.comes at *
  rw [decide_eq_true_eq] at *
  omega
theorem Wid.cl {c c' : Co} (h : Wid c c') (w : CoW c) (w' : CoW c') (b : List Int) : ∀ x ∈ cl c [] b, x ∈ Ec.cl c' [] b :=
  cl_in (S := fun x => x ∈ Ec.cl c' [] b) (fun p h0 h1 hb ⟨t, ht, hc⟩ => cl_shut c' [] b p h0 (by rw [h.len]; exact h1) hb ⟨t, ht, h.comes w w' (fun _ m => m) h0 h1 hc⟩) fun x m => by cases m
theorem Wid.nexts {c c' : Co} (h : Wid c c') (w : CoW c) (w' : CoW c') {t : List Int} : ∀ x ∈ nexts c t, x ∈ Ec.nexts c' t := fun x hx => by
  obtain ⟨⟨h0, h1⟩, h2, h3⟩ := mem_nexts.mp hx
  exact mem_nexts.mpr ⟨⟨h0, by rw [h.len]; exact h1⟩, h2, h.comes w w' (fun _ m => m) h0 h1 h3⟩
theorem cl_lt {c : Co} (b : List Int) : (cl c [] b).Pairwise (· < ·) := by
  have nd : (cl c [] b).Nodup := cl_nodup List.nodup_nil
  exact ((srt_up _ : (cl c [] b).Pairwise (· ≤ ·)).and nd).imp fun ⟨h1, h2⟩ => by omega
theorem Wid.misL {c c' : Co} (h : Wid c c') (w : CoW c) (w' : CoW c') {r : List Int} (hr : Rg c.length r) (hm : misL c r = []) : Ec.misL c' r = [] := by
  rw [misL_iff] at *
  intro pre x post e
  have hx := hr x (by rw [e]; simp)
  exact h.comes w w' (fun _ m => m) hx.1 hx.2 (hm pre x post e)
theorem Wid.ord {c c' : Co} (h : Wid c c') (w : CoW c) (w' : CoW c') {r : List Int} (hr : IsOrd c r) : IsOrd c' r := by
  refine misL_ord (by rw [h.len]; exact hr.row) (h.misL w w' hr.po.rg (misL_nil hr.po))
theorem Wid.nev {c c' : Co} (h : Wid c c') (w : CoW c) (w' : CoW c') (hn : nev c = []) : Ec.nev c' = [] := by
  unfold Ec.nev at *
  rw [List.filter_eq_nil_iff] at *
  rw [h.len]
  intro x hx z
  have := hn x hx
  simp at this z
  exact z (h.cl w w' [] x this)
end Ec
set_option Elab.async false
set_option linter.all false
namespace Ec
open PySem PySem.Spec PyProof.Rows L2
def cmp (c : Co) (t : List Int) : List Int := (rng c.length).filter fun p => !decide (p ∈ t)
theorem mem_cmp {c : Co} {t : List Int} {x : Int} : x ∈ cmp c t ↔ (0 ≤ x ∧ x < c.length) ∧ x ∉ t := by
  unfold cmp
  rw [List.mem_filter, mem_rng]
  simp
theorem nexts_congr {c : Co} {s t : List Int} (h : ∀ x, x ∈ s ↔ x ∈ t) : nexts c s = nexts c t := by
  unfold nexts
  have e : ((rng c.length).filter fun p => !decide (p ∈ s)) = (rng c.length).filter fun p => !decide (p ∈ t) := List.filter_congr fun x _ => by rw [show decide (x ∈ s) = decide (x ∈ t) from decide_eq_decide.mpr (h x)]
  rw [e]
  exact List.filter_congr fun x _ => comes_same h x
theorem cl_anti {c : Co} {a b : List Int} (h : ∀ x : Int, 0 ≤ x → x < c.length → x ∈ b → x ∈ a) : ∀ x ∈ cl c [] a, x ∈ cl c [] b :=
  cl_in (S := fun x => x ∈ cl c [] b) (fun p h0 h1 hb ht => cl_shut c [] b p h0 h1 (fun z => hb (h p h0 h1 z)) ht) fun x m => by cases m
structure Ps (c : Co) (t : List Int) : Prop where
  up : t.Pairwise (· < ·)
  rg : Rg c.length t
  inn : ∀ x ∈ t, x ∈ cl c [] (cmp c t)
theorem Ps.gr {c : Co} {t : List Int} (h : Ps c t) : ∀ x ∈ t, x ∈ Ec.gr c := fun x m => cl_anti (fun x _ _ z => by cases z) x (h.inn x m)
theorem Ps.nil (c : Co) : Ps c [] := ⟨.nil, fun x m => (by cases m), fun x m => by cases m⟩
theorem srt_lt {l : List Int} (h : l.Nodup) : (srt l).Pairwise (· < ·) :=
  ((srt_up l).and ((srt_perm l).nodup_iff.mpr h)).imp fun ⟨h1, h2⟩ => by omega
theorem Ps.more {c : Co} {t s : List Int} (h : Ps c t) (hs : ∀ x ∈ s, x ∈ nexts c t) (hn : s.Nodup) : Ps c (srt (t ++ s)) := by
  have hm : ∀ x, x ∈ srt (t ++ s) ↔ x ∈ t ∨ x ∈ s := fun x => by rw [mem_srt, List.mem_append]
  have htc : ∀ x ∈ t, x ∈ cl c [] (cmp c (srt (t ++ s))) := fun x m => cl_anti (fun y h0 h1 z => mem_cmp.mpr ⟨⟨h0, h1⟩, fun w => (mem_cmp.mp z).2 ((hm y).mpr (.inl w))⟩) x (h.inn x m)
  have hd : (t ++ s).Nodup := List.nodup_append.mpr ⟨h.up.imp fun z => by omega, hn, fun x mx y my e => by
    subst e
    exact (mem_nexts.mp (hs x my)).2.1 mx⟩
  refine ⟨srt_lt hd, fun x m => ?_, fun x m => ?_⟩
  · rcases (hm x).mp m with m | m
    · exact h.rg x m
    · exact (mem_nexts.mp (hs x m)).1
  · rcases (hm x).mp m with m2 | m2
    · exact htc x m2
    · obtain ⟨⟨h0, h1⟩, _, h3⟩ := mem_nexts.mp (hs x m2)
      exact cl_shut c [] _ x h0 h1 (fun z => (mem_cmp.mp z).2 m) ⟨t, htc, h3⟩
theorem gr_shut {c : Co} {p : Int} (h0 : 0 ≤ p) (h1 : p < c.length) {t : List Int} (ht : ∀ x ∈ t, x ∈ gr c) (hc : comes c t p = true) : p ∈ gr c := cl_shut c [] [] p h0 h1 (fun z => by cases z) ⟨t, ht, hc⟩
theorem gr_lt (c : Co) : (gr c).Pairwise (· < ·) := cl_lt _
theorem Ps.all (c : Co) : Ps c (Ec.gr c) := by
  refine ⟨gr_lt c, gr_rng c, ?_⟩
  refine cl_in (S := fun x => x ∈ cl c [] (cmp c (Ec.gr c))) (fun p h0 h1 _ ⟨t, ht, hc⟩ => ?_) fun x m => by cases m
  refine cl_shut c [] _ p h0 h1 (fun z => (mem_cmp.mp z).2 (gr_shut h0 h1 (fun x m => ?_) hc)) ⟨t, ht, hc⟩
  exact cl_anti (fun y _ _ w => by cases w) x (ht x m)
theorem nexts_gr (c : Co) : nexts c (gr c) = [] := by
  rw [List.eq_nil_iff_forall_not_mem]
  intro x m
  obtain ⟨⟨h0, h1⟩, h2, h3⟩ := mem_nexts.mp m
  exact h2 (gr_shut h0 h1 (fun _ z => z) h3)
theorem rnds_at {c : Co} : ∀ (n : Nat) (t : List Int) (i : Nat) (s : List Int), (rnds n c t [])[i]? = some s → s = nexts c (t ++ ((rnds n c t []).take i).flatten) ∧ s ≠ []
  | 0, _, _, _, h => by cases h
  | n + 1, t, i, s, h => by
    unfold rnds at h ⊢
    rw [stp_nil] at h ⊢
    split at h
    · cases h
    · rename_i hne
      rw [if_neg hne]
      cases i with
      | zero =>
        cases h
        exact ⟨by simp, hne⟩
      | succ i =>
        rw [List.getElem?_cons_succ] at h
        obtain ⟨h1, h2⟩ := rnds_at n _ i s h
        refine ⟨?_, h2⟩
        rw [List.take_succ_cons, List.flatten_cons, ← List.append_assoc]
        exact h1
def sof (c : Co) (i : Nat) : List Int := srt ((AR c [] []).take i).flatten
theorem srt_nil : srt [] = [] := List.Perm.eq_nil (srt_perm [])
theorem sof_zero (c : Co) : sof c 0 = [] := by
  unfold sof
  rw [List.take_zero]
  exact srt_nil
theorem sof_all (c : Co) : sof c (AR c [] []).length = gr c := by
  unfold sof gr cl
  rw [List.take_length]
  rfl
theorem AR_at {c : Co} {i : Nat} {s : List Int} (h : (AR c [] [])[i]? = some s) : s = nexts c (sof c i) ∧ s ≠ [] := by
  obtain ⟨h1, h2⟩ := rnds_at _ _ i s h
  refine ⟨h1.trans (nexts_congr fun x => ?_), h2⟩
  unfold sof AR
  rw [mem_srt]
  simp
theorem sof_succ {c : Co} {i : Nat} {s : List Int} (h : (AR c [] [])[i]? = some s) : srt (sof c i ++ s) = sof c (i + 1) := by
  unfold sof
  refine srt_one ((srt_perm _).trans (((srt_perm _).append_right _).trans ?_)) (srt_up _) (srt_up _)
  refine List.Perm.trans ?_ (srt_perm _).symm
  have e : (AR c [] []).take (i + 1) = (AR c [] []).take i ++ [s] := by
    rw [List.take_add_one, h]
    rfl
  rw [e, List.flatten_append]
  simp
theorem Ps.sof (c : Co) : ∀ i, i ≤ (AR c [] []).length → Ps c (Ec.sof c i)
  | 0, _ => by
    rw [sof_zero]
    exact Ps.nil c
  | i + 1, h => by
    have hi : i < (AR c [] []).length := h
    have e := List.getElem?_eq_getElem hi
    obtain ⟨h1, _⟩ := AR_at e
    rw [← sof_succ e]
    refine (Ps.sof c i (Nat.le_of_lt hi)).more (fun x m => by rw [h1] at m; exact m) ?_
    rw [h1]
    exact (nexts_up c _).imp fun z => by omega
end Ec
set_option Elab.async false
set_option linter.all false
set_option maxRecDepth 100000
set_option maxHeartbeats 4000000
namespace Ec
open PySem PySem.Spec PyProof.Rows L2
section
variable {X : Cx} {δ : Dl} {μ : Cells} {Q : Vd → Cells → Prop}
end
end Ec
set_option Elab.async false
set_option linter.all false
set_option maxRecDepth 100000
set_option maxHeartbeats 4000000
namespace Ec
open PySem PySem.Spec PyProof.Rows L2
theorem kit_cons {K : PySem.W.Frag} {cls c : Value} {r : List Value} {b d : Bool} (h : PySem.W.kitOne K cls c = some b) (g : PySem.W.kitAny K cls r = some d) : PySem.W.kitAny K cls (c :: r) = some (b || d) := by
  unfold PySem.W.kitAny
  rw [h]
  cases b with
  | true => rfl
  | false => exact g
theorem kit_nil {K : PySem.W.Frag} {cls : Value} : PySem.W.kitAny K cls [] = some false := rfl
theorem Ps.len {c : Co} {t : List Int} (h : Ps c t) : t.length ≤ c.length := by
  have := nodup_le (h.up.imp fun z => by omega) (rng_nodup c.length) fun x m => mem_rng.mpr (h.rg x m)
  rwa [rng_len] at this
theorem cls_some {K : PySem.W.Frag} {C N : Addr} {nm q : Str} {bs bm : List Value} {hdct : Bool} {sn : List Str} {sub : List Value} {ab : Bool} {col : Option Bool} {dd : Option Addr} {k0 k1 k2 k3 k5 : Option Value} {newId : String}
    (h : K.lookup C = some (excClassObj nm q C N bs bm hdct sn sub ab col dd k0 k1 k2 k3 k5 newId)) : (PySem.W.clsIn K C).isSome = true := by
  unfold PySem.W.clsIn
  rw [h]
  rfl
end Ec
set_option Elab.async false
set_option linter.all false
namespace Ec
open PySem PySem.Spec PyProof.Rows L2
theorem wn_at {c : Co} {p : Int} (h0 : 0 ≤ p) (h1 : p < c.length) : c[p.toNat]? = some (c.getD p.toNat ([], 0)) := by
  have hl : p.toNat < c.length := by omega
  rw [List.getD_eq_getElem?_getD, List.getElem?_eq_getElem hl]
  rfl
theorem wn_mem {c : Co} {p : Int} (h0 : 0 ≤ p) (h1 : p < c.length) : c.getD p.toNat ([], 0) ∈ c := List.mem_of_getElem? (wn_at h0 h1)
theorem Wid.refl (c : Co) : Wid c c := ⟨rfl, fun _ _ _ _ h => h, fun _ _ _ => Int.le_refl _⟩
theorem Wid.trans {a b c : Co} (h : Wid a b) (g : Wid b c) : Wid a c := ⟨g.len.trans h.len, fun p h0 h1 x m => g.fr p h0 (by rw [h.len]; exact h1) x (h.fr p h0 h1 x m), fun p h0 h1 => Int.le_trans (g.nd p h0 (by rw [h.len]; exact h1)) (h.nd p h0 h1)⟩
def Esr (c c2 : Co) : Prop := ∀ (j : Nat) (e : List Int × Int), c2[j]? = some e → e.1.Sublist (rng c.length) ∧ (j : Int) ∉ e.1 ∧ (∀ x ∈ fr c (j : Int), x ∈ e.1) ∧ 0 ≤ e.2 ∧ e.2 ≤ nd c (j : Int)
theorem Esr.nil (c : Co) : Esr c [] := fun j e h => by simp at h
theorem Esr.add {c c2 : Co} {e : List Int × Int} (h : Esr c c2) (h1 : e.1.Sublist (rng c.length)) (h2 : (c2.length : Int) ∉ e.1) (h3 : ∀ x ∈ fr c (c2.length : Int), x ∈ e.1) (h4 : 0 ≤ e.2) (h5 : e.2 ≤ nd c (c2.length : Int)) : Esr c (c2 ++ [e]) := fun j x hj => by
  by_cases hl : j < c2.length
  · rw [List.getElem?_append_left hl] at hj
    exact h j x hj
  · rw [List.getElem?_append_right (by omega)] at hj
    have e0 : j - c2.length = 0 := by
      have := (List.getElem?_eq_some_iff.mp hj).1
      simp at this
      omega
    rw [e0] at hj
    cases hj
    have ej : j = c2.length := by omega
    subst ej
    exact ⟨h1, h2, h3, h4, h5⟩
theorem Esr.all {c c2 : Co} (w : CoW c) (h : Esr c c2) (hl : c2.length = c.length) : Wid c c2 ∧ CoW c2 := by
  have at_ : ∀ p : Int, 0 ≤ p → p < c.length → ∃ e, c2[p.toNat]? = some e ∧ fr c2 p = e.1 ∧ nd c2 p = e.2 ∧ ((p.toNat : Nat) : Int) = p := fun p h0 h1 => by
    have hi : p.toNat < c2.length := by omega
    refine ⟨c2[p.toNat], List.getElem?_eq_getElem hi, ?_, ?_, by omega⟩
    · unfold fr
      rw [List.getD_eq_getElem?_getD, List.getElem?_eq_getElem hi]
      rfl
    · unfold nd
      rw [List.getD_eq_getElem?_getD, List.getElem?_eq_getElem hi]
      rfl
  refine ⟨⟨hl, fun p h0 h1 x m => ?_, fun p h0 h1 => ?_⟩, CoP.whole fun j e hj => ?_⟩
  · obtain ⟨e, e1, e2, e3, e4⟩ := at_ p h0 h1
    rw [e2]
    exact (h _ e e1).2.2.1 x (by rw [e4]; exact m)
  · obtain ⟨e, e1, e2, e3, e4⟩ := at_ p h0 h1
    rw [e3]
    have := (h _ e e1).2.2.2.2
    rwa [e4] at this
  · obtain ⟨g1, g2, _, g4, g5⟩ := h j e hj
    have hj2 := (List.getElem?_eq_some_iff.mp hj).1
    have hnb := w.nb _ (wn_mem (c := c) (p := (j : Int)) (by omega) (by omega))
    rw [hl]
    exact ⟨g1, g2, g4, Int.le_trans g5 hnb⟩
structure Rd (c : Co) (i : Nat) (kvs : List (Int × PyData)) : Prop where
  nd : ndI kvs
  key : ∀ x, x ∈ kvs.map Prod.fst ↔ x ∈ sof c i
  val : ∀ x d, getI kvs x = some d → ∃ (j : Nat) (s : List Int), j < i ∧ d = .int (j : Int) ∧ (AR c [] [])[j]? = some s ∧ x ∈ s
theorem Rd.zero (c : Co) : Rd c 0 [] := ⟨List.nodup_nil, fun x => by rw [sof_zero]; simp, fun x d h => by cases h⟩
theorem sof_mono {c : Co} {x : Int} : ∀ {i j : Nat}, i ≤ j → x ∈ sof c i → x ∈ sof c j := fun {i j} h m => by
  unfold sof at *
  rw [mem_srt] at *
  have e : (AR c [] []).take j = (AR c [] []).take i ++ ((AR c [] []).take j).drop i := by
    have z := List.take_append_drop i ((AR c [] []).take j)
    rw [List.take_take, Nat.min_eq_left h] at z
    exact z.symm
  rw [e, List.flatten_append]
  exact List.mem_append_left _ m
theorem sof_big {c : Co} {i : Nat} (h : (AR c [] []).length ≤ i) : sof c i = gr c := by
  rw [← sof_all]
  unfold sof
  rw [List.take_of_length_le h, List.take_length]
theorem Wid.sof {c c' : Co} (h : Wid c c') (w : CoW c) (w' : CoW c') {x : Int} : ∀ i, x ∈ sof c i → x ∈ Ec.sof c' i
  | 0, m => by
    rw [sof_zero] at m
    cases m
  | i + 1, m => by
    have up : x ∈ Ec.sof c i → x ∈ Ec.sof c' (i + 1) := fun z => sof_mono (Nat.le_succ i) (Wid.sof h w w' i z)
    by_cases hi : i < (AR c [] []).length
    · have e := List.getElem?_eq_getElem hi
      rw [← sof_succ e, mem_srt, List.mem_append] at m
      rcases m with m | m
      · exact up m
      · rw [(AR_at e).1] at m
        obtain ⟨⟨h0, h1⟩, h2, h3⟩ := mem_nexts.mp m
        have hc := h.comes w w' (t := Ec.sof c i) (t' := Ec.sof c' i) (fun y my => Wid.sof h w w' i (x := y) my) h0 h1 h3
        by_cases hx : x ∈ Ec.sof c' i
        · exact sof_mono (Nat.le_succ i) hx
        · have hn : x ∈ Ec.nexts c' (Ec.sof c' i) := mem_nexts.mpr ⟨⟨h0, by rw [h.len]; exact h1⟩, hx, hc⟩
          by_cases hi' : i < (AR c' [] []).length
          · have e' := List.getElem?_eq_getElem hi'
            rw [← sof_succ e', mem_srt, List.mem_append]
            refine .inr ?_
            rw [(AR_at e').1]
            exact hn
          · rw [sof_big (by omega), nexts_gr] at hn
            cases hn
    · have e : Ec.sof c (i + 1) = Ec.sof c i := by rw [sof_big (by omega), sof_big (by omega)]
      rw [e] at m
      exact up m
end Ec
set_option Elab.async false
set_option linter.all false
set_option maxRecDepth 100000
set_option maxHeartbeats 4000000
namespace Ec
open PySem PySem.Spec PyProof.Rows L2
inductive RefA (X : Cx) : List Expr → List Addr → Prop
  | nil : RefA X [] []
  | cons {x : Str} {p : Pos} {a : Addr} {es : List Expr} {as : List Addr} (hg : Gl X x) (hm : X.mg x = some (.ref a)) (hd : (x == ("__debug__" : Str)) = false) (hs : starEach (.Name x p :: es) X.env = (false, eval (.Name x p) X.env) :: starEach es X.env) (r : RefA X es as) : RefA X (.Name x p :: es) (a :: as)
theorem pe_ref {X : Cx} {x : Str} {p : Pos} {a : Addr} (hg : Gl X x) (hm : X.mg x = some (.ref a)) (hd : (x == ("__debug__" : Str)) = false) : PE X (.Name x p) (tC (.ref a)) :=
  ⟨fun pins s σ H Q I q => ld_glob I hg hm ⟨.ref _, H, I, (rfl : _ = _), q⟩ hd⟩
theorem RefA.pa {X : Cx} {es : List Expr} {as : List Addr} (h : RefA X es as) : PA X es (tCs (as.map V.ref)) := by
  induction h with
  | nil => exact pa_nil
  | cons hg hm hd hs r ih => exact pa_cons (pe_ref hg hm hd) ih hs
section
variable {X : Cx} {W : WX} {er : ErP} {δ : Dl} {μ : Cells} {e ix : Expr} {es fs : List Expr} {pos p1 p2 : Pos}
end
end Ec
set_option Elab.async false
set_option linter.all false
set_option maxRecDepth 100000
set_option maxHeartbeats 4000000
namespace Ec
open PySem PySem.Spec PyProof.Rows L2
end Ec
set_option Elab.async false
set_option linter.all false
set_option maxRecDepth 100000
set_option maxHeartbeats 4000000
namespace Ec
open PySem PySem.Spec PyProof.Rows L2
def Mate (c c2 : Co) : Prop := ∀ (j : Nat) (e : List Int × Int), c2[j]? = some e → ∃ e', c[j]? = some e' ∧ e.1 = e'.1 ∧ 0 ≤ e.2 ∧ e.2 ≤ 1000
theorem Mate.nil (c : Co) : Mate c [] := fun j e h => by simp at h
theorem Mate.add {c c2 : Co} {x : List Int × Int} {v : Int} (h : Mate c c2) (hx : c[c2.length]? = some x) (hv : 0 ≤ v) (hv2 : v ≤ 1000) : Mate c (c2 ++ [(x.1, v)]) := fun j e hj => by
  by_cases hl : j < c2.length
  · rw [List.getElem?_append_left hl] at hj
    exact h j e hj
  · rw [List.getElem?_append_right (by omega)] at hj
    have hz : j - c2.length = 0 := by
      have := (List.getElem?_eq_some_iff.mp hj).1
      simp at this
      omega
    have hj2 : j = c2.length := by omega
    rw [hz] at hj
    cases hj
    subst hj2
    exact ⟨x, hx, rfl, hv, hv2⟩
end Ec
set_option Elab.async false
set_option linter.all false
set_option maxRecDepth 100000
set_option maxHeartbeats 4000000
namespace Ec
open PySem PySem.Spec PyProof.Rows L2
theorem shownAll_map : ∀ ds : List PyData, PyData.shownAll ds = ds.map PyData.shown
  | [] => by simp only [PyData.shownAll, List.map_nil]
  | d :: ds => by simp only [PyData.shownAll, List.map_cons, shownAll_map ds]
theorem showableAll_of : ∀ {ds : List PyData}, (∀ d ∈ ds, d.showable = true) → PyData.showableAll ds = true
  | [], _ => by simp only [PyData.showableAll]
  | d :: ds, h => by
    simp only [PyData.showableAll, Bool.and_eq_true]
    exact ⟨h d List.mem_cons_self, showableAll_of fun x m => h x (List.mem_cons_of_mem _ m)⟩
theorem hasDictAll_of : ∀ {ds : List PyData}, (∀ d ∈ ds, d.hasDict = false) → PyData.hasDictAll ds = false
  | [], _ => by simp only [PyData.hasDictAll]
  | d :: ds, h => by
    simp only [PyData.hasDictAll, Bool.or_eq_false_iff]
    exact ⟨h d List.mem_cons_self, hasDictAll_of fun x m => h x (List.mem_cons_of_mem _ m)⟩
theorem depthAll_of {n : Nat} : ∀ {ds : List PyData}, (∀ d ∈ ds, d.depth ≤ n) → PyData.depthAll ds ≤ n
  | [], _ => by simp only [PyData.depthAll]; exact Nat.zero_le _
  | d :: ds, h => by
    simp only [PyData.depthAll]
    exact Nat.max_le.mpr ⟨h d List.mem_cons_self, depthAll_of fun x m => h x (List.mem_cons_of_mem _ m)⟩
structure Shw (n k : Nat) (d : PyData) : Prop where
  sh : d.showable = true
  nd : d.hasDict = false
  dp : d.depth ≤ k
  ln : d.shown.length ≤ n
theorem Shw.mono {n m k : Nat} {d : PyData} (h : Shw n k d) (l : n ≤ m) : Shw m k d := ⟨h.sh, h.nd, h.dp, Nat.le_trans h.ln l⟩
theorem Shw.int {i : Int} (h : i.natAbs < 10 ^ 9) : Shw 10 0 (.int i) := by
  refine ⟨?_, by simp only [PyData.hasDict], by simp only [PyData.depth]; exact Nat.le_refl _, ?_⟩
  · simp only [PyData.showable]
    refine decide_eq_true ?_
    by_cases h0 : i.natAbs = 0
    · rw [h0]
      decide
    · exact (Nat.log2_lt h0).mpr (Nat.lt_of_lt_of_le h (Nat.le_trans (by decide : 10 ^ 9 ≤ 2 ^ 100) (Nat.pow_le_pow_right (by decide) (by decide))))
  · simp only [PyData.shown]
    have e := int_text_length_le10 (k := 9) (by decide) h
    refine Nat.le_trans ?_ e
    show (Str.ofString (toString i)).length ≤ _
    rw [PySem.ofString_length]
    exact Nat.le_refl _
theorem sum_le {n : Nat} : ∀ {l : List Nat}, (∀ x ∈ l, x ≤ n) → l.sum ≤ l.length * n
  | [], _ => by simp
  | x :: l, h => by
    have h1 := h x List.mem_cons_self
    have h2 := sum_le (n := n) (l := l) fun y m => h y (List.mem_cons_of_mem _ m)
    rw [List.sum_cons, List.length_cons, Nat.succ_mul]
    omega
theorem shown_sum {n k : Nat} {ds : List PyData} (h : ∀ d ∈ ds, Shw n k d) : ((PyData.shownAll ds).map (·.length)).sum + 2 * (PyData.shownAll ds).length + 3 ≤ ds.length * (n + 2) + 3 := by
  rw [shownAll_map, List.map_map]
  have := sum_le (n := n) (l := ds.map ((fun t : Str => t.length) ∘ PyData.shown)) fun x m => by
    obtain ⟨d, hd, rfl⟩ := List.mem_map.mp m
    exact (h d hd).ln
  rw [List.length_map] at this ⊢
  rw [Nat.mul_add]
  omega
theorem Shw.tup {n k : Nat} {ds : List PyData} (h : ∀ d ∈ ds, Shw n k d) : Shw (ds.length * (n + 2) + 3) (k + 1) (.tuple ds) := by
  refine ⟨?_, ?_, ?_, ?_⟩
  · simp only [PyData.showable]
    exact showableAll_of fun d m => (h d m).sh
  · simp only [PyData.hasDict]
    exact hasDictAll_of fun d m => (h d m).nd
  · have := depthAll_of fun d m => (h d m).dp
    simp only [PyData.depth]
    omega
  · simp only [PyData.shown]
    exact Nat.le_trans (tupleText_len_le _) (shown_sum h)
theorem Shw.lst {n k : Nat} {ds : List PyData} (h : ∀ d ∈ ds, Shw n k d) : Shw (ds.length * (n + 2) + 3) (k + 1) (.list ds) := by
  refine ⟨?_, ?_, ?_, ?_⟩
  · simp only [PyData.showable]
    exact showableAll_of fun d m => (h d m).sh
  · simp only [PyData.hasDict]
    exact hasDictAll_of fun d m => (h d m).nd
  · have := depthAll_of fun d m => (h d m).dp
    simp only [PyData.depth]
    omega
  · simp only [PyData.shown]
    exact Nat.le_trans (listText_len_le _) (shown_sum h)
theorem Shw.up {n k j : Nat} {d : PyData} (h : Shw n k d) (l : k ≤ j) : Shw n j d := ⟨h.sh, h.nd, Nat.le_trans h.dp l, h.ln⟩
section
variable {K : PySem.W.Frag} {μ : Cells} {Q : Vd → Cells → Prop} {a b : Str}
end
end Ec
set_option Elab.async false
set_option linter.all false
set_option maxRecDepth 100000
set_option maxHeartbeats 4000000
namespace Ec
open PySem PySem.Spec PyProof.Rows L2
end Ec
set_option Elab.async false
set_option linter.all false
set_option maxRecDepth 100000
set_option maxHeartbeats 4000000
namespace Ec
open PySem PySem.Spec PyProof.Rows L2
def stepP (c : Co) (s : List Int) : List (List Int) := (((rng c.length).filter fun p => !decide (p ∈ s)).filter fun p => comes c s p).map fun p => s ++ [p]
def allP (c : Co) : Nat → List (List Int)
  | 0 => [[]]
  | k + 1 => (allP c k).flatMap (stepP c)
theorem POrd.init {c : Co} {r : List Int} {x : Int} (h : POrd c (r ++ [x])) : POrd c r ∧ 0 ≤ x ∧ x < c.length ∧ x ∉ r ∧ comes c r x = true := by
  have h1 := h.take r.length
  rw [List.take_left] at h1
  have hx := h.rg x (by simp)
  have hn := (List.nodup_append.mp h.nd).2.2
  refine ⟨h1, hx.1, hx.2, fun m => hn x m x (by simp) rfl, ?_⟩
  have := h.ok r.length x (by simp)
  rwa [List.take_left] at this
theorem mem_allP {c : Co} : ∀ {k : Nat} {r : List Int}, r ∈ allP c k ↔ POrd c r ∧ r.length = k
  | 0, r => by
    unfold allP
    constructor
    · intro h
      cases List.mem_singleton.mp h
      exact ⟨POrd.nil c, rfl⟩
    · rintro ⟨_, h⟩
      rw [List.length_eq_zero_iff.mp h]
      exact List.mem_singleton_self _
  | k + 1, r => by
    unfold allP
    rw [List.mem_flatMap]
    constructor
    · rintro ⟨s, hs, hr⟩
      obtain ⟨h1, h2⟩ := mem_allP.mp hs
      unfold stepP at hr
      obtain ⟨p, hp, rfl⟩ := List.mem_map.mp hr
      obtain ⟨hp1, hp2⟩ := List.mem_filter.mp hp
      obtain ⟨hp3, hp4⟩ := List.mem_filter.mp hp1
      obtain ⟨g0, g1⟩ := mem_rng.mp hp3
      exact ⟨h1.add g0 g1 (by simpa using hp4) hp2, by rw [List.length_append, h2]; rfl⟩
    · rintro ⟨h, hl⟩
      rcases List.eq_nil_or_concat r with rfl | ⟨s, x, rfl⟩
      · simp at hl
      · rw [List.concat_eq_append] at h hl ⊢
        obtain ⟨h1, h2, h3, h4, h5⟩ := h.init
        rw [List.length_append, List.length_singleton] at hl
        refine ⟨s, mem_allP.mpr ⟨h1, by omega⟩, ?_⟩
        unfold stepP
        exact List.mem_map.mpr ⟨x, List.mem_filter.mpr ⟨List.mem_filter.mpr ⟨mem_rng.mpr ⟨h2, h3⟩, by simpa using h4⟩, h5⟩, rfl⟩
end Ec
set_option Elab.async false
set_option linter.all false
set_option maxRecDepth 100000
set_option maxHeartbeats 4000000
namespace Ec
open PySem PySem.Spec PyProof.Rows L2
end Ec
set_option Elab.async false
set_option linter.all false
set_option maxRecDepth 100000
set_option maxHeartbeats 4000000
namespace Ec
open PySem PySem.Spec PyProof.Rows L2
section
variable {X : Cx} {δ : Dl} {μ : Cells} {e a b : Expr} {pos p : Pos} {Q : Vd → Cells → Prop} {mg : Str → Option Value}
end
theorem Pth.lt {c : Co} {r s : List Int} {ps : List Nat} (h : Pth c r ps s) (ho : IsOrd c r) : ∀ i ∈ ps, i < c.length := by
  induction h with
  | nil => intro i m; cases m
  | snoc g hi ih =>
    intro i m
    rcases List.mem_append.mp m with m | m
    · exact ih i m
    · cases List.mem_singleton.mp m
      have h1 := ((frp_ok (g.ord ho)).mp hi).1
      have h2 := (g.ord ho).lens
      omega
end Ec
set_option Elab.async false
set_option linter.all false
set_option maxRecDepth 100000
set_option maxHeartbeats 4000000
namespace Ec
open PySem PySem.Spec PyProof.Rows L2
abbrev TX := List (List Int × Addr × Value)
def TK (H : Hp) (b : Addr) (k : List Int) : Prop := ∃ o, H b = some (.frz o (.tup (k.map V.int)))
theorem itemsI_are {P : Program} {w : World} : ∀ {ks : List Int} {us : List Value}, Vals (ks.map V.int) us → ItemsAre (intKind P w) ks us
  | [], _, r => by rw [List.map_nil] at r; cases r; exact .nil
  | k :: ks, _, r => by
    rw [List.map_cons] at r
    cases r with
    | cons h t =>
      refine .cons ?_ (itemsI_are t)
      obtain ⟨t, rfl⟩ := (show ∃ t, _ = Value.int k t from h)
      show Value.isInt k (.int k t) = true
      simp [Value.isInt]
theorem TK.key {P : Program} {w : World} {H : Hp} {h : Heap} {b : Addr} {k : List Int} (x : TK H b k) (ok : HOk P w H h) : (tupleKind (intKind P w)).is h k b := by
  obtain ⟨o, e⟩ := x
  obtain ⟨_, _, its, r, ob, h1, h2, n, h3⟩ := (show ObjOk P w H h b (.frz o (.tup (k.map V.int))) from ok b _ e)
  exact ⟨ob, its.toArray, n, h1, h2, h3, by simpa using itemsI_are r⟩
def Rz (H : Hp) (a : Addr) (u : HO) : Prop := L2.Rd H a u ∨ ∃ o o', H a = some (.frz o (.frz o' u))
theorem Rz.of {H : Hp} {a : Addr} {u : HO} (h : H a = some u) : Rz H a u := .inl (.inl h)
theorem Rz.ok {P : Program} {w : World} {H : Hp} {h : Heap} {a : Addr} {u : HO} (r : Rz H a u) (x : HOk P w H h) : ObjOk P w H h a u := by
  rcases r with r | ⟨o, o', r⟩
  · exact r.ok x
  · exact (show ObjOk P w H h a (.frz o (.frz o' u)) from x a _ r).2.2
def Fz (H : Hp) (a : Addr) (o : Obj) (u : HO) : Prop := H a = some (.frz o u) ∨ H a = some (.frz o (.frz o u))
theorem Fz.up {H H' : Hp} {a : Addr} {o : Obj} {u : HO} (h : Fz H a o u) (e : Same H H') : Fz H' a o u := h.elim (fun h => .inl (e _ _ h)) fun h => .inr (e _ _ h)
def KX (H : Hp) (xs : TX) : Prop := ∀ x ∈ xs, TK H x.2.1 x.1
section
variable {X : Cx} {pins : List (Addr × Obj)} {σ : L2.St} {H : Hp} {s : Shared} {a b : Addr} {xs : TX} {k : List Int}
end
section
variable {X : Cx} {pins : List (Addr × Obj)} {σ : L2.St} {H : Hp} {s : Shared} {d : Addr} {o : Obj} {xs : TX}
end
section
variable {P : Program} {w : World} {K : PySem.W.Frag} {tg : Expr} {d : Addr} {o : Obj} {es : Array DictEntry} {ep : Nat}
end
section
variable {X : Cx} {tg e : Expr} {td : TE} {apos cpos : Pos}
end
section
variable {K : PySem.W.Frag} {F H : Hp} {μ : Cells}
end
section
variable {X : Cx} {δ : Dl} {μ : Cells} {Q : Vd → Cells → Prop} {a b o i value : Expr} {pos pos' : Pos} {D : Dn}
end
section
variable {X : Cx} {δ : Dl} {μ : Cells} {Q : Vd → Cells → Prop} {a b o e f tg : Expr} {pos apos cpos tpos : Pos} {D : Dn} {QI : List PyData → Cells → Prop}
end
section
variable {X : Cx} {δ : Dl} {μ : Cells} {Q : Vd → Cells → Prop} {D : Dn} {rest : List Stmt}
end
end Ec
set_option Elab.async false
set_option linter.all false
set_option maxRecDepth 100000
set_option maxHeartbeats 4000000
namespace Ec
open PySem PySem.Spec PyProof.Rows L2
section
variable {X : Cx} {δ : Dl} {μ : Cells} {Q : Vd → Cells → Prop} {e a b o : Expr} {pos p p2 p3 p1 apos cpos : Pos} {mg : Str → Option Value}
end
end Ec
set_option Elab.async false
set_option linter.all false
set_option maxRecDepth 100000
set_option maxHeartbeats 4000000
namespace Ec
open PySem PySem.Spec PyProof.Rows L2
section
variable {prog : Program} {w : World} {A : Around} {E : Value → Shared → Prop} {s : Shared}
end
section
variable {X : Cx} {δ : Dl} {μ : Cells} {o : Expr} {pos p2 : Pos}
end
end Ec
set_option Elab.async false
set_option linter.all false
set_option maxRecDepth 100000
set_option maxHeartbeats 4000000
namespace Ec
open PySem PySem.Spec PyProof.Rows L2
section
variable {X : Cx} {δ : Dl} {μ : Cells} {a b : Expr} {pos : Pos} {Q : Vd → Cells → Prop}
end
section
variable {K : PySem.W.Frag} {μ : Cells} {Q : Vd → Cells → Prop}
end
section
variable {K : PySem.W.Frag}
abbrev cls (ν : List (Addr × List PyData)) : Cells := ν.map fun c => (c.1, (c.2 : Cont))
abbrev Hc := List ((Addr × List PyData) × (Addr × List PyData))
end
section
variable {X : Cx} {δ : Dl} {μ : Cells} {e : Expr} {Q : Vd → Cells → Prop}
end
end Ec
set_option Elab.async false
set_option linter.all false
set_option maxRecDepth 100000
set_option maxHeartbeats 4000000
namespace Ec
open PySem PySem.Spec PyProof.Rows L2
def hN (n : Nat) (ad : Nat → Addr × Addr) (A B : Nat → List PyData) : Hc := (List.range n).map fun s => (((ad s).1, A s), ((ad s).2, B s))
section
variable {n : Nat} {ad : Nat → Addr × Addr} {A B : Nat → List PyData} {μ : Cells}
end
end Ec
set_option Elab.async false
set_option linter.all false
set_option maxRecDepth 100000
set_option maxHeartbeats 4000000
namespace Ec
open PySem PySem.Spec PyProof.Rows L2
section
variable {K : PySem.W.Frag} {μ : Cells} {Q : Vd → Cells → Prop} {X : Cx} {δ : Dl} {D : Dn}
theorem wb_dropAt (i : Nat) {y : Addr × Cont} {sts : List Stmt} (hi : μ[i]? = some y) (h : WB X sts δ (μ.eraseIdx i) D) : WB X sts δ μ D := fun F H σ R De b => by
  have pm : μ.Perm (y :: μ.eraseIdx i) := by
    obtain ⟨hl, e⟩ := List.getElem?_eq_some_iff.mp hi
    rw [← e]
    exact perm_erase hl
  have R1 := R.perm pm
  have R' : Rp X.K F H σ δ (μ.eraseIdx i) := ⟨⟨R1.m.ex, (List.nodup_cons.mp R1.m.nd).2, fun b ds m => R1.m.cel b ds (List.mem_cons_of_mem _ m)⟩, R.len, R.env⟩
  have w : Fw (ks μ) (ks (μ.eraseIdx i)) F H F H := Fw.refl.sub (fun _ h => h) fun x m => .inl ((pm.map Prod.fst).mem_iff.mpr (List.mem_cons_of_mem _ m))
  exact h F H σ R' De (b.next w)
end
end Ec
set_option Elab.async false
set_option linter.all false
set_option maxRecDepth 100000
set_option maxHeartbeats 4000000
namespace Ec
open PySem PySem.Spec PyProof.Rows L2
section
variable {K : PySem.W.Frag}
theorem dq_p {F : Hp} {v : V} {p : Addr} (h : Dq K F v (ptr p)) : v = .ref p := by
  generalize e : ptr p = d at h
  cases h with
  | d h =>
    subst e
    cases h
  | p c =>
    unfold ptr at e
    injection e with e
    injection e with e _
    injection e with e _
    injection e with e
    rw [Int.ofNat.inj e]
  | z h =>
    unfold ptr zd at e
    injection e with e
    injection e with e _
    injection e with _ e
    cases e
  | e h g o =>
    unfold ptr exI at e
    injection e with e
    injection e with e _
    injection e with e _
    cases e
  | q h n =>
    unfold ptr ptr2 at e
    injection e with e
    injection e with e _
    injection e with _ e
    cases e
end
section
variable {X : Cx} {δ : Dl} {μ : Cells} {e o : Expr} {Q : Vd → Cells → Prop} {D : Dn} {pos apos cpos : Pos}
end
section
variable {K : PySem.W.Frag} {μ : Cells} {Q : Vd → Cells → Prop}
theorem ow_catCC {p q : Addr} {ds es : List PyData} (i j : Nat) (hi : μ[i]? = some (p, (ds : Cont))) (hj : μ[j]? = some (q, (es : Cont))) (hl : ds.length + es.length ≤ 100000) (h : ∀ r, Q (.a r) ((r, Cont.l (ds ++ es)) :: μ)) : OpW K (OAdd K) (.a p) (.a q) μ Q := fun F H v u m o1 o2 QV c => by
  obtain ⟨_, vs, h1, d1⟩ := m.cel _ _ (List.mem_of_getElem? hi)
  obtain ⟨_, us, h2, d2⟩ := m.cel _ _ (List.mem_of_getElem? hj)
  obtain rfl : v = .ref p := o1
  obtain rfl : u = .ref q := o2
  refine .inr (.inr (.inl ⟨p, q, vs, us, rfl, rfl, h1, h2, by rw [dqs_len d1, dqs_len d2]; exact Nat.le_trans hl (by decide), fun r nr => ?_⟩))
  obtain ⟨m2, w2⟩ := m.cellQ nr (dqs_app d1 d2)
  exact c (.a r) _ _ _ _ w2 m2 rfl (h r)
end
end Ec
set_option Elab.async false
set_option linter.all false
set_option maxRecDepth 100000
set_option maxHeartbeats 4000000
namespace PySem.HandSPX
open PySem PySem.Spec PyProof.Rows
section
variable {M : Model} {A : Around} {E : Value → Shared → Prop} {hp : Heap} {g : Array GenState} {d : Drawn} {t : Nat} {os : OsState}
variable {nm q : Str} {C N : Addr} {bs bm bmB : List Value} {hdct : Bool} {sn : List Str} {sub : List Value} {ab : Bool} {col : Option Bool} {dd : Option Addr} {k0 k1 k2 k3 k5 : Option Value} {B newId initId : String}
theorem kw_check (F : ExcBaseFacts B newId initId bmB) (hT : ∀ X : String, bm.contains (.type X) = bmB.contains (.type X)) {kn : List (Str × Value)} {Q : Unit → Shared → Prop}
    (hC : hp.get? C = some (excClassObj nm q C N bs bm hdct sn sub ab col dd k0 k1 k2 k3 k5 newId)) (hq : Q () ⟨hp, g, d, t, os⟩) : wpAny M A (checkBuiltinCall newId ⟨[.ref C], kn⟩) Q E ⟨hp, g, d, t, os⟩ := by
  have c9 : (Value.ref C :: bm).contains (.type B) = true := by rw [List.contains_cons, hT, F.hasB, Bool.or_true]
  have s9 := F.noStar
  simp only [checkBuiltinCall, F.newKind, F.newSplit, F.newRow]
  repeat (first | refine wpAny_loadPart_at hC ?_ | (refine wpAny_isSubtype_exc hC ?_; rw [c9]) | refine wpAny_staticBase_exc hC ?_ | refine wpAny_madeBy_exc hC ?_ | simp only [bne_self_eq_false, Bool.false_eq_true, if_false] | wp_step)
  exact hq
end
section
variable {prog : Program} {w : World} {A : Around} {E : Value → Shared → Prop} {R : Result → Shared → Prop} {hp : Heap} {g : Array GenState} {d : Drawn} {t : Nat} {os : OsState}
variable {nm q : Str} {C N : Addr} {bs bm bmB : List Value} {hdct : Bool} {sn : List Str} {sub : List Value} {ab : Bool} {col : Option Bool} {dd : Option Addr} {k0 k1 k2 k3 k5 : Option Value} {B newId initId : String}
theorem kw_new (F : ExcBaseFacts B newId initId bmB) (hT : ∀ X : String, bm.contains (.type X) = bmB.contains (.type X)) {kn : List (Str × Value)}
    (hC : hp.get? C = some (excClassObj nm q C N bs bm hdct sn sub ab col dd k0 k1 k2 k3 k5 newId))
    (hq : R (.ok (.ret (.ref (hp.objs.size + 1)))) ⟨(hp.push (W.kdv_tup [])).push (excO C hp.objs.size), g, d, t, os⟩) :
    codeAny (model prog w) A (.builtin newId ⟨[.ref C], kn⟩) R ⟨hp, g, d, t, os⟩ := by
  have e9 := F.ends
  have c1 : (Value.ref C :: bm).contains (.type B) = true := by rw [List.contains_cons, hT, F.hasB, Bool.or_true]
  have c2 : (Value.ref C :: bm).contains (.type "AttributeError") = false := by rw [List.contains_cons, hT, F.noAttr]; rfl
  have c3 : (Value.ref C :: bm).contains (.type "NameError") = false := by rw [List.contains_cons, hT, F.noName]; rfl
  refine codeAny_builtinAt F.entry ?_
  unfold Builtin.«BaseException.__new__»
  refine wpAt_bind ?_
  show wpAt _ _ _ (stack >>= _) _ _ _
  refine wpAt_bind (wpAt_stack fun p below => wpAt_of_wpAny ?_)
  wp_walk
  refine wpAt_of_wpAny ?_
  rw [F.owner]
  repeat (first | with_reducible refine wpAny_madeHere_exc F.canon hC ?_ | with_reducible refine wpAny_loadPart_at hC ?_ | (with_reducible refine wpAny_isSubtype_exc hC ?_; first | rw [c1] | rw [c2] | rw [c3]) | wp_step)
  show R _ _
  rw [Heap.size_push]
  exact hq
theorem kw_type (F : ExcBaseFacts B newId initId bmB) (hT : ∀ X : String, bm.contains (.type X) = bmB.contains (.type X)) {kn : List (Str × Value)} {fI : Addr} {Q : Fin → Shared → Prop}
    (hC : hp.get? C = some (excClassObj nm q C N bs bm hdct sn sub ab col dd k0 k1 k2 k3 k5 newId))
    (hi : W.Looks (model prog w) hp (typeLookup (.ref C) "__init__") (some (.ref fI))) (hb : ∀ self, W.Looks (model prog w) hp (bindSpecial (.ref fI) self) (.ref fI, [self]))
    (hq : codeAny (model prog w) A (.call (.ref fI) ⟨[.ref (hp.objs.size + 1)], kn⟩)
      (fun r s' => match r with | .ok (.ret v) => v = .none ∧ Q (.done (.ret (.ref (hp.objs.size + 1)))) s' | .ok _ => False | .error e => E e s') ⟨(hp.push (W.kdv_tup [])).push (excO C hp.objs.size), g, d, t, os⟩) :
    wpAny (model prog w) A (Builtin.«type.__call__» ⟨[.ref C], kn⟩) Q E ⟨hp, g, d, t, os⟩ := by
  repeat (first | with_reducible refine wpAny_loadPart_at hC ?_ | with_reducible refine wpAny_madeBy_exc hC ?_ | wp_step)
  refine codeAny_call_builtin_code (Code.quiet_builtin _ F.quiet) (kw_check F hT hC (kw_new F hT hC ?_))
  show wpAny _ _ _ _ _ _
  have up : ∀ b o, hp.get? b = some o → ((hp.push (W.kdv_tup [])).push (excO C hp.objs.size)).get? b = some o := fun b o e => Heap.get?_push_of_some _ (Heap.get?_push_of_some _ e)
  have hC9 := up _ _ hC
  have g9 : ((hp.push (W.kdv_tup [])).push (excO C hp.objs.size)).get? (hp.objs.size + 1) = some (excO C hp.objs.size) := by heap_get
  have c9 : (Value.ref C :: bm).contains (.ref C) = true := by simp
  have i9 := hi.keeps up
  have b9 := (hb (.ref (hp.objs.size + 1))).keeps up
  unfold isInstance
  repeat (first | with_reducible refine wpAny_loadPart_at g9 ?_ | (with_reducible refine wpAny_isSubtype_exc hC9 ?_; rw [c9]) | wp_step)
  show wpAny _ _ (typeLookup (.ref C) _) _ _ _
  refine i9.at ?_
  refine wpAny_holding (wpAny_bind (b9.at (wpAny_bind (wpAny_call (codeAny_mono hq fun r s' z => ?_)))))
  rcases r with e | (v | _ | _ | _) <;> first | exact z | exact z.elim | skip
  obtain ⟨rfl, z⟩ := z
  first | (exact wpAny_pure (wpAny_pure z)) | (wp_walk; exact z)
theorem kw_own (F : ExcBaseFacts B newId initId bmB) (hT : ∀ X : String, bm.contains (.type X) = bmB.contains (.type X)) {kn : List (Str × Value)} {fI : Addr}
    (hC : hp.get? C = some (excClassObj nm q C N bs bm hdct sn sub ab col dd k0 k1 k2 k3 k5 newId))
    (hi : W.Looks (model prog w) hp (typeLookup (.ref C) "__init__") (some (.ref fI))) (hb : ∀ self, W.Looks (model prog w) hp (bindSpecial (.ref fI) self) (.ref fI, [self]))
    (hq : codeAny (model prog w) (A.under (.builtin "type.__call__" ⟨[.ref C], kn⟩)) (.call (.ref fI) ⟨[.ref (hp.objs.size + 1)], kn⟩) (W.InitBack (hp.objs.size + 1) R) ⟨(hp.push (W.kdv_tup [])).push (excO C hp.objs.size), g, d, t, os⟩) :
    codeAny (model prog w) A (.call (.ref C) ⟨[], kn⟩) R ⟨hp, g, d, t, os⟩ := by
  have f1 := tc_lookup
  have f2 := tc_bind (.ref C)
  have t9 : (⟨hp, g, d, t, os⟩ : Shared).TypeIs (.ref C) "type" := ⟨_, hC, rfl⟩
  refine codeAny_of_tree (show wpAny _ _ (callAny (.ref C) _) _ _ _ from ?_)
  repeat (any_goals (first | assumption | with_reducible refine wpAny_loadPart_at hC ?_ | wp_step))
  refine ⟨rfl, codeAny_call_builtin_at (Code.quiet_builtin _ (by decide +kernel)) entry_typeCall (wpAny_check_type_call_sub hC (kw_type F hT hC hi hb (codeAny_mono hq fun r s' z => ?_)))⟩
  rcases r with e | (v | _ | _ | _) <;> exact z
end
end PySem.HandSPX
namespace Ec
open PySem PySem.Spec PyProof.Rows L2
def tMkE (C : Addr) (f : Str) (Fx : Hp → V → Prop) (ta : TA) : TE := fun σ H Q => ta σ H fun vs H1 => ∃ y, vs = [y] ∧ (∀ (a : Addr), H1 a = none → Fx (upd H1 a (exo a C none)) y) ∧ ∀ a d, H1 a = none → H1 d = none → d ≠ a → Q (.ref a) (upd (upd H1 d (.xd [(f, y)])) a (exv a (.ref C) (some d)))
section
variable {X : Cx} {B newId initId : String} {bmB : List Value} {x f : Str} {e : Expr} {ta : TA} {C fI : Addr} {k : Nat} {fd : FuncData} {ps : List Str} {Fx : Hp → V → Prop} {p pos : Pos}
theorem mk_run {pins : List (Addr × Obj)} {σ : L2.St} {H1 : Hp} {s1 : Shared} {Q : VK} {u : Value} {y : V} {us : List Value} {kn : List (Str × Value)} (Z : Bas B newId initId bmB) (T : Oxg X.K C newId bmB) (iC : PySem.W.findIn X.K (.ref C) "__init__" = some (some (.ref fI)))
    (tI : PySem.W.typeIn X.K (.ref fI) = some (.type "function")) (F1 : FnOk X.prog X.w X.K X.mg X.base CX0 k fI fd ps (spIni C f Fx)) (hr : Room (k + 1) X.A) (hk : (us = [u] ∧ kn = []) ∨ (us = [] ∧ kn = [(f, u)]))
    (hb : ∀ (s : Shared) (a : Value), X.K.In s.heap → BindsTo s fd ⟨a :: us, kn⟩ (ps.zip [a, u])) (I1 : Inv X pins σ H1 s1) (r1 : RelV y u)
    (q1 : ∀ (a : Addr), H1 a = none → Fx (upd H1 a (exo a C none)) y) (q2 : ∀ a d, H1 a = none → H1 d = none → d ≠ a → Q (.ref a) (upd (upd H1 d (.xd [(f, y)])) a (exv a (.ref C) (some d)))) :
    wpAny (model X.prog X.w) X.A (call (.ref C) us kn) (EP X pins σ Q) X.xe s1 := by
  obtain ⟨nm, q, N, bs, sn, sub, ab, col, dd, k0, k1, k2, k3, k5, hC⟩ := T.obj I1
  obtain ⟨h0, g0, d0, t0, o0⟩ := s1
  have hn : H1 (h0.objs.size + 1) = none := I1.hok.fresh (Nat.le_succ _)
  have old : ∀ b o, h0.get? b = some o → ((h0.push (PySem.W.kdv_tup us)).push (PySem.HandSPX.excO C h0.objs.size)).get? b = some o := fun b o z => Heap.get?_push_of_some _ (Heap.get?_push_of_some _ z)
  have made : ((h0.push (PySem.W.kdv_tup us)).push (PySem.HandSPX.excO C h0.objs.size)).get? (h0.objs.size + 1) = some (PySem.HandSPX.excO C h0.objs.size) := by heap_get
  have I2 : Inv X pins σ (upd H1 (h0.objs.size + 1) (exo (h0.objs.size + 1) C none)) ⟨(h0.push (PySem.W.kdv_tup us)).push (PySem.HandSPX.excO C h0.objs.size), g0, d0, t0, o0⟩ :=
    I1.laid (t' := t0) (a := h0.objs.size + 1) (o := exo (h0.objs.size + 1) C none) old (Nat.le_succ _) (exo_ok made)
  have rel : Vals [V.ref (h0.objs.size + 1), y] [Value.ref (h0.objs.size + 1), u] := .cons rfl (.cons r1 .nil)
  have sp : spIni C f Fx [V.ref (h0.objs.size + 1), y] (upd H1 (h0.objs.size + 1) (exo (h0.objs.size + 1) C none)) (fun v H2 => v = .non ∧ ∃ (d : Addr), H2 (h0.objs.size + 1) = some (exo (h0.objs.size + 1) C (some d)) ∧ H2 d = some (exd d [(f, y)]) ∧ H1 d = none ∧ d ≠ h0.objs.size + 1 ∧ upd (del H2 (h0.objs.size + 1)) d (.xd [(f, y)]) = upd H1 d (.xd [(f, y)])) (fun _ _ _ => False) := by
    refine ⟨_, y, rfl, upd_same, q1 _ hn, fun dx hdx ne => ?_⟩
    have hd1 : H1 dx = none := by
      rw [upd_ne ne] at hdx
      exact hdx
    refine ⟨rfl, dx, upd_same, by rw [upd_ne ne, upd_same], hd1, ne, ?_⟩
    funext b
    by_cases h1 : b = dx
    · rw [h1, upd_same, upd_same]
    · rw [upd_ne h1, upd_ne h1]
      by_cases h2 : b = h0.objs.size + 1
      · rw [h2, del_same, hn]
      · rw [del_ne h2, upd_ne h2, upd_ne h1, upd_ne h2]
  have bb := hb ⟨(h0.push (PySem.W.kdv_tup us)).push (PySem.HandSPX.excO C h0.objs.size), g0, d0, t0, o0⟩ (Value.ref (h0.objs.size + 1)) I2.kIn
  have back : ∀ {u2 : Value} {s' : Shared} {v : V} {H2 : Hp}, s'.os = o0 → AllBare s'.gens → Un (frs X.stack) [] (upd H1 (h0.objs.size + 1) (exo (h0.objs.size + 1) C none)) H2 ((h0.push (PySem.W.kdv_tup us)).push (PySem.HandSPX.excO C h0.objs.size)) s'.heap → HOk X.prog X.w H2 s'.heap → (v = .non ∧ ∃ (d : Addr), H2 (h0.objs.size + 1) = some (exo (h0.objs.size + 1) C (some d)) ∧ H2 d = some (exd d [(f, y)]) ∧ H1 d = none ∧ d ≠ h0.objs.size + 1 ∧ upd (del H2 (h0.objs.size + 1)) d (.xd [(f, y)]) = upd H1 d (.xd [(f, y)])) → EP X pins σ Q (.ref (h0.objs.size + 1)) s' := by
    intro u2 s' v H2 os2 bare2 un2 hok2 hq
    obtain ⟨_, d, ea, ed, hd1, ne, eq⟩ := hq
    obtain ⟨h2, g2, d2, t2, o2⟩ := s'
    obtain ⟨t9, G, J, kG, ge, hoe, na⟩ := mk_end0 (d2 := d2) (t2 := t2) I1 (Nat.le_succ _) old un2 hok2 os2 bare2 ea ed hd1
    rw [eq] at J na
    have J2 := J.laidN (t' := t2) (o := exv (h0.objs.size + 1) (.ref C) (some d)) kG ge na ⟨⟨_, _, hoe, rfl, rfl, rfl⟩, ⟨_, hoe⟩, fun _ _ hx hh => by
      obtain ⟨oe, vs, e1, e2, e3, e4⟩ := hx
      exact ⟨oe, vs, hh _ e1, e2, e3, e4⟩⟩
    exact ⟨.ref (h0.objs.size + 1), _, J2, rfl, q2 _ _ hn hd1 ne⟩
  rcases hk with ⟨rfl, rfl⟩ | ⟨rfl, rfl⟩
  · refine wpAny_call (PySem.HandSPX.call_own Z.F (fun _ => rfl) hC (PySem.W.looks_findIn I1.kIn iC) (fun self => PySem.W.bind_fn I1.kIn self tI) (by rw [sizeLine_eq]; exact (by decide : 1 ≤ 16777216))
      (codeAny_mono (F1.run _ X.stack _ _ ⟨[Value.ref (h0.objs.size + 1), u], []⟩ _ _ _ (fun _ _ _ => False) (hr.make C [u] []) (I2.env0.make C [u] []) bb rel sp) fun r s' hq' => ?_))
    cases r with
    | error er => exact hq'.elim
    | ok fl =>
      cases fl with
      | ret u2 =>
        obtain ⟨v, H2, os2, bare2, un2, hok2, rv, hq⟩ := hq'
        exact ⟨by rw [hq.1] at rv; exact rv, back (u2 := u2) os2 bare2 un2 hok2 hq⟩
      | next => exact hq'.elim
      | brk => exact hq'.elim
      | cont => exact hq'.elim
  · refine wpAny_call (PySem.HandSPX.kw_own Z.F (fun _ => rfl) hC (PySem.W.looks_findIn I1.kIn iC) (fun self => PySem.W.bind_fn I1.kIn self tI)
      (codeAny_mono (F1.run _ X.stack _ _ ⟨[Value.ref (h0.objs.size + 1)], [(f, u)]⟩ _ _ _ (fun _ _ _ => False) (hr.make C [] [(f, u)]) (I2.env0.make C [] [(f, u)]) bb rel sp) fun r s' hq' => ?_))
    cases r with
    | error er => exact hq'.elim
    | ok fl =>
      cases fl with
      | ret u2 =>
        obtain ⟨v, H2, os2, bare2, un2, hok2, rv, hq⟩ := hq'
        exact ⟨by rw [hq.1] at rv; exact rv, back (u2 := u2) os2 bare2 un2 hok2 hq⟩
      | next => exact hq'.elim
      | brk => exact hq'.elim
      | cont => exact hq'.elim
end
end Ec
set_option Elab.async false
set_option linter.all false
set_option maxRecDepth 100000
set_option maxHeartbeats 4000000
namespace Ec
open PySem PySem.Spec PyProof.Rows L2 RZ
def ExcA (P : Program) (w : World) (K : PySem.W.Frag) (mg : Str → Option Value) (base : Heap) (k : Nat) (x f : Str) (C : Addr) (G : PyData → Prop) : Prop :=
  ∃ (B newId initId : String) (bmB : List Value) (fI : Addr) (fd : FuncData) (ps : List Str) (Fx : Hp → V → Prop), Bas B newId initId bmB ∧ Oxg K C newId bmB ∧ PySem.W.findIn K (.ref C) "__init__" = some (some (.ref fI)) ∧ PySem.W.typeIn K (.ref fI) = some (.type "function") ∧
    FnOk P w K mg base CX0 k fI fd ps (spIni C f Fx) ∧ (∀ (s : Shared) (a u : Value), K.In s.heap → BindsTo s fd ⟨[a, u], []⟩ (ps.zip [a, u])) ∧ (∀ (s : Shared) (a u : Value), K.In s.heap → BindsTo s fd ⟨[a], [(f, u)]⟩ (ps.zip [a, u])) ∧ mg x = some (.ref C) ∧
    ∀ (F H : Hp) (v : V) (d : PyData), Same F H → De K F v d → G d → Fx H v
theorem kb_ini {K : PySem.W.Frag} {x qual : Str} {st : Stmt} {f : Addr} {fd : FuncData} (F : Fun K x qual st f fd) {ps : List Str} {k : Str} (h : ∀ (kV doc pm : Value) (an : Option Addr) (cdv ct u w : Value), bindArgs (PySem.W.fnOf x qual (defArgs st) (defBody st) (defScope st) .none kV doc pm an cdv ct) ⟨[u], [(k, w)]⟩ = pure (ps.zip [u, w])) :
    ∀ (s : Shared) (a u : Value), K.In s.heap → BindsTo s fd ⟨[a], [(k, u)]⟩ (ps.zip [a, u]) := by
  obtain ⟨oc, od, kV, doc, pm, an, cdv, ct, osl, rfl, lk, hcd⟩ := F.ex
  exact fun s a u _ => .of_eq (h kV doc pm an cdv ct a u)
theorem pb_ini {K : PySem.W.Frag} {x qual : Str} {st : Stmt} {f : Addr} {fd : FuncData} (F : Fun K x qual st f fd) {ps : List Str} (h : ∀ (kV doc pm : Value) (an : Option Addr) (cdv ct u w : Value), bindArgs (PySem.W.fnOf x qual (defArgs st) (defBody st) (defScope st) .none kV doc pm an cdv ct) ⟨[u, w], []⟩ = pure (ps.zip [u, w])) :
    ∀ (s : Shared) (a u : Value), K.In s.heap → BindsTo s fd ⟨[a, u], []⟩ (ps.zip [a, u]) := by
  obtain ⟨oc, od, kV, doc, pm, an, cdv, ct, osl, rfl, lk, hcd⟩ := F.ex
  exact fun s a u _ => .of_eq (h kV doc pm an cdv ct a u)
def FmT (d : PyData) : Prop := ∃ x : Str, d = .str x ∧ x.length ≤ 100000 ∧ ∀ c ∈ x.cps.toList, c < 16 ^ 8
theorem fmT_of {K : PySem.W.Frag} {F H : Hp} {d : PyData} {v : V} (e : Same F H) (h : De K F v d) (f : FmT d) : FmS H v := by
  obtain ⟨x, rfl, h1, h2⟩ := f
  exact ⟨x, dp_str h, h1, h2⟩
section
variable {X : Cx} {P : Program} {w : World} {K : PySem.W.Frag} {mg : Str → Option Value} {base : Heap} {k : Nat} {x f : Str} {C : Addr} {G : PyData → Prop} {e : Expr} {p pos kp : Pos} {δ : Dl} {μ : Cells} {Q : Vd → Cells → Prop}
theorem mkE_end {K : PySem.W.Frag} {F H : Hp} {σ : L2.St} {δ : Dl} {μ : Cells} {v : V} {d : PyData} (R : Rp K F H σ δ μ) (o : De K F v d) {a dd : Addr} (ha : H a = none) (hd : H dd = none) (ne : dd ≠ a) :
    ∃ F', Fw (ks μ) (ks μ) F H F' (upd (upd H dd (.xd [(f, v)])) a (exv a (.ref C) (some dd))) ∧ Rp K F' (upd (upd H dd (.xd [(f, v)])) a (exv a (.ref C) (some dd))) σ δ μ ∧ VOk K F' (.e a C f d) (.ref a) := by
  obtain ⟨m1, w1⟩ := R.m.new (o := .xd [(f, v)]) hd
  have ha2 : upd H dd (.xd [(f, v)]) a = none := by rw [upd_ne (Ne.symm ne)]; exact ha
  obtain ⟨m2, w2⟩ := m1.new (o := exv a (.ref C) (some dd)) ha2
  exact ⟨_, w1.trans w2, (R.to w1.f m1).to w2.f m2, rfl, dd, v, upd_same, by rw [upd_ne ne, upd_same], dp_up w2.f _ _ (dp_up w1.f _ _ o)⟩
theorem we_mkE (m : ExcA P w K mg base k x f C G) (hr : Room (k + 1) X.A) (hg : Gl X x) (h : WE X e δ μ fun z μ1 => ∃ d, z = .d d ∧ G d ∧ ∀ a, Q (.e a C f d) μ1) (hX : (X.prog, X.w, X.K, X.mg, X.base) = (P, w, K, mg, base) := by rfl)
    (hdb : (x == ("__debug__" : Str)) = false := by decide) (he : starEach [e] X.env = (false, eval e X.env) :: starEach [] X.env := by rfl) (hpl : (backTo pos (starEach [] X.env)).any (·.1) = false := by rfl) :
    WE X (.Call (.Name x p) [e] [] pos) δ μ Q := fun F H σ R QV kk => by
  obtain ⟨B, newId, initId, bmB, fI, fd, ps, Fx, Z, T, iC, tI, F1, hb, _, hm, hG⟩ := m
  cases hX
  refine toE (t := tMkE C f Fx (cA X [e])) ⟨fun pins s σ H Q I hh => ?_⟩ ?_
  · refine wpAny_Call_Name_kw (ld_glob I hg hm ?_ hdb)
    refine PySem.W.callWith_K (h₀ := X.base) I.ok.mod.kin T.kC (thn ((pcA X [e]).run pos pins s σ H _ I hh) fun us s1 hq => ?_) he hpl
    obtain ⟨vs, H1, I1, r1, y, rfl, q1, q2⟩ := hq
    cases r1 with
    | cons r rr =>
      cases rr
      exact ⟨I1.kIn, mk_run Z T iC tI F1 hr (.inl ⟨rfl, rfl⟩) (fun s a X => hb s a _ X) I1 r q1 q2⟩
  · refine toA (pa_cons (pcE X e) pa_nil he) (h F H σ R _ fun v z F1 H1 μ1 w1 R1 o1 q => ?_)
    obtain ⟨d, rfl, hd, q⟩ := q
    refine ⟨v, rfl, fun a na => hG _ _ v d (Same.trans R1.m.ex (same_new na)) o1 hd, fun a dd ha hdd ne => ?_⟩
    obtain ⟨F2, w2, R2, o2⟩ := mkE_end R1 o1 ha hdd ne
    exact kk _ (.e a C f d) F2 _ μ1 (w1.trans w2) R2 o2 (q a)
theorem we_mkEK (m : ExcA P w K mg base k x f C G) (hr : Room (k + 1) X.A) (hg : Gl X x) (h : WE X e δ μ fun z μ1 => ∃ d, z = .d d ∧ G d ∧ ∀ a, Q (.e a C f d) μ1) (hX : (X.prog, X.w, X.K, X.mg, X.base) = (P, w, K, mg, base) := by rfl)
    (hdb : (x == ("__debug__" : Str)) = false := by decide) (hall : (backToKw pos (keywordEach [⟨some f, e, kp⟩] X.env)).all (·.1.isSome) = true := by rfl) (hks : (backToKw pos (keywordEach [⟨some f, e, kp⟩] X.env)).filterMap (·.1) = [f] := by rfl)
    (hpl : ((backTo pos (starEach [] X.env)).any (·.1) || (backToKw pos (keywordEach [⟨some f, e, kp⟩] X.env)).any (·.1.isNone)) = false := by rfl) :
    WE X (.Call (.Name x p) [] [⟨some f, e, kp⟩] pos) δ μ Q := fun F H σ R QV kk => by
  obtain ⟨B, newId, initId, bmB, fI, fd, ps, Fx, Z, T, iC, tI, F1, _, hb, hm, hG⟩ := m
  cases hX
  refine toE (t := tMkE C f Fx (cK X [⟨some f, e, kp⟩])) ⟨fun pins s σ H Q I hh => ?_⟩ ?_
  · refine wpAny_Call_Name_kw (ld_glob I hg hm ?_ hdb)
    refine PySem.W.callWith_KW0 (h₀ := X.base) I.ok.mod.kin T.kC hall (thn ((pcK X _).run pos pins s σ H _ I hh) fun us s1 hq => ?_) hpl
    obtain ⟨vs, H1, I1, r1, y, rfl, q1, q2⟩ := hq
    cases r1 with
    | cons r rr =>
      cases rr
      rw [hks]
      exact ⟨I1.kIn, mk_run Z T iC tI F1 hr (.inr ⟨rfl, rfl⟩) (fun s a X => hb s a _ X) I1 r q1 q2⟩
  · refine toK (pk_cons (pcE X e) pk_nil) (h F H σ R _ fun v z F1 H1 μ1 w1 R1 o1 q => ?_)
    obtain ⟨d, rfl, hd, q⟩ := q
    refine ⟨v, rfl, fun a na => hG _ _ v d (Same.trans R1.m.ex (same_new na)) o1 hd, fun a dd ha hdd ne => ?_⟩
    obtain ⟨F2, w2, R2, o2⟩ := mkE_end R1 o1 ha hdd ne
    exact kk _ (.e a C f d) F2 _ μ1 (w1.trans w2) R2 o2 (q a)
end
inductive Qk : PyData → Vd → Prop
  | d {d : PyData} (h : isP d = false) : Qk d (.d d)
  | p (p : Addr) : Qk (ptr p) (.a p)
  | e (p C : Addr) (f : Str) (x : PyData) : Qk (exI p C f x) (.e p C f x)
theorem dq_e {K : PySem.W.Frag} {F : Hp} {v : V} {p C : Addr} {f : Str} {x : PyData} (h : Dq K F v (exI p C f x)) : VOk K F (.e p C f x) v := by
  generalize e : exI p C f x = d at h
  cases h with
  | d h =>
    subst e
    cases h
  | p c =>
    unfold exI ptr at e
    injection e with e
    injection e with e _
    injection e with e _
    cases e
  | z h =>
    unfold exI zd at e
    injection e with e
    injection e with e _
    injection e with e _
    cases e
  | q h n =>
    unfold exI ptr2 at e
    injection e with e
    injection e with e _
    injection e with e _
    cases e
  | e h g o =>
    unfold exI at e
    injection e with e
    injection e with e e2
    injection e with e3 e4
    injection e3 with e3
    injection e2 with e2 _
    injection e2 with e5 e6
    injection e5 with e5
    injection e6 with e6
    have e5 := Int.ofNat.inj e5
    have e6 := Int.ofNat.inj e6
    subst e3 e4 e5 e6
    exact ⟨rfl, _, _, h, g, o⟩
theorem Qk.ok {K : PySem.W.Frag} {F : Hp} {d : PyData} {x : Vd} {v : V} (k : Qk d x) (h : Dq K F v d) : VOk K F x v := by
  cases k with
  | d e => exact h.to e
  | p p => exact dq_p h
  | e p C f x => exact dq_e h
abbrev Qks : List PyData → List Vd → Prop := Paired Qk
theorem Qks.ok {K : PySem.W.Frag} {F : Hp} : ∀ {ds : List PyData} {xs : List Vd} {vs : List V}, Qks ds xs → DqAll K F vs ds → VAll K F xs vs
  | _, _, _, .nil, h => by
    cases h
    exact .nil
  | _, _, _, .cons k ks, h => by
    cases h with
    | cons h1 h2 => exact .cons (k.ok h1) (Qks.ok ks h2)
section
variable {K : PySem.W.Frag} {μ : Cells} {Q : Vd → Cells → Prop} {X : Cx} {δ : Dl} {D : Dn}
theorem wb_frzM {p : Addr} {ds : List PyData} {sts : List Stmt} (i j : Nat) (hi : μ[i]? = some (p, (ds : Cont))) (hj : δ[j]? = some (some (.a p))) (h : WB X sts (δ.set j (some (.m p false ds))) (μ.eraseIdx i) D) : WB X sts δ μ D := fun F H σ R De b => by
  have pm : μ.Perm ((p, (ds : Cont)) :: μ.eraseIdx i) := by
    obtain ⟨hl, e⟩ := List.getElem?_eq_some_iff.mp hi
    rw [← e]
    exact perm_erase hl
  have R1 := R.perm pm
  obtain ⟨fp, vs, hp, hd⟩ := R1.m.cel p ds List.mem_cons_self
  obtain ⟨out, nd⟩ := List.nodup_cons.mp R1.m.nd
  have sf : Same F (upd F p (.lst vs)) := same_new fp
  have m2 : RpM X.K (upd F p (.lst vs)) H (μ.eraseIdx i) := ⟨fun b x q => by
      by_cases hb : b = p
      · subst hb
        rw [upd_same] at q
        rw [hp]
        exact q
      · rw [upd_ne hb] at q
        exact R1.m.ex b x q, nd, fun b es m => by
      obtain ⟨f', g⟩ := R1.m.cel b es (List.mem_cons_of_mem _ m)
      have nb : b ≠ p := fun z => out (z ▸ List.mem_map.mpr ⟨_, m, rfl⟩)
      exact ⟨by rw [upd_ne nb]; exact f', g.to sf fun _ e => e⟩⟩
  have w : Fw (ks ((p, (ds : Cont)) :: μ.eraseIdx i)) (ks (μ.eraseIdx i)) F H (upd F p (.lst vs)) H := ⟨sf, fun _ _ e _ => e, fun b f hb nb => by
      rw [upd_ne]
      · exact f
      · intro z
        subst z
        exact nb List.mem_cons_self, fun b hb => .inl (List.mem_cons_of_mem _ hb)⟩
  obtain ⟨v, e1, e2⟩ := R.env j _ hj
  have ev : v = .ref p := e2
  subst ev
  have R2 : Rp X.K (upd F p (.lst vs)) H σ (δ.set j (some (.m p false ds))) (μ.eraseIdx i) := by
    have := (R1.to sf m2).put (x := .m p false ds) (v := .ref p) j ⟨rfl, vs, upd_same, dqs_up sf _ _ hd⟩
    have es : σ.set j (some (.ref p)) = σ := by
      refine List.ext_getElem? fun k => ?_
      by_cases hk : j = k
      · subst hk
        rw [e1, List.getElem?_set_self (List.getElem?_eq_some_iff.mp e1).1]
      · rw [List.getElem?_set_ne hk]
    rw [es] at this
    exact this
  exact h _ H σ R2 De (b.next (w.sub (fun x m => (pm.map Prod.fst).mem_iff.mpr m) fun x m => .inl m))
theorem ow_ixM {p : Addr} {b : Bool} {i : Int} {d : PyData} {x : Vd} {ds : List PyData} (ha : atI ds i = some d) (k : Qk d x) (h : Q x μ) : OpW K (rIx K) (.m p b ds) (.d (.int i)) μ Q := fun F H v u m o1 o2 QV c => by
  have get : ∀ {vs : List V}, DqAll K F vs ds → ∃ w, atI vs i = some w ∧ Dq K F w d := fun {vs} hd => by
    unfold atI at ha ⊢
    rw [dqs_len hd]
    cases q : ixN ds.length i with
    | none =>
      rw [q] at ha
      cases ha
    | some j =>
      rw [q] at ha
      exact dqs_get hd ha
  cases b with
  | true =>
    obtain ⟨rfl, vs, o, e, n, hd⟩ := o1
    obtain ⟨w, hw, ow⟩ := get hd
    exact .inr (.inl ⟨p, vs, i, w, rfl, dp_int o2, .inl (.inr ⟨_, m.ex _ _ e⟩), hw, c x w F H μ Fw.refl m (k.ok ow) h⟩)
  | false =>
    obtain ⟨rfl, vs, e, hd⟩ := o1
    obtain ⟨w, hw, ow⟩ := get hd
    exact .inl ⟨p, vs, i, w, rfl, dp_int o2, .of (m.ex _ _ e), hw, c x w F H μ Fw.refl m (k.ok ow) h⟩
variable {is : List Nat} {Gq : Dl → Cells → Prop} {pos p2 : Pos} {e a b tg : Expr}
theorem wg_tupQ {ts : List Expr} {k : Nat} {ds : List PyData} {xs : List Vd} (hc : X.calm = true) (hk : Qks ds xs) (h : WGso X is ts xs δ μ Gq) (hn : (assignEach ts X.env).length = ds.length := by rfl)
    (hst : (assignEach ts X.env).findIdx? (·.1) = none := by rfl) : WGo X is (.Tuple ts k pos) (.w (.list ds)) δ μ Gq := fun F H σ R v o QV c => by
  obtain ⟨a, vs, rfl, hs, hd⟩ := o
  exact toG (pg_tup hc (pcGs X ts) hn hst) ⟨a, vs, rfl, same_t R.m.ex hs, dqs_len hd, h F H σ R vs (hk.ok hd) QV c⟩
def zipM (ds es : List PyData) : List PyData := List.zipWith (fun a b => .list [a, b]) ds es
theorem zipM_len (ds es : List PyData) : (zipM ds es).length = min ds.length es.length := List.length_zipWith
theorem zipM_get {ds es : List PyData} {i : Nat} {d : PyData} (h : (zipM ds es)[i]? = some d) : ∃ a b, ds[i]? = some a ∧ es[i]? = some b ∧ d = .list [a, b] := by
  unfold zipM at h
  rw [List.getElem?_zipWith] at h
  cases e1 : ds[i]? with
  | none => simp [e1] at h
  | some x =>
    cases e2 : es[i]? with
    | none => simp [e1, e2] at h
    | some y =>
      simp [e1, e2] at h
      exact ⟨x, y, rfl, rfl, h.symm⟩
theorem pair_newM {F H : Hp} {T : Addr} {x y : V} {d e : PyData} (f : Same F H) (n : H T = none) (hx : Dq K F x d) (hy : Dq K F y e) :
    ∃ F', Same F F' ∧ Same F' (upd H T (.tup [x, y])) ∧ Same H (upd H T (.tup [x, y])) ∧ (∀ b, F b = none → H b ≠ none → F' b = none) ∧ VOk K F' (.w (.list [d, e])) (.ref T) := by
  have fT : F T = none := f.free n
  refine ⟨upd F T (.tup [x, y]), same_new fT, fun b o z => ?_, same_new n, fun b z h => ?_, T, [x, y], rfl, .inl (.inl upd_same), .cons (hx.up (same_new fT)) (.cons (hy.up (same_new fT)) .nil)⟩
  · by_cases hb : b = T
    · subst hb
      rw [upd_same] at z ⊢
      exact z
    · rw [upd_ne hb] at z ⊢
      exact f b o z
  · rw [upd_ne]
    · exact z
    · intro q
      exact h (q ▸ n)
theorem wk_zipM {F0 : Hp} {a b : Addr} {vs us : List V} {ds es : List PyData} (h : SqL K F0 a vs) (hd : DqAll K F0 vs ds) (h2 : SqL K F0 b us) (he : DqAll K F0 us es) : Wk K (Itz K a b) F0 Vd.w (zipM ds es) where
  go := fun i F H hi f1 f2 => by
    rw [zipM_len] at hi
    exact ⟨vs, us, vs[i]'(by rw [dqs_len hd]; omega), us[i]'(by rw [dqs_len he]; omega), f2.seq (f1.seq h), f2.seq (f1.seq h2), List.getElem?_eq_getElem _, List.getElem?_eq_getElem _⟩
  yld := fun i F H x H' d hi f1 f2 y => by
    obtain ⟨T, x0, y0, rfl, nT, rfl, y, z⟩ := y
    obtain ⟨d0, d1, e0, e1, rfl⟩ := zipM_get hi
    obtain ⟨v, q1, q2⟩ := dqs_get hd e0
    obtain ⟨u, q3, q4⟩ := dqs_get he e1
    have t1 : v = x0 := Option.some.inj (q1.symm.trans (y vs (f2.seq (f1.seq h))))
    have t2 : u = y0 := Option.some.inj (q3.symm.trans (z us (f2.seq (f1.seq h2))))
    subst t1 t2
    exact pair_newM f2 nT (q2.up f1) (q4.up f1)
  stop := fun F H f1 f2 => ⟨vs, us, f2.seq (f1.seq h), f2.seq (f1.seq h2), by rw [zipM_len, dqs_len hd, dqs_len he]; omega⟩
theorem wi_zipM {elts : List Expr} {kk : Nat} {tpos p : Pos} {QI : List PyData → Cells → Prop} (hg : Gl X "zip") (hm : X.mg "zip" = none)
    (h : WA X [a, b] δ μ fun xs μ1 => ∃ p ds es, xs = [.m p false ds, .d (.list es)] ∧ QI (zipM ds es) μ1)
    (hs : starEach [a, b] X.env = (false, eval a X.env) :: starEach [b] X.env := by rfl) (hpl : (backTo pos (starEach [b] X.env)).any (·.1) = false := by rfl) :
    WI X (.Tuple elts kk tpos) (.Call (.Name "zip" p) [a, b] [] pos) δ μ QI := fun F H σ R RV c =>
  toI (pi_zipA hg hm (pcA X [a, b]) hs hpl) (h F H σ R _ fun vs xs F1 H1 μ1 w1 R1 o1 q => by
    obtain ⟨p, ds, es, rfl, q⟩ := q
    cases o1 with
    | cons r rr =>
      cases rr with
      | cons r2 rr =>
        cases rr
        obtain ⟨rfl, vs, hs, hd⟩ := r
        obtain ⟨b, us, rfl, hs2, hd2⟩ := dp_lst r2
        exact ⟨p, b, vs, us, rfl, .inl ⟨.of (R1.m.ex _ _ hs), R1.m.ex.seq hs2, c _ _ F1 H1 μ1 w1 R1 (wk_zipM (.of hs) hd hs2 (.of hd2)) q⟩⟩)
theorem ws_forU {es : List Expr} {body : List Stmt} {kk : Nat} {tp : Pos} (is : List Nat) (hp : PassesOwn (model X.prog X.w) X.A X.env X.xe) (hc : X.calm = true)
    (h : WA X es δ μ fun xs μ1 => xs.length ≤ 1000 ∧ ∃ I : Nat → Dl → Cells → Prop, I 0 δ μ1 ∧ (∀ i x δ' μ', xs[i]? = some x → I i δ' μ' → WGo X is tg x δ' μ' fun δ2 μ2 => WB X body δ2 μ2 { nx := I (i + 1), rt := D.rt, bk := D.nx, ct := I (i + 1) }) ∧ ∀ δ' μ', I xs.length δ' μ' → D.nx δ' μ')
    (hs : ∀ x, foldedSetIterable (.Tuple es kk tp) X.env x = pure x := by intro _; rfl) : WS X (.For tg (.Tuple es kk tp) body [] pos) δ μ D := fun F H σ R De b =>
  toS (ps_for hp hc (pcI X tg (.Tuple es kk tp)) (pcG X tg) (pcB X body) hs) (toI (pi_seqS (pe_tupX (pcA X es))) (h F H σ R _ fun vs xs F1 H1 μ1 w1 R1 o1 q => by
    obtain ⟨ql, I, h0, hturn, hend⟩ := q
    have el : vs.length = xs.length := (Paired.length o1).symm
    refine ⟨by rw [el]; exact Nat.le_trans ql (by decide), fun p o ho np => ?_⟩
    obtain ⟨m, w⟩ := R1.m.new (o := .frz o (.tup vs)) np
    have R2 := R1.to w.f m
    have st : SqT X.K (upd F1 p (.frz o (.tup vs))) p vs := .inl (.inr ⟨o, upd_same⟩)
    refine ⟨p, vs, rfl, .inr ⟨same_t R2.m.ex st, ?_⟩⟩
    refine ⟨fun i m σ' H' => m = xs.length - i ∧ i ≤ xs.length ∧ ∃ F' δ' μ', Fw (ks μ1) (ks μ') (upd F1 p (.frz o (.tup vs))) (upd H1 p (.frz o (.tup vs))) F' H' ∧ Rp X.K F' H' σ' δ' μ' ∧ I i δ' μ', ⟨_, rfl, Nat.zero_le _, _, δ, μ1, Fw.refl, R2, h0⟩, ?_⟩
    rintro i m σ' H' ⟨rfl, hi, F', δ', μ', w', R', hI⟩
    have s1 : SqT X.K H' p vs := same_t R'.m.ex (same_t w'.f st)
    by_cases hlt : i < xs.length
    · have hlv : i < vs.length := by rw [el]; exact hlt
      refine .inr ⟨⟨vs, vs[i], s1, List.getElem?_eq_getElem hlv⟩, _, fun _ _ z => z, fun x H2 y => ?_⟩
      obtain ⟨rfl, y⟩ := y
      have e2 := y _ s1
      rw [List.getElem?_eq_getElem hlv] at e2
      have e2 : x = vs[i] := (Option.some.inj e2).symm
      subst e2
      have ov : VOk X.K F' xs[i] vs[i] := by
        have : ∀ {xs : List Vd} {vs : List V} {i : Nat} {x : Vd} {v : V}, VAll X.K F1 xs vs → xs[i]? = some x → vs[i]? = some v → VOk X.K F1 x v := by
          intro xs vs i x v hh
          induction hh generalizing i with
          | nil => intro z; simp at z
          | cons h1 _ ih =>
            intro e1 e2
            cases i with
            | zero =>
              simp at e1 e2
              subst e1 e2
              exact h1
            | succ i => exact ih (by simpa using e1) (by simpa using e2)
        exact ((this o1 (List.getElem?_eq_getElem hlt) (List.getElem?_eq_getElem hlv)).up w.f).up w'.f
      refine hturn i _ δ' μ' (List.getElem?_eq_getElem hlt) hI F' H2 σ' R' _ ov _ fun F3 H3 σ3 δ3 μ3 w3 R3 _ q3 => ?_
      have wa := w'.trans w3
      have back : ∀ F4 H4 σ4 δ4 μ4, Fw (ks μ3) (ks μ4) F3 H3 F4 H4 → Rp X.K F4 H4 σ4 δ4 μ4 → I (i + 1) δ4 μ4 → ∃ m', m' < xs.length - i ∧ (m' = xs.length - (i + 1) ∧ i + 1 ≤ xs.length ∧ ∃ F' δ' μ', Fw (ks μ1) (ks μ') (upd F1 p (.frz o (.tup vs))) (upd H1 p (.frz o (.tup vs))) F' H4 ∧ Rp X.K F' H4 σ4 δ' μ' ∧ I (i + 1) δ' μ') :=
        fun F4 H4 σ4 δ4 μ4 w4 R4 q4 => ⟨_, by omega, rfl, hlt, F4, δ4, μ4, wa.trans w4, R4, q4⟩
      have bb := ((b.next w1).next w).next wa
      exact q3 F3 H3 σ3 R3 _ ⟨back, bb.rt, bb.nx, back⟩
    · have e : i = xs.length := by omega
      subst e
      exact .inl ⟨⟨vs, s1, by rw [el]; exact Nat.le_refl _⟩, b.nx F' H' σ' δ' μ' ((w1.trans w).trans w') R' (hend δ' μ' hI)⟩))
end
end Ec
set_option Elab.async false
set_option linter.all false
set_option maxRecDepth 100000
set_option maxHeartbeats 4000000
namespace Ec
open PySem PySem.Spec PyProof.Rows L2
abbrev TL := List (List Int × Int)
def ivD (L : TL) : List (List Int × PyData) := L.map fun q => (q.1, .int q.2)
def getN : TL → List Int → Option Int
  | [], _ => none
  | p :: r, k => if p.1 = k then some p.2 else getN r k
abbrev kysN (L : TL) : List (List Int) := L.map Prod.fst
def Sub (n : Nat) (t : List Int) : Prop := t.Pairwise (· < ·) ∧ ∀ x ∈ t, 0 ≤ x ∧ x < n
end Ec
set_option Elab.async false
set_option linter.all false
set_option maxRecDepth 100000
set_option maxHeartbeats 4000000
namespace Ec
open PySem PySem.Spec PyProof.Rows L2
def Wy (c : Co) : Nat → List Int → Nat
  | 0, _ => 1
  | k + 1, t => ((nexts c t).map fun p => Wy c k (t ++ [p])).sum
def ext (c : Co) : Nat → List Int → List (List Int)
  | 0, r => [r]
  | k + 1, r => (nexts c r).flatMap fun p => ext c k (r ++ [p])
theorem app_mem {s t : List Int} {p : Int} (h : ∀ x, x ∈ s ↔ x ∈ t) (x : Int) : x ∈ s ++ [p] ↔ x ∈ t ++ [p] := by
  rw [List.mem_append, List.mem_append, h]
theorem Wy_congr {c : Co} : ∀ (k : Nat) {s t : List Int}, (∀ x, x ∈ s ↔ x ∈ t) → Wy c k s = Wy c k t
  | 0, _, _, _ => rfl
  | k + 1, s, t, h => by
    unfold Wy
    rw [nexts_congr h]
    congr 1
    exact List.map_congr_left fun p _ => Wy_congr k (app_mem h)
theorem stepP_eq (c : Co) (s : List Int) : stepP c s = (nexts c s).map fun p => s ++ [p] := rfl
theorem ext_snoc (c : Co) : ∀ (k : Nat) (r : List Int), ext c (k + 1) r = (ext c k r).flatMap (stepP c)
  | 0, r => by
    show (nexts c r).flatMap (fun p => [r ++ [p]]) = [r].flatMap (stepP c)
    rw [List.flatMap_cons, List.flatMap_nil, List.append_nil, stepP_eq]
    generalize nexts c r = N
    induction N with
    | nil => rfl
    | cons p N ih => rw [List.flatMap_cons, ih]; rfl
  | k + 1, r => by
    show (nexts c r).flatMap (fun p => ext c (k + 1) (r ++ [p])) = ((nexts c r).flatMap fun p => ext c k (r ++ [p])).flatMap (stepP c)
    rw [List.flatMap_assoc]
    congr 1
    funext p
    exact ext_snoc c k _
theorem allP_ext (c : Co) : ∀ k, allP c k = ext c k []
  | 0 => rfl
  | k + 1 => by
    rw [ext_snoc, ← allP_ext c k]
    rfl
theorem srt_in (r : List Int) (x : Int) : x ∈ srt r ↔ x ∈ r := mem_srt
theorem srt_app (r : List Int) (p : Int) : srt (srt r ++ [p]) = srt (r ++ [p]) := srt_one (((srt_perm _).trans ((srt_perm r).append_right [p])).trans (srt_perm _).symm) (srt_up _) (srt_up _)
theorem POrd.next {c : Co} {r : List Int} (h : POrd c r) {p : Int} (hp : p ∈ nexts c r) : POrd c (r ++ [p]) := by
  obtain ⟨⟨h0, h1⟩, h2, h3⟩ := mem_nexts.mp hp
  exact h.add h0 h1 h2 h3
theorem POrd.sub2 {c : Co} {r : List Int} (h : POrd c r) : Sub c.length (srt r) := ⟨srt_lt h.nd, fun x m => h.rg x (mem_srt.mp m)⟩
structure Lay (c : Co) (i : Nat) (L : TL) : Prop where
  nd : (kysN L).Nodup
  val : ∀ q ∈ L, q.2 = (((allP c i).countP fun r => decide (srt r = q.1) : Nat) : Int)
  key : ∀ t, t ∈ kysN L ↔ ∃ r ∈ allP c i, srt r = t
theorem Lay.zero (c : Co) : Lay c 0 [([], 1)] where
  nd := by simp
  val := fun q hq => by
    cases List.mem_singleton.mp hq
    show (1 : Int) = (([[]] : List (List Int)).countP _ : Nat)
    rw [List.countP_cons_of_pos (by rw [srt_nil]; rfl)]
    rfl
  key := fun t => by
    show t ∈ [[]] ↔ ∃ r ∈ [[]], srt r = t
    rw [List.mem_singleton]
    constructor
    · rintro rfl
      exact ⟨[], List.mem_singleton_self _, srt_nil⟩
    · rintro ⟨r, hr, rfl⟩
      rw [List.mem_singleton.mp hr, srt_nil]
theorem Lay.sub {c : Co} {i : Nat} {L : TL} (h : Lay c i L) : ∀ k ∈ kysN L, Sub c.length k := fun k hk => by
  obtain ⟨r, hr, rfl⟩ := (h.key k).mp hk
  exact (mem_allP.mp hr).1.sub2
end Ec
set_option Elab.async false
set_option linter.all false
set_option maxRecDepth 100000
set_option maxHeartbeats 4000000
namespace Ec
open PySem PySem.Spec PyProof.Rows L2
def Lys (c : Co) (Zs : List (Addr × List (List Int × PyData))) (n : Nat) : Prop := Zs.length = n ∧ ∀ (i : Nat) z, Zs[i]? = some z → ∃ L, z.2 = ivD L ∧ Lay c i L
theorem Lys.snoc {c : Co} {Zs : List (Addr × List (List Int × PyData))} {n : Nat} (h : Lys c Zs n) {p : Addr} {L : TL} (hl : Lay c n L) : Lys c (Zs ++ [(p, ivD L)]) (n + 1) := by
  refine ⟨by rw [List.length_append, h.1]; rfl, fun i z hz => ?_⟩
  by_cases e : i < Zs.length
  · rw [List.getElem?_append_left e] at hz
    exact h.2 i z hz
  · rw [List.getElem?_append_right (by omega)] at hz
    have e2 : i - Zs.length = 0 := by
      have := (List.getElem?_eq_some_iff.mp hz).1
      rw [List.length_singleton] at this
      omega
    rw [e2] at hz
    cases hz
    have : i = n := by rw [← h.1]; omega
    subst this
    exact ⟨L, rfl, hl⟩
structure En (c : Co) (i : Nat) (D : TL) : Prop where
  nd : (kysN D).Nodup
  sub : ∀ k ∈ kysN D, Sub c.length k
  val : ∀ r, POrd c r → i ≤ r.length → getN D (srt r) = some ((Wy c (c.length - r.length) r : Nat) : Int)
theorem rng_sub (n : Nat) : Sub n (rng n) := ⟨rng_lt n, fun x m => mem_rng.mp m⟩
theorem En.start (c : Co) : En c c.length [(rng c.length, 1)] where
  nd := by simp
  sub := fun k hk => by
    cases List.mem_singleton.mp hk
    exact rng_sub _
  val := fun r hr hl => by
    have h1 := hr.len
    have e : r.length = c.length := by omega
    rw [(IsOrd.row ⟨hr, e⟩).srt, e, Nat.sub_self]
    show (if rng c.length = rng c.length then some (1 : Int) else none) = _
    rw [if_pos rfl]
    rfl
structure EnP (c : Co) (m : Nat) (L : TL) (j : Nat) (D : TL) : Prop where
  nd : (kysN D).Nodup
  sub : ∀ k ∈ kysN D, Sub c.length k
  val : ∀ r, POrd c r → (m + 1 ≤ r.length ∨ srt r ∈ kysN (L.take j)) → getN D (srt r) = some ((Wy c (c.length - r.length) r : Nat) : Int)
theorem Lay.row {c : Co} {m j : Nat} {L : TL} (h : Lay c m L) {q : List Int × Int} (hq : L[j]? = some q) : ∃ r, POrd c r ∧ r.length = m ∧ srt r = q.1 ∧ ∀ x, x ∈ q.1 ↔ x ∈ r := by
  obtain ⟨r, hr, e⟩ := (h.key q.1).mp (List.mem_map.mpr ⟨q, List.mem_of_getElem? hq, rfl⟩)
  obtain ⟨h1, h2⟩ := mem_allP.mp hr
  exact ⟨r, h1, h2, e, fun x => by rw [← e, mem_srt]⟩
theorem EnP.at {c : Co} {m j : Nat} {L D : TL} (h : EnP c m L j D) (hL : Lay c m L) {q : List Int × Int} (hq : L[j]? = some q) {p : Int} (hp : p ∈ nexts c q.1) : getN D (srt (q.1 ++ [p])) = some ((Wy c (c.length - (m + 1)) (q.1 ++ [p]) : Nat) : Int) := by
  obtain ⟨r, h1, h2, e, hm⟩ := hL.row hq
  have hp' : p ∈ nexts c r := by rw [← nexts_congr hm]; exact hp
  have h3 := h1.next hp'
  have h4 : (r ++ [p]).length = m + 1 := by rw [List.length_append, h2]; rfl
  have v := h.val _ h3 (.inl (by omega))
  rw [h4] at v
  rw [← e, srt_app, v, Wy_congr _ (app_mem (srt_in r))]
end Ec
set_option Elab.async false
set_option linter.all false
set_option maxRecDepth 100000
set_option maxHeartbeats 4000000
namespace Ec
open PySem PySem.Spec PyProof.Rows L2
theorem we_gint {X : Cx} {δ : Dl} {μ : Cells} {Q : Vd → Cells → Prop} {x : Str} {n : Int} {pos : Pos} {mg : Str → Option Value} (hg : Gl X x) (hm : ∃ t, mg x = some (.int n t)) (h : Q (.d (.int n)) μ) (hX : X.mg = mg := by rfl) (hd : (x == ("__debug__" : Str)) = false := by decide) : WE X (.Name x pos) δ μ Q := fun F H σ R QV k => by
  obtain ⟨t, e⟩ := hm
  exact toE (pe_glob (v := V.int n) hg (by rw [hX]; exact e) ⟨t, rfl⟩ hd) (k _ (.d (.int n)) F H μ Fw.refl R (.int n) h)
theorem En.next {c : Co} {D : TL} (h : En c 0 D) {r : List Int} (hr : POrd c r) {p : Int} (hp : p ∈ nexts c r) : getN D (srt (r ++ [p])) = some ((Wy c (c.length - (r.length + 1)) (r ++ [p]) : Nat) : Int) := by
  have := h.val _ (hr.next hp) (Nat.zero_le _)
  rw [List.length_append, List.length_singleton] at this
  exact this
theorem En.all {c : Co} {D : TL} (h : En c 0 D) : getN D [] = some ((Wy c c.length [] : Nat) : Int) := by
  have := h.val [] (POrd.nil c) (Nat.zero_le _)
  rw [srt_nil] at this
  exact this
def Beg (c : Co) (s : List Int) (f : Nat) : Prop := ∀ k y, (ext c (c.length - s.length) s)[k]? = some y → (allP c c.length)[f + k]? = some y
theorem Beg.zero (c : Co) : Beg c [] 0 := fun k y h => by
  rw [Nat.zero_add, allP_ext]
  exact h
theorem Beg.end {c : Co} {r : List Int} {f : Nat} (h : Beg c r f) (hl : r.length = c.length) : (allP c c.length)[f]? = some r := h 0 r (by rw [hl, Nat.sub_self]; rfl)
end Ec
set_option Elab.async false
set_option linter.all false
set_option maxRecDepth 100000
set_option maxHeartbeats 4000000
namespace Ec
open PySem PySem.Spec PyProof.Rows L2
def rCntB (K : PySem.W.Frag) : V → List V → Hp → VK → Prop := fun x xs H Q => ∃ (p : Addr) (bs : List Bool) (k : Bool), x = .ref p ∧ xs = [.bl k] ∧ SqL K H p (bs.map V.bl) ∧ Q (.int (bs.count k : Nat)) H
def isBl (k : Bool) : Value → Bool
  | .bool b => b == k
  | _ => false
theorem vals_bl {k : Bool} : ∀ {bs : List Bool} {its : List Value}, Vals (bs.map V.bl) its → (∀ y ∈ its, ∃ b, y = .bool b) ∧ its.countP (isBl k) = bs.count k
  | [], its, h => by
    rw [List.map_nil] at h
    cases h
    exact ⟨(fun y z => by cases z), rfl⟩
  | b :: bs, _, h => by
    rw [List.map_cons] at h
    cases h with
    | @cons _ v _ vs r t =>
      obtain ⟨g1, g2⟩ := vals_bl (k := k) t
      have e : v = .bool b := r
      subst e
      refine ⟨fun y hy => (List.mem_cons.mp hy).elim (fun e => ⟨b, e⟩) (g1 y), ?_⟩
      rw [List.countP_cons, g2, List.count_cons]
      rfl
theorem mt_countB {X : Cx} : MtR X "list.count" (rCntB X.K) := by
  intro pins s σ H x xs v us Q I rx rxs h
  obtain ⟨p, bs, k, rfl, rfl, hs, q⟩ := h
  cases rx
  obtain ⟨u, rfl, ru⟩ := rxs.one
  have eu : u = .bool k := ru
  subst eu
  obtain ⟨its, rv, ⟨⟨cls, dd, data, sl⟩, n, ho, hc, hdn, hd⟩, hlen⟩ := I.list hs
  simp only at hc hd
  subst hc hd
  obtain ⟨g1, g2⟩ := vals_bl (k := k) rv
  refine call_meets PySem.F.slot_list_count ⟨_, ho, rfl⟩ PySem.F.entry_list_count (PySem.F.args_list_count_2 _ _)
    (SeqAt.list_countAt p its.toArray n dd sl (.bool k) (isBl k)) ⟨ho, fun y hy => ?_, ?_⟩
  · obtain ⟨b, rfl⟩ := g1 y (by simpa using hy)
    exact SeqAt.EqAt.bool_bool b k
  · refine ⟨.int (bs.count k : Nat), H, I.tok _, ⟨s.toks, ?_⟩, q⟩
    show Value.int ((its.toArray.toList.countP (isBl k) : Nat) : Int) s.toks = Value.int ((bs.count k : Nat) : Int) s.toks
    rw [← g2]
theorem we_countB {X : Cx} {δ : Dl} {μ : Cells} {Q : Vd → Cells → Prop} {o e : Expr} {apos cpos : Pos} (h : WE X o δ μ fun x μ1 => ∃ bs : List Bool, x = .d (.list (blsD bs)) ∧ WE X e δ μ1 fun y μ2 => ∃ k : Bool, y = .d (.bool k) ∧ Q (.d (.int ((bs.count k : Nat) : Int))) μ2)
    (hbase : attributeBase o "count" X.env (eval o X.env) = eval o X.env := by rfl)
    (hfew : ((backTo cpos (starEach [e] X.env)).all (fun x => !x.1) && (backToKw cpos (keywordEach [] X.env)).all (fun x => x.1.isSome)
      && decide ([e].length + ([] : List Keyword).length + (if ([] : List Keyword).isEmpty then 0 else 1) < 30)) = true := by rfl)
    (hline : (apos.endLine == cpos.line) = true := by rfl) (hs : starEach [e] X.env = (false, eval e X.env) :: starEach [] X.env := by rfl) (hplain : (backTo cpos (starEach [] X.env)).any (·.1) = false := by rfl) :
    WE X (.Call (.Attribute o "count" apos) [e] [] cpos) δ μ Q :=
  we_bmL PySem.F.plainAttrs_list PySem.F.slot_list_count PySem.F.type_list_count mt_countB (h.mono fun x μ1 q => by
    obtain ⟨bs, rfl, q⟩ := q
    refine ⟨.d _, wa_one (q.mono fun y μ2 q => ?_) hs⟩
    obtain ⟨k, rfl, q⟩ := q
    intro F H v vs m o1 o2 QV c
    cases o2 with
    | cons o2 o3 =>
      cases o3
      obtain ⟨a, us, rfl, hsq, hd⟩ := dp_lst o1
      rw [dps_bls hd] at hsq
      exact ⟨a, bs, k, rfl, by rw [dp_bl o2], m.ex.seq hsq, c (.d (.int _)) _ F H μ2 Fw.refl m (.int _) q⟩) hbase hfew hline hs hplain
end Ec
set_option Elab.async false
set_option linter.all false
set_option maxRecDepth 100000
set_option maxHeartbeats 4000000
namespace Ec
open PySem PySem.Spec PyProof.Rows L2
abbrev T_take9 : TrD := fun xs μ R => ∃ (b : Addr) (ds : List PyData) (n : Int) (m : Nat), xs = [.a b, .d (.int n)] ∧ μ = ([(b, ds)] : Cells) ∧ BoxOk m ds ∧ 10000000 < n ∧ n ≤ 1000000000 ∧ m + 2 ≤ 1000000000000 ∧ ∀ (r : Int) ds', 0 ≤ r → r < n → BoxOk (m + 2) ds' → R (.d (.int r)) [(b, ds')]
def Fl15 (K : PySem.W.Frag) (cs : List Addr) (C : Addr) (bs : List Bool) : Prop := bs.length = 15 ∧ ∀ (i : Nat) (D : Addr) (b : Bool), cs[i]? = some D → bs[i]? = some b → PySem.W.kitOne K (.ref C) (.ref D) = some b
theorem len15 {bs : List Bool} (h : bs.length = 15) : ∃ b0 b1 b2 b3 b4 b5 b6 b7 b8 b9 b10 b11 b12 b13 b14, bs = [b0, b1, b2, b3, b4, b5, b6, b7, b8, b9, b10, b11, b12, b13, b14] := by
  match bs, h with
  | [b0, b1, b2, b3, b4, b5, b6, b7, b8, b9, b10, b11, b12, b13, b14], _ => exact ⟨b0, b1, b2, b3, b4, b5, b6, b7, b8, b9, b10, b11, b12, b13, b14, rfl⟩
abbrev T_flags15 (K : PySem.W.Frag) (cs : List Addr) : TrD := fun xs μ R => ∃ (a C : Addr) (f : Str) (x : PyData) (N : String) (bs : List Bool), xs = [.e a C f x] ∧ XCls K C N ∧ Fl15 K cs C bs ∧ ∀ q, R (.a q) ((q, bs.map PyData.bool) :: μ)
def At15 (N : String) (k : Int) : Prop := (N = "ValueError" ∧ k = 0) ∨ (N = "LookupError" ∧ k = 1) ∨ (N = "RuntimeError" ∧ k = 2) ∨ (N = "OverflowError" ∧ k = 3)
def Kit15 (K : PySem.W.Frag) (cs : List Addr) (C : Addr) (k : Int) : Prop := ∃ (N : String) (bs : List Bool), XCls K C N ∧ Fl15 K cs C bs ∧ bs.count true = 1 ∧ At15 N k
abbrev T_one15 (K : PySem.W.Frag) (cs : List Addr) : TrD := fun xs μ R => ∃ (a C : Addr) (f : Str) (x : PyData) (k : Int), xs = [.e a C f x, .d (.int k)] ∧ Kit15 K cs C k ∧ R (.d (.bool true)) μ
theorem count15 {bs : List Bool} (h : bs.count true = 1) : ((bs.count true : Nat) : Int) = 1 := by rw [h]; rfl
theorem wb_at {X : Cx} {δ δ2 : Dl} {μ : Cells} {sts : List Stmt} {D : Dn} (e : δ = δ2) (h : WB X sts δ2 μ D) : WB X sts δ μ D := e ▸ h
end Ec
namespace Ec
open PySem PySem.Spec PyProof.Rows L2
theorem log15 {i : Int} (h : i.natAbs < 2000000000) : i.natAbs.log2 < 1920 := by
  by_cases h0 : i.natAbs = 0
  · rw [h0]
    decide
  · exact Nat.lt_of_lt_of_le ((Nat.log2_lt h0).mpr (Nat.lt_of_lt_of_le h (by decide : 2000000000 ≤ 2 ^ 40))) (by decide)
theorem log15s {i : Int} {L : List Int} (h : i ∈ L) (hl : ∀ x ∈ L, x.natAbs < 2000000000) : i.natAbs.log2 < 1920 := log15 (hl i h)
end Ec
namespace Ec
open PySem PySem.Spec PyProof.Rows L2
theorem fit15 (u v : Int) : fits 3 (.list [(.str ("x" : Str)), (.int u), (.tuple [(.int u), (.int 0), (.int 1)]), (.tuple [(.int u)]), (.int u), (.tuple [(.int u)]), (.int (v - 500)), (.int v), (.int (v - 7)), (.int (61 + u)), (.tuple [(.int u), (.int ((u + 1) % 20))]), (.int u), (.int u), (.int (301 + v)), (.int 20)]) = true := by
  have hs : SeqAt.shaped (.str ("x" : Str)) = true := by decide +kernel
  have fi : ∀ (n : Nat) (i : Int), fits n (.int i) = true := fun n i => by unfold fits; rfl
  have fs : ∀ n : Nat, fits n (.str ("x" : Str)) = true := fun n => by unfold fits; exact hs
  have ft : ∀ (L : List Int), L.length ≤ 3 → fits 2 (.tuple (intsD L)) = true := fun L h => (fits_ints 1 L (by omega)).2
  refine fits_lst (by simp) fun d hd => ?_
  simp only [List.mem_cons, List.not_mem_nil, or_false] at hd
  rcases hd with rfl | rfl | rfl | rfl | rfl | rfl | rfl | rfl | rfl | rfl | rfl | rfl | rfl | rfl | rfl
  all_goals first | exact fs 2 | exact fi 2 _ | exact ft [u, 0, 1] (by simp) | exact ft [u] (by simp) | exact ft [u, (u + 1) % 20] (by simp)
end Ec
namespace Ec
open PySem PySem.Spec PyProof.Rows L2
theorem fl15_mk {K : PySem.W.Frag} {C c0 c1 c2 c3 c4 c5 c6 c7 c8 c9 c10 c11 c12 c13 c14 : Addr} {b0 b1 b2 b3 b4 b5 b6 b7 b8 b9 b10 b11 b12 b13 b14 : Bool} (h0 : PySem.W.kitOne K (.ref C) (.ref c0) = some b0) (h1 : PySem.W.kitOne K (.ref C) (.ref c1) = some b1) (h2 : PySem.W.kitOne K (.ref C) (.ref c2) = some b2) (h3 : PySem.W.kitOne K (.ref C) (.ref c3) = some b3) (h4 : PySem.W.kitOne K (.ref C) (.ref c4) = some b4) (h5 : PySem.W.kitOne K (.ref C) (.ref c5) = some b5) (h6 : PySem.W.kitOne K (.ref C) (.ref c6) = some b6) (h7 : PySem.W.kitOne K (.ref C) (.ref c7) = some b7) (h8 : PySem.W.kitOne K (.ref C) (.ref c8) = some b8) (h9 : PySem.W.kitOne K (.ref C) (.ref c9) = some b9) (h10 : PySem.W.kitOne K (.ref C) (.ref c10) = some b10) (h11 : PySem.W.kitOne K (.ref C) (.ref c11) = some b11) (h12 : PySem.W.kitOne K (.ref C) (.ref c12) = some b12) (h13 : PySem.W.kitOne K (.ref C) (.ref c13) = some b13) (h14 : PySem.W.kitOne K (.ref C) (.ref c14) = some b14) : Fl15 K [c0, c1, c2, c3, c4, c5, c6, c7, c8, c9, c10, c11, c12, c13, c14] C [b0, b1, b2, b3, b4, b5, b6, b7, b8, b9, b10, b11, b12, b13, b14] := ⟨rfl, fun i D b e1 e2 => by
  rcases i with _ | _ | _ | _ | _ | _ | _ | _ | _ | _ | _ | _ | _ | _ | _ | i
  · cases e1; cases e2; exact h0
  · cases e1; cases e2; exact h1
  · cases e1; cases e2; exact h2
  · cases e1; cases e2; exact h3
  · cases e1; cases e2; exact h4
  · cases e1; cases e2; exact h5
  · cases e1; cases e2; exact h6
  · cases e1; cases e2; exact h7
  · cases e1; cases e2; exact h8
  · cases e1; cases e2; exact h9
  · cases e1; cases e2; exact h10
  · cases e1; cases e2; exact h11
  · cases e1; cases e2; exact h12
  · cases e1; cases e2; exact h13
  · cases e1; cases e2; exact h14
  · exact absurd e1 (by simp)⟩
end Ec
namespace Ec
open PySem PySem.Spec PyProof.Rows L2
theorem plS_flat (k : Nat) (L : List Int) : plS (List.replicate k (intsD L)).flatten := fun d m => by
  obtain ⟨l, hl, hd⟩ := List.mem_flatten.mp m
  rw [(List.mem_replicate.mp hl).2] at hd
  obtain ⟨i, _, rfl⟩ := List.mem_map.mp hd
  rfl
end Ec
set_option Elab.async false
set_option linter.all false
set_option autoImplicit false
set_option maxRecDepth 100000
set_option maxHeartbeats 4000000
set_option pp.maxSteps 60
namespace Lw
open PySem PySem.Spec PyProof.Rows L2 Ec
def topS (i : Nat) : Stmt := PySem.Challenge.pw_enoughcame_k15_errors_by_hand.main.body.getD i (.Pass ⟨0, 0, 0, 0⟩)
abbrev s_iBadText : Stmt := clsS (topS 1) 0
theorem sc_iBadText : FnScope ["self", "text"] ["self", "text"] (defScope s_iBadText) := ⟨rfl, rfl, rfl, by decide +kernel, rfl, by decide +kernel, by decide +kernel⟩
theorem ini_BadText {P : Program} {w : World} {K : PySem.W.Frag} {mg : Str → Option Value} {base : Heap} {f C : Addr} {fd : FuncData} (F : Fun K "__init__" "BadText.__init__" s_iBadText f fd) (T : Oxg K C "ValueError.__new__" [.type "ValueError", .type "Exception", .type "BaseException", .type "object"])
    (hno : PySem.W.findIn K (.ref C) "text" = some none) (hm : mg "ValueError" = none) (vV : PySem.W.findCls K (.type "ValueError") (.type "type") "__init__" = some (.val (.builtin "ValueError.__init__"))) :
    FnOk P w K mg base CX0 1 f fd ["self", "text"] (spIni C "text" FmS) :=
  ini_fnG F sc_iBadText bas_VE T hno hm (by kernel_rfl) vV (by decide +kernel) (by decide +kernel) (by decide) (by decide) (by with_unfolding_all rfl) (by with_unfolding_all rfl) (by with_unfolding_all rfl) (by decide) (by decide)
    (fun X h => by unfold Gl; unfold Env.kindOf; rw [h]; with_unfolding_all rfl) _ (fun X h => by with_unfolding_all rfl) (fun X hr hN h => ⟨_, (.cons (txtg_c 100 (by decide +kernel)) (.cons (txt_r hN (h ▸ .inl (by with_unfolding_all rfl)) (by decide) (by decide)) .nil)), by decide⟩) (fun X h => by with_unfolding_all rfl) (fun X h => by with_unfolding_all rfl)
abbrev s_iBadLine : Stmt := clsS (topS 2) 0
theorem sc_iBadLine : FnScope ["self", "number"] ["self", "number"] (defScope s_iBadLine) := ⟨rfl, rfl, rfl, by decide +kernel, rfl, by decide +kernel, by decide +kernel⟩
theorem ini_BadLine {P : Program} {w : World} {K : PySem.W.Frag} {mg : Str → Option Value} {base : Heap} {f C : Addr} {fd : FuncData} (F : Fun K "__init__" "BadLine.__init__" s_iBadLine f fd) (T : Oxg K C "ValueError.__new__" [.type "ValueError", .type "Exception", .type "BaseException", .type "object"])
    (hno : PySem.W.findIn K (.ref C) "number" = some none) (hm : mg "ValueError" = none) (vV : PySem.W.findCls K (.type "ValueError") (.type "type") "__init__" = some (.val (.builtin "ValueError.__init__"))) :
    FnOk P w K mg base CX0 1 f fd ["self", "number"] (spIni C "number" (Fm K)) :=
  ini_fn F sc_iBadLine bas_VE T hno hm (by kernel_rfl) vV (by decide +kernel) (by decide +kernel) (by decide) (by decide) (by with_unfolding_all rfl) (by with_unfolding_all rfl) (by with_unfolding_all rfl) (by decide) (by decide)
    (fun X h => by unfold Gl; unfold Env.kindOf; rw [h]; with_unfolding_all rfl) _ (fun X h => by with_unfolding_all rfl) (fun X hr hN h => ⟨_, (.cons (txt_c 100 (by decide +kernel)) (.cons (txt_v hr hN (h ▸ .inl (by with_unfolding_all rfl)) (by decide) (by decide)) (.cons (txt_c 100 (by decide +kernel)) .nil))), by decide⟩) (fun X h => by with_unfolding_all rfl) (fun X h => by with_unfolding_all rfl)
abbrev s_iContradiction : Stmt := clsS (topS 3) 0
theorem sc_iContradiction : FnScope ["self", "evidence"] ["self", "evidence"] (defScope s_iContradiction) := ⟨rfl, rfl, rfl, by decide +kernel, rfl, by decide +kernel, by decide +kernel⟩
theorem ini_Contradiction {P : Program} {w : World} {K : PySem.W.Frag} {mg : Str → Option Value} {base : Heap} {f C : Addr} {fd : FuncData} (F : Fun K "__init__" "Contradiction.__init__" s_iContradiction f fd) (T : Oxg K C "ValueError.__new__" [.type "ValueError", .type "Exception", .type "BaseException", .type "object"])
    (hno : PySem.W.findIn K (.ref C) "evidence" = some none) (hm : mg "ValueError" = none) (vV : PySem.W.findCls K (.type "ValueError") (.type "type") "__init__" = some (.val (.builtin "ValueError.__init__"))) :
    FnOk P w K mg base CX0 1 f fd ["self", "evidence"] (spIni C "evidence" (Fm K)) :=
  ini_fn F sc_iContradiction bas_VE T hno hm (by kernel_rfl) vV (by decide +kernel) (by decide +kernel) (by decide) (by decide) (by with_unfolding_all rfl) (by with_unfolding_all rfl) (by with_unfolding_all rfl) (by decide) (by decide)
    (fun X h => by unfold Gl; unfold Env.kindOf; rw [h]; with_unfolding_all rfl) _ (fun X h => by with_unfolding_all rfl) (fun X hr hN h => ⟨_, (.cons (txt_c 100 (by decide +kernel)) (.cons (txt_v hr hN (h ▸ .inl (by with_unfolding_all rfl)) (by decide) (by decide)) .nil)), by decide⟩) (fun X h => by with_unfolding_all rfl) (fun X h => by with_unfolding_all rfl)
abbrev s_iStuck : Stmt := clsS (topS 4) 0
theorem sc_iStuck : FnScope ["self", "people"] ["self", "people"] (defScope s_iStuck) := ⟨rfl, rfl, rfl, by decide +kernel, rfl, by decide +kernel, by decide +kernel⟩
theorem ini_Stuck {P : Program} {w : World} {K : PySem.W.Frag} {mg : Str → Option Value} {base : Heap} {f C : Addr} {fd : FuncData} (F : Fun K "__init__" "Stuck.__init__" s_iStuck f fd) (T : Oxg K C "ValueError.__new__" [.type "ValueError", .type "Exception", .type "BaseException", .type "object"])
    (hno : PySem.W.findIn K (.ref C) "people" = some none) (hm : mg "ValueError" = none) (vV : PySem.W.findCls K (.type "ValueError") (.type "type") "__init__" = some (.val (.builtin "ValueError.__init__"))) :
    FnOk P w K mg base CX0 1 f fd ["self", "people"] (spIni C "people" (Fm K)) :=
  ini_fn F sc_iStuck bas_VE T hno hm (by kernel_rfl) vV (by decide +kernel) (by decide +kernel) (by decide) (by decide) (by with_unfolding_all rfl) (by with_unfolding_all rfl) (by with_unfolding_all rfl) (by decide) (by decide)
    (fun X h => by unfold Gl; unfold Env.kindOf; rw [h]; with_unfolding_all rfl) _ (fun X h => by with_unfolding_all rfl) (fun X hr hN h => ⟨_, (.cons (txt_c 100 (by decide +kernel)) (.cons (txt_v hr hN (h ▸ .inl (by with_unfolding_all rfl)) (by decide) (by decide)) .nil)), by decide⟩) (fun X h => by with_unfolding_all rfl) (fun X h => by with_unfolding_all rfl)
abbrev s_iMisfit : Stmt := clsS (topS 5) 0
theorem sc_iMisfit : FnScope ["self", "place"] ["self", "place"] (defScope s_iMisfit) := ⟨rfl, rfl, rfl, by decide +kernel, rfl, by decide +kernel, by decide +kernel⟩
theorem ini_Misfit {P : Program} {w : World} {K : PySem.W.Frag} {mg : Str → Option Value} {base : Heap} {f C : Addr} {fd : FuncData} (F : Fun K "__init__" "Misfit.__init__" s_iMisfit f fd) (T : Oxg K C "ValueError.__new__" [.type "ValueError", .type "Exception", .type "BaseException", .type "object"])
    (hno : PySem.W.findIn K (.ref C) "place" = some none) (hm : mg "ValueError" = none) (vV : PySem.W.findCls K (.type "ValueError") (.type "type") "__init__" = some (.val (.builtin "ValueError.__init__"))) :
    FnOk P w K mg base CX0 1 f fd ["self", "place"] (spIni C "place" (Fm K)) :=
  ini_fn F sc_iMisfit bas_VE T hno hm (by kernel_rfl) vV (by decide +kernel) (by decide +kernel) (by decide) (by decide) (by with_unfolding_all rfl) (by with_unfolding_all rfl) (by with_unfolding_all rfl) (by decide) (by decide)
    (fun X h => by unfold Gl; unfold Env.kindOf; rw [h]; with_unfolding_all rfl) _ (fun X h => by with_unfolding_all rfl) (fun X hr hN h => ⟨_, (.cons (txt_c 100 (by decide +kernel)) (.cons (txt_v hr hN (h ▸ .inl (by with_unfolding_all rfl)) (by decide) (by decide)) (.cons (txt_c 100 (by decide +kernel)) .nil))), by decide⟩) (fun X h => by with_unfolding_all rfl) (fun X h => by with_unfolding_all rfl)
abbrev s_iNoInvitation : Stmt := clsS (topS 6) 0
theorem sc_iNoInvitation : FnScope ["self", "people"] ["self", "people"] (defScope s_iNoInvitation) := ⟨rfl, rfl, rfl, by decide +kernel, rfl, by decide +kernel, by decide +kernel⟩
theorem ini_NoInvitation {P : Program} {w : World} {K : PySem.W.Frag} {mg : Str → Option Value} {base : Heap} {f C : Addr} {fd : FuncData} (F : Fun K "__init__" "NoInvitation.__init__" s_iNoInvitation f fd) (T : Oxg K C "ValueError.__new__" [.type "ValueError", .type "Exception", .type "BaseException", .type "object"])
    (hno : PySem.W.findIn K (.ref C) "people" = some none) (hm : mg "ValueError" = none) (vV : PySem.W.findCls K (.type "ValueError") (.type "type") "__init__" = some (.val (.builtin "ValueError.__init__"))) :
    FnOk P w K mg base CX0 1 f fd ["self", "people"] (spIni C "people" (Fm K)) :=
  ini_fn F sc_iNoInvitation bas_VE T hno hm (by kernel_rfl) vV (by decide +kernel) (by decide +kernel) (by decide) (by decide) (by with_unfolding_all rfl) (by with_unfolding_all rfl) (by with_unfolding_all rfl) (by decide) (by decide)
    (fun X h => by unfold Gl; unfold Env.kindOf; rw [h]; with_unfolding_all rfl) _ (fun X h => by with_unfolding_all rfl) (fun X hr hN h => ⟨_, (.cons (txt_c 100 (by decide +kernel)) (.cons (txt_v hr hN (h ▸ .inl (by with_unfolding_all rfl)) (by decide) (by decide)) .nil)), by decide⟩) (fun X h => by with_unfolding_all rfl) (fun X h => by with_unfolding_all rfl)
abbrev s_iNoPerson : Stmt := clsS (topS 7) 0
theorem sc_iNoPerson : FnScope ["self", "person"] ["self", "person"] (defScope s_iNoPerson) := ⟨rfl, rfl, rfl, by decide +kernel, rfl, by decide +kernel, by decide +kernel⟩
theorem ini_NoPerson {P : Program} {w : World} {K : PySem.W.Frag} {mg : Str → Option Value} {base : Heap} {f C : Addr} {fd : FuncData} (F : Fun K "__init__" "NoPerson.__init__" s_iNoPerson f fd) (T : Oxg K C "LookupError.__new__" [.type "LookupError", .type "Exception", .type "BaseException", .type "object"])
    (hno : PySem.W.findIn K (.ref C) "person" = some none) (hm : mg "LookupError" = none) (vV : PySem.W.findCls K (.type "LookupError") (.type "type") "__init__" = some (.val (.builtin "LookupError.__init__"))) :
    FnOk P w K mg base CX0 1 f fd ["self", "person"] (spIni C "person" (Fm K)) :=
  ini_fn F sc_iNoPerson bas_LE T hno hm (by kernel_rfl) vV (by decide +kernel) (by decide +kernel) (by decide) (by decide) (by with_unfolding_all rfl) (by with_unfolding_all rfl) (by with_unfolding_all rfl) (by decide) (by decide)
    (fun X h => by unfold Gl; unfold Env.kindOf; rw [h]; with_unfolding_all rfl) _ (fun X h => by with_unfolding_all rfl) (fun X hr hN h => ⟨_, (.cons (txt_c 100 (by decide +kernel)) (.cons (txt_v hr hN (h ▸ .inl (by with_unfolding_all rfl)) (by decide) (by decide)) .nil)), by decide⟩) (fun X h => by with_unfolding_all rfl) (fun X h => by with_unfolding_all rfl)
abbrev s_iNoPlace : Stmt := clsS (topS 8) 0
theorem sc_iNoPlace : FnScope ["self", "place"] ["self", "place"] (defScope s_iNoPlace) := ⟨rfl, rfl, rfl, by decide +kernel, rfl, by decide +kernel, by decide +kernel⟩
theorem ini_NoPlace {P : Program} {w : World} {K : PySem.W.Frag} {mg : Str → Option Value} {base : Heap} {f C : Addr} {fd : FuncData} (F : Fun K "__init__" "NoPlace.__init__" s_iNoPlace f fd) (T : Oxg K C "LookupError.__new__" [.type "LookupError", .type "Exception", .type "BaseException", .type "object"])
    (hno : PySem.W.findIn K (.ref C) "place" = some none) (hm : mg "LookupError" = none) (vV : PySem.W.findCls K (.type "LookupError") (.type "type") "__init__" = some (.val (.builtin "LookupError.__init__"))) :
    FnOk P w K mg base CX0 1 f fd ["self", "place"] (spIni C "place" (Fm K)) :=
  ini_fn F sc_iNoPlace bas_LE T hno hm (by kernel_rfl) vV (by decide +kernel) (by decide +kernel) (by decide) (by decide) (by with_unfolding_all rfl) (by with_unfolding_all rfl) (by with_unfolding_all rfl) (by decide) (by decide)
    (fun X h => by unfold Gl; unfold Env.kindOf; rw [h]; with_unfolding_all rfl) _ (fun X h => by with_unfolding_all rfl) (fun X hr hN h => ⟨_, (.cons (txt_c 100 (by decide +kernel)) (.cons (txt_v hr hN (h ▸ .inl (by with_unfolding_all rfl)) (by decide) (by decide)) .nil)), by decide⟩) (fun X h => by with_unfolding_all rfl) (fun X h => by with_unfolding_all rfl)
abbrev s_iNoNumber : Stmt := clsS (topS 9) 0
theorem sc_iNoNumber : FnScope ["self", "number"] ["self", "number"] (defScope s_iNoNumber) := ⟨rfl, rfl, rfl, by decide +kernel, rfl, by decide +kernel, by decide +kernel⟩
theorem ini_NoNumber {P : Program} {w : World} {K : PySem.W.Frag} {mg : Str → Option Value} {base : Heap} {f C : Addr} {fd : FuncData} (F : Fun K "__init__" "NoNumber.__init__" s_iNoNumber f fd) (T : Oxg K C "LookupError.__new__" [.type "LookupError", .type "Exception", .type "BaseException", .type "object"])
    (hno : PySem.W.findIn K (.ref C) "number" = some none) (hm : mg "LookupError" = none) (vV : PySem.W.findCls K (.type "LookupError") (.type "type") "__init__" = some (.val (.builtin "LookupError.__init__"))) :
    FnOk P w K mg base CX0 1 f fd ["self", "number"] (spIni C "number" (Fm K)) :=
  ini_fn F sc_iNoNumber bas_LE T hno hm (by kernel_rfl) vV (by decide +kernel) (by decide +kernel) (by decide) (by decide) (by with_unfolding_all rfl) (by with_unfolding_all rfl) (by with_unfolding_all rfl) (by decide) (by decide)
    (fun X h => by unfold Gl; unfold Env.kindOf; rw [h]; with_unfolding_all rfl) _ (fun X h => by with_unfolding_all rfl) (fun X hr hN h => ⟨_, (.cons (txt_c 100 (by decide +kernel)) (.cons (txt_v hr hN (h ▸ .inl (by with_unfolding_all rfl)) (by decide) (by decide)) .nil)), by decide⟩) (fun X h => by with_unfolding_all rfl) (fun X h => by with_unfolding_all rfl)
abbrev s_iNoOperation : Stmt := clsS (topS 10) 0
theorem sc_iNoOperation : FnScope ["self", "many"] ["self", "many"] (defScope s_iNoOperation) := ⟨rfl, rfl, rfl, by decide +kernel, rfl, by decide +kernel, by decide +kernel⟩
theorem ini_NoOperation {P : Program} {w : World} {K : PySem.W.Frag} {mg : Str → Option Value} {base : Heap} {f C : Addr} {fd : FuncData} (F : Fun K "__init__" "NoOperation.__init__" s_iNoOperation f fd) (T : Oxg K C "LookupError.__new__" [.type "LookupError", .type "Exception", .type "BaseException", .type "object"])
    (hno : PySem.W.findIn K (.ref C) "many" = some none) (hm : mg "LookupError" = none) (vV : PySem.W.findCls K (.type "LookupError") (.type "type") "__init__" = some (.val (.builtin "LookupError.__init__"))) :
    FnOk P w K mg base CX0 1 f fd ["self", "many"] (spIni C "many" (Fm K)) :=
  ini_fn F sc_iNoOperation bas_LE T hno hm (by kernel_rfl) vV (by decide +kernel) (by decide +kernel) (by decide) (by decide) (by with_unfolding_all rfl) (by with_unfolding_all rfl) (by with_unfolding_all rfl) (by decide) (by decide)
    (fun X h => by unfold Gl; unfold Env.kindOf; rw [h]; with_unfolding_all rfl) _ (fun X h => by with_unfolding_all rfl) (fun X hr hN h => ⟨_, (.cons (txt_c 100 (by decide +kernel)) (.cons (txt_v hr hN (h ▸ .inl (by with_unfolding_all rfl)) (by decide) (by decide)) (.cons (txt_c 100 (by decide +kernel)) .nil))), by decide⟩) (fun X h => by with_unfolding_all rfl) (fun X h => by with_unfolding_all rfl)
abbrev s_iBlocked : Stmt := clsS (topS 11) 0
theorem sc_iBlocked : FnScope ["self", "pair"] ["self", "pair"] (defScope s_iBlocked) := ⟨rfl, rfl, rfl, by decide +kernel, rfl, by decide +kernel, by decide +kernel⟩
theorem ini_Blocked {P : Program} {w : World} {K : PySem.W.Frag} {mg : Str → Option Value} {base : Heap} {f C : Addr} {fd : FuncData} (F : Fun K "__init__" "Blocked.__init__" s_iBlocked f fd) (T : Oxg K C "RuntimeError.__new__" [.type "RuntimeError", .type "Exception", .type "BaseException", .type "object"])
    (hno : PySem.W.findIn K (.ref C) "pair" = some none) (hm : mg "RuntimeError" = none) (vV : PySem.W.findCls K (.type "RuntimeError") (.type "type") "__init__" = some (.val (.builtin "RuntimeError.__init__"))) :
    FnOk P w K mg base CX0 1 f fd ["self", "pair"] (spIni C "pair" (Fm K)) :=
  ini_fn F sc_iBlocked bas_RE T hno hm (by kernel_rfl) vV (by decide +kernel) (by decide +kernel) (by decide) (by decide) (by with_unfolding_all rfl) (by with_unfolding_all rfl) (by with_unfolding_all rfl) (by decide) (by decide)
    (fun X h => by unfold Gl; unfold Env.kindOf; rw [h]; with_unfolding_all rfl) _ (fun X h => by with_unfolding_all rfl) (fun X hr hN h => ⟨_, (.cons (txt_c 100 (by decide +kernel)) (.cons (txt_v hr hN (h ▸ .inl (by with_unfolding_all rfl)) (by decide) (by decide)) .nil)), by decide⟩) (fun X h => by with_unfolding_all rfl) (fun X h => by with_unfolding_all rfl)
abbrev s_iEarly : Stmt := clsS (topS 12) 0
theorem sc_iEarly : FnScope ["self", "person"] ["self", "person"] (defScope s_iEarly) := ⟨rfl, rfl, rfl, by decide +kernel, rfl, by decide +kernel, by decide +kernel⟩
theorem ini_Early {P : Program} {w : World} {K : PySem.W.Frag} {mg : Str → Option Value} {base : Heap} {f C : Addr} {fd : FuncData} (F : Fun K "__init__" "Early.__init__" s_iEarly f fd) (T : Oxg K C "RuntimeError.__new__" [.type "RuntimeError", .type "Exception", .type "BaseException", .type "object"])
    (hno : PySem.W.findIn K (.ref C) "person" = some none) (hm : mg "RuntimeError" = none) (vV : PySem.W.findCls K (.type "RuntimeError") (.type "type") "__init__" = some (.val (.builtin "RuntimeError.__init__"))) :
    FnOk P w K mg base CX0 1 f fd ["self", "person"] (spIni C "person" (Fm K)) :=
  ini_fn F sc_iEarly bas_RE T hno hm (by kernel_rfl) vV (by decide +kernel) (by decide +kernel) (by decide) (by decide) (by with_unfolding_all rfl) (by with_unfolding_all rfl) (by with_unfolding_all rfl) (by decide) (by decide)
    (fun X h => by unfold Gl; unfold Env.kindOf; rw [h]; with_unfolding_all rfl) _ (fun X h => by with_unfolding_all rfl) (fun X hr hN h => ⟨_, (.cons (txt_c 100 (by decide +kernel)) (.cons (txt_v hr hN (h ▸ .inl (by with_unfolding_all rfl)) (by decide) (by decide)) (.cons (txt_c 100 (by decide +kernel)) .nil))), by decide⟩) (fun X h => by with_unfolding_all rfl) (fun X h => by with_unfolding_all rfl)
abbrev s_iHere : Stmt := clsS (topS 13) 0
theorem sc_iHere : FnScope ["self", "person"] ["self", "person"] (defScope s_iHere) := ⟨rfl, rfl, rfl, by decide +kernel, rfl, by decide +kernel, by decide +kernel⟩
theorem ini_Here {P : Program} {w : World} {K : PySem.W.Frag} {mg : Str → Option Value} {base : Heap} {f C : Addr} {fd : FuncData} (F : Fun K "__init__" "Here.__init__" s_iHere f fd) (T : Oxg K C "RuntimeError.__new__" [.type "RuntimeError", .type "Exception", .type "BaseException", .type "object"])
    (hno : PySem.W.findIn K (.ref C) "person" = some none) (hm : mg "RuntimeError" = none) (vV : PySem.W.findCls K (.type "RuntimeError") (.type "type") "__init__" = some (.val (.builtin "RuntimeError.__init__"))) :
    FnOk P w K mg base CX0 1 f fd ["self", "person"] (spIni C "person" (Fm K)) :=
  ini_fn F sc_iHere bas_RE T hno hm (by kernel_rfl) vV (by decide +kernel) (by decide +kernel) (by decide) (by decide) (by with_unfolding_all rfl) (by with_unfolding_all rfl) (by with_unfolding_all rfl) (by decide) (by decide)
    (fun X h => by unfold Gl; unfold Env.kindOf; rw [h]; with_unfolding_all rfl) _ (fun X h => by with_unfolding_all rfl) (fun X hr hN h => ⟨_, (.cons (txt_c 100 (by decide +kernel)) (.cons (txt_v hr hN (h ▸ .inl (by with_unfolding_all rfl)) (by decide) (by decide)) (.cons (txt_c 100 (by decide +kernel)) .nil))), by decide⟩) (fun X h => by with_unfolding_all rfl) (fun X h => by with_unfolding_all rfl)
abbrev s_iTooMany : Stmt := clsS (topS 14) 0
theorem sc_iTooMany : FnScope ["self", "many"] ["self", "many"] (defScope s_iTooMany) := ⟨rfl, rfl, rfl, by decide +kernel, rfl, by decide +kernel, by decide +kernel⟩
theorem ini_TooMany {P : Program} {w : World} {K : PySem.W.Frag} {mg : Str → Option Value} {base : Heap} {f C : Addr} {fd : FuncData} (F : Fun K "__init__" "TooMany.__init__" s_iTooMany f fd) (T : Oxg K C "OverflowError.__new__" [.type "OverflowError", .type "ArithmeticError", .type "Exception", .type "BaseException", .type "object"])
    (hno : PySem.W.findIn K (.ref C) "many" = some none) (hm : mg "OverflowError" = none) (vV : PySem.W.findCls K (.type "OverflowError") (.type "type") "__init__" = some (.val (.builtin "OverflowError.__init__"))) :
    FnOk P w K mg base CX0 1 f fd ["self", "many"] (spIni C "many" (Fm K)) :=
  ini_fn F sc_iTooMany bas_OE T hno hm (by kernel_rfl) vV (by decide +kernel) (by decide +kernel) (by decide) (by decide) (by with_unfolding_all rfl) (by with_unfolding_all rfl) (by with_unfolding_all rfl) (by decide) (by decide)
    (fun X h => by unfold Gl; unfold Env.kindOf; rw [h]; with_unfolding_all rfl) _ (fun X h => by with_unfolding_all rfl) (fun X hr hN h => ⟨_, (.cons (txt_c 100 (by decide +kernel)) (.cons (txt_v hr hN (h ▸ .inl (by with_unfolding_all rfl)) (by decide) (by decide)) .nil)), by decide⟩) (fun X h => by with_unfolding_all rfl) (fun X h => by with_unfolding_all rfl)
abbrev s_iFull : Stmt := clsS (topS 15) 0
theorem sc_iFull : FnScope ["self", "many"] ["self", "many"] (defScope s_iFull) := ⟨rfl, rfl, rfl, by decide +kernel, rfl, by decide +kernel, by decide +kernel⟩
theorem ini_Full {P : Program} {w : World} {K : PySem.W.Frag} {mg : Str → Option Value} {base : Heap} {f C : Addr} {fd : FuncData} (F : Fun K "__init__" "Full.__init__" s_iFull f fd) (T : Oxg K C "OverflowError.__new__" [.type "OverflowError", .type "ArithmeticError", .type "Exception", .type "BaseException", .type "object"])
    (hno : PySem.W.findIn K (.ref C) "many" = some none) (hm : mg "OverflowError" = none) (vV : PySem.W.findCls K (.type "OverflowError") (.type "type") "__init__" = some (.val (.builtin "OverflowError.__init__"))) :
    FnOk P w K mg base CX0 1 f fd ["self", "many"] (spIni C "many" (Fm K)) :=
  ini_fn F sc_iFull bas_OE T hno hm (by kernel_rfl) vV (by decide +kernel) (by decide +kernel) (by decide) (by decide) (by with_unfolding_all rfl) (by with_unfolding_all rfl) (by with_unfolding_all rfl) (by decide) (by decide)
    (fun X h => by unfold Gl; unfold Env.kindOf; rw [h]; with_unfolding_all rfl) _ (fun X h => by with_unfolding_all rfl) (fun X hr hN h => ⟨_, (.cons (txt_c 100 (by decide +kernel)) (.cons (txt_v hr hN (h ▸ .inl (by with_unfolding_all rfl)) (by decide) (by decide)) (.cons (txt_c 100 (by decide +kernel)) .nil))), by decide⟩) (fun X h => by with_unfolding_all rfl) (fun X h => by with_unfolding_all rfl)
abbrev s_cell_at_l : Stmt := topS 19
theorem sc_cell_at_l : FnScope ["_law_script", "_law_k"] ["_law_script", "_law_k"] (defScope s_cell_at_l) := ⟨rfl, rfl, rfl, by decide +kernel, rfl, by decide +kernel, by decide +kernel⟩
abbrev s_box_l : Stmt := topS 20
theorem sc_box_l : FnScope ["_law_script", "_law_k", "_law_core"] ["_law_script", "_law_k"] (defScope s_box_l) := ⟨rfl, rfl, rfl, by decide +kernel, rfl, by decide +kernel, by decide +kernel⟩
abbrev s_take_l : Stmt := topS 21
theorem sc_take_l : FnScope ["_law_box_here", "_law_below", "_law_found", "_law_once", "_law_twice"] ["_law_box_here", "_law_below"] (defScope s_take_l) := ⟨rfl, rfl, rfl, by decide +kernel, rfl, by decide +kernel, by decide +kernel⟩
abbrev s_same_l : Stmt := topS 22
theorem sc_same_l : FnScope ["_law_found", "_law_due", "_law_a", "_law_b"] ["_law_found", "_law_due"] (defScope s_same_l) := ⟨rfl, rfl, rfl, by decide +kernel, rfl, by decide +kernel, by decide +kernel⟩
abbrev s_flags_l : Stmt := topS 23
theorem sc_flags_l : FnScope ["_law_made", "_law_flags_here"] ["_law_made"] (defScope s_flags_l) := ⟨rfl, rfl, rfl, by decide +kernel, rfl, by decide +kernel, by decide +kernel⟩
abbrev s_one_right_l : Stmt := topS 24
theorem sc_one_right_l : FnScope ["_law_made", "_law_at", "_law_kinds", "_law_due"] ["_law_made", "_law_at"] (defScope s_one_right_l) := ⟨rfl, rfl, rfl, by decide +kernel, rfl, by decide +kernel, by decide +kernel⟩
abbrev s_right_l : Stmt := topS 25
theorem sc_right_l : FnScope ["_law_box_here", "_law_soul", "_law_far", "_law_values", "_law_made", "_law_named", "_law_some", "_law_fields", "_law_kinds", "_law_its", "_law_at"] ["_law_box_here"] (defScope s_right_l) := ⟨rfl, rfl, rfl, by decide +kernel, rfl, by decide +kernel, by decide +kernel⟩
abbrev s_law : Stmt := topS 26
theorem sc_law : FnScope ["_law_script", "_law_k", "_law_box_here", "_law_turn"] ["_law_script"] (defScope s_law) := ⟨rfl, rfl, rfl, by decide +kernel, rfl, by decide +kernel, by decide +kernel⟩
local macro_rules | `(tactic| walk_at "vis") => `(tactic| with_unfolding_all first | exact Or.inl rfl | exact Or.inr (Or.inl rfl) | exact Or.inr (Or.inr rfl))
local macro_rules | `(tactic| walk_at "loc") => `(tactic| with_unfolding_all first | exact Or.inl rfl | exact Or.inr rfl)
local macro_rules | `(tactic| walk_at "nm") => `(tactic| with_reducible assumption)
local macro_rules | `(tactic| walk_at "rfl") => `(tactic| with_unfolding_all rfl)
local macro_rules | `(tactic| walk_at "room") => `(tactic| first | assumption | exact Room.mono (by assumption) (by decide))
local macro_rules | `(tactic| walk_at "ct") => `(tactic| with_unfolding_all first | exact Ct.l _ | exact Ct.t _ | exact Ct.c 0 rfl | exact Ct.c 1 rfl | exact Ct.c 2 rfl | exact Ct.c 3 rfl | exact Ct.c 4 rfl)
local macro_rules | `(tactic| walk_at "vw") => `(tactic| with_unfolding_all first | exact Vw.d _ | exact Vw.c 0 rfl | exact Vw.c 1 rfl | exact Vw.c 2 rfl | exact Vw.c 3 rfl | exact Vw.c 4 rfl)
local macro_rules | `(tactic| walk_at "e") => `(tactic| with_reducible first
  | refine we_name _ (by assumption) (by walk_at "vis") (by walk_at "rfl") ?_
  | refine we_int ?_
  | refine we_bl ?_
  | refine we_non ?_
  | refine we_str ?_
  | refine we_ix ix_seq (by with_unfolding_all exact fun _ _ => rfl) ?_
  | refine we_cmp (op := .Lt) op_lt (nomark _) ?_
  | refine we_cmp (op := .LtE) op_le (nomark _) ?_
  | refine we_cmp (op := .Gt) op_gt (nomark _) ?_
  | refine we_cmp (op := .GtE) op_ge (nomark _) ?_
  | refine we_bin (op := .Add) o_add ?_
  | refine we_bin (op := .Sub) op_sub ?_
  | refine we_bin (op := .Mult) o_mul ?_
  | refine we_bin (op := .Mod) op_mod ?_
  | refine we_bin (op := .FloorDiv) op_fdiv ?_
  | refine we_bin (op := .Pow) op_pow ?_
  | refine we_un (op := .USub) un_neg ?_
  | refine we_cmp (op := .In) op_in_seq (by walk_at "rfl") ?_
  | refine we_cmp (op := .NotIn) op_notIn_seq (by walk_at "rfl") ?_)
local macro_rules | `(tactic| walk_at "eq") => `(tactic| with_reducible first
  | refine we_cmp (op := .Eq) (op_eqD (Room.units (k := 0) (by with_unfolding_all exact Room.mono (by assumption) (Nat.zero_le _)))) (nomark _) ?_
  | refine we_cmp (op := .NotEq) (op_neD (Room.units (k := 0) (by with_unfolding_all exact Room.mono (by assumption) (Nat.zero_le _)))) (nomark _) ?_
  | refine we_cmp (op := .Is) op_isN (nomark _) ?_
  | refine we_cmp (op := .IsNot) op_notN (nomark _) ?_)
local macro_rules | `(tactic| walk_at "t") => `(tactic| with_reducible first
  | refine wt_cmp (op := .Lt) op_lt (nomark _) ?_
  | refine wt_cmp (op := .LtE) op_le (nomark _) ?_
  | refine wt_cmp (op := .Gt) op_gt (nomark _) ?_
  | refine wt_cmp (op := .GtE) op_ge (nomark _) ?_
  | refine wt_cmp (op := .In) op_in_seq (by walk_at "rfl") ?_
  | refine wt_cmp (op := .NotIn) op_notIn_seq (by walk_at "rfl") ?_
  | refine wt_cmp (op := .Eq) (op_eqD (Room.units (k := 0) (by with_unfolding_all exact Room.mono (by assumption) (Nat.zero_le _)))) (nomark _) ?_
  | refine wt_cmp (op := .NotEq) (op_neD (Room.units (k := 0) (by with_unfolding_all exact Room.mono (by assumption) (Nat.zero_le _)))) (nomark _) ?_
  | refine wt_cmp (op := .Is) op_isN (nomark _) ?_
  | refine wt_cmp (op := .IsNot) op_notN (nomark _) ?_
  | refine wt_not ?_
  | refine wt_w (ww_and ?_)
  | refine wt_w (ww_or ?_)
  | refine ww_and ?_
  | refine ww_or ?_
  | refine ww_and1 ?_
  | refine ww_or1 ?_
  | refine wt_val ?_ (by with_unfolding_all exact fun _ => rfl))
local macro_rules | `(tactic| walk_at "go1") => `(tactic| with_reducible first
  | walk_at "e"
  | refine ow_add ?_
  | refine ow_sub ?_
  | refine ow_cmp ?_
  | refine uw_neg ?_
  | refine wa_cons ?_ (by walk_at "rfl")
  | refine wa_nil ?_)
local macro_rules | `(tactic| walk_at "go") => `(tactic| repeat (walk_at "go1"))
local macro_rules | `(tactic| walk_at "so") => `(tactic| first | assumption | omega | (exact rfl) | decide | (simp only [List.length_map, List.length_append, List.length_cons, List.length_nil]; omega))
local macro_rules | `(tactic| walk_at "pl") => `(tactic| repeat' first | exact plS_nil | exact plS_map (fun _ => rfl) | refine plS_app ?_ ?_ | refine plS_cons rfl ?_ | assumption)
local macro_rules | `(tactic| walk_at "shp") => `(tactic| first | exact shaped_lst _ | exact shaped_tup _ | exact prs_shaped _ | exact tups_shaped _ | exact natsD_shaped _ | rfl | exact fits_shaped (by assumption))
local macro_rules | `(tactic| walk_at "lk") => `(tactic| with_unfolding_all first | exact Lk.d _ | exact Lk.c 0 rfl | exact Lk.c 1 rfl | exact Lk.c 2 rfl)
local macro_rules | `(tactic| walk_at "len") => `(tactic| first | omega | (simp only [List.length_append, List.length_cons, List.length_nil, List.length_map]; omega) | (simp; done) | (simp; omega) | (simp only [List.length_append, List.length_cons, List.length_nil, lgs_len]; omega))
local macro_rules | `(tactic| walk_at "txt") => `(tactic| first | omega | assumption | (decide +kernel))
section
variable {P : Program} {w : World} {K : PySem.W.Frag} {mg : Str → Option Value} {base : Heap} {c_BadText c_BadLine c_Contradiction c_Stuck c_Misfit c_NoInvitation c_NoPerson c_NoPlace c_NoNumber c_NoOperation c_Blocked c_Early c_Here c_TooMany c_Full c_Gathering : Addr}
theorem ok_cell_at_l {f : Addr} {fd : FuncData} (F : Fun K "_law_cell_at" "_law_cell_at" s_cell_at_l f fd) (B : Bl mg) : FnG P w K mg base CX0 1 f fd ["_law_script", "_law_k"] (spW K T_cell) := by
  refine fn_w F sc_cell_at_l (by decide) (fun xs μ R h => ?_) fun cdv A outer s H E hr hgd xs μ R hT => ?_
  · obtain ⟨ns, k, rfl, _⟩ := h
    rfl
  · obtain ⟨ns, k, rfl, hR⟩ := hT
    refine wb_names (N := ["_law_script", "_law_k"]) rfl fun hn => ?_
    have n0 := hn 0 _ rfl
    have n1 := hn 1 _ rfl
    refine wb_cons (ws_if ?_)
    walk_at "t"
    walk_at "e"
    refine we_len B rfl ?_
    walk_at "e"
    refine ⟨_, .s _, ?_⟩
    refine ow_cmp ⟨_, rfl, ?_⟩
    split
    · rename_i hk
      have hk' := of_decide_eq_true hk
      rw [List.length_map] at hk'
      have hl : k < ns.length := by omega
      refine wb_one (ws_ret ?_)
      walk_at "go"
      refine ow_ix (.s _) (atI_nat (j := k) (v := .int ns[k]) (by rw [List.getElem?_map, List.getElem?_eq_getElem hl]; rfl)) ?_
      rw [List.getD_eq_getElem?_getD, List.getElem?_eq_getElem hl] at hR
      exact keep hR
    · rename_i hk
      have hk' : ¬ ((k : Int) < ((intsD ns).length : Nat)) := fun z => hk (decide_eq_true z)
      rw [List.length_map] at hk'
      refine wb_nil ?_
      refine wb_one (ws_ret ?_)
      walk_at "e"
      rw [List.getD_eq_getElem?_getD, List.getElem?_eq_none (by omega)] at hR
      exact keep hR
theorem ok_box_l {f : Addr} {fd : FuncData} (F : Fun K "_law_box" "_law_box" s_box_l f fd) (B : Bl mg) (c1 : Cal P w K mg base 1 "_law_cell_at" T_cell) : FnG P w K mg base CX0 2 f fd ["_law_script", "_law_k"] (spW K T_box) := by
  refine fn_w F sc_box_l (by decide) (fun xs μ R h => ?_) fun cdv A outer s H E hr hgd xs μ R hT => ?_
  · obtain ⟨ns, k, rfl, _⟩ := h
    rfl
  · obtain ⟨ns, k, rfl, hk, hR⟩ := hT
    refine wb_names (N := ["_law_script", "_law_k", "_law_core"]) rfl fun hn => ?_
    have n0 := hn 0 _ rfl
    have n1 := hn 1 _ rfl
    have n2 := hn 2 _ rfl
    refine wb_cons ?_
    refine ws_set 2 sc_box_l.nd n2 (by walk_at "loc") (by first | exact .inl rfl | exact .inr rfl) ?_
    refine we_callP c1 hr rfl ?_
    walk_at "go"
    refine ⟨ns, k, rfl, ?_⟩
    generalize ns.getD k 0 = v
    refine wb_one (ws_ret ?_)
    refine we_lst (wa_cons ?_)
    walk_at "e"
    refine we_abs B rfl ?_
    walk_at "e"
    refine ⟨v, rfl, ?_⟩
    refine we_intB B rfl ?_
    walk_at "e"
    refine we_abs B rfl ?_
    walk_at "e"
    refine ⟨v, rfl, ?_⟩
    walk_at "go"
    refine ow_cnd (by exact ⟨by decide, by decide, by decide⟩) ?_
    refine ow_cmp ⟨_, rfl, ?_⟩
    generalize decide ((10 : Int) ^ Int.toNat 18 ≤ if v < 0 then -v else v) = kk
    refine ow_mul (.inr (by cases kk <;> decide)) ?_
    walk_at "go"
    refine ow_cnd (by decide) ?_
    walk_at "go"
    refine ow_mul (.inl (by decide)) ?_
    walk_at "go"
    refine ⟨_, rfl, (by show 3 ≤ 100000; decide), fun q => ?_⟩
    refine keep (hR q _ ⟨_, _, _, rfl, ?_, ?_, ?_, by decide, by decide⟩)
    · refine Int.mul_nonneg ?_ ?_
      · split <;> omega
      · cases kk <;> decide
    · have := Int.emod_nonneg v (show (2305843009213693951 : Int) ≠ 0 by decide)
      omega
    · have := Int.emod_lt_of_pos v (show (0 : Int) < 2305843009213693951 by decide)
      omega
theorem pow7 : (10 : Int) ^ Int.toNat 7 = 10000000 := by decide
theorem atB0 {x y z : Int} : atI (boxD x y z) 0 = some (.int x) := atI_nat (j := 0) rfl
theorem atB1 {x y z : Int} : atI (boxD x y z) 1 = some (.int y) := atI_nat (j := 1) rfl
theorem atB2 {x y z : Int} : atI (boxD x y z) 2 = some (.int z) := atI_nat (j := 2) rfl
theorem ok_take_s {f : Addr} {fd : FuncData} (F : Fun K "_law_take" "_law_take" s_take_l f fd) (B : Bl mg) : FnG P w K mg base CX0 1 f fd ["_law_box_here", "_law_below"] (spW K (T_takeN 10000000 1)) := by
  refine fn_w F sc_take_l (by decide) (fun xs μ R h => ?_) fun cdv A outer s H E hr hgd xs μ R hT => ?_
  · obtain ⟨b, ds, n, m, rfl, _⟩ := h
    rfl
  · obtain ⟨b, ds, n, m, rfl, rfl, hb, h0, h1, hm, hR⟩ := hT
    obtain ⟨x, y, z, rfl, hx, hy, hy2, hz, hz2⟩ := hb
    refine wb_names (N := ["_law_box_here", "_law_below", "_law_found", "_law_once", "_law_twice"]) rfl fun hn => ?_
    have n0 := hn 0 _ rfl
    have n1 := hn 1 _ rfl
    have n2 := hn 2 _ rfl
    have n3 := hn 3 _ rfl
    have n4 := hn 4 _ rfl
    refine wb_cons (ws_if ?_)
    walk_at "t"
    walk_at "go"
    refine ow_ix (.c 0 rfl) atB0 ?_
    walk_at "go"
    refine ⟨_, rfl, ?_⟩
    split
    · refine wb_cons ?_
      refine ws_set 2 sc_take_l.nd n2 (by walk_at "loc") (by first | exact .inl rfl | exact .inr rfl) ?_
      walk_at "go"
      refine ow_ix (.c 0 rfl) atB0 ?_
      walk_at "go"
      refine ow_cnd h0 ?_
      refine wb_cons ?_
      refine ws_asg [] ?_
      walk_at "go"
      refine ow_ix (.c 0 rfl) atB0 ?_
      walk_at "go"
      refine ow_cnd (C := CDiv) (by exact ⟨h0, by omega⟩) ?_
      refine wg_setL ?_
      walk_at "e"
      walk_at "e"
      refine ⟨b, _, 0, 0, rfl, rfl, rfl, (by show 0 < 3; decide), ?_⟩
      refine wb_one (ws_ret ?_)
      walk_at "e"
      exact keep (hR _ _ (Int.emod_nonneg _ (by omega)) (Int.emod_lt_of_pos _ h0) ⟨x / n, y, z, rfl, Int.ediv_nonneg hx (by omega), hy, hy2, hz, by omega⟩)
    · refine wb_nil ?_
      refine wb_cons (ws_if ?_)
      walk_at "t"
      walk_at "go"
      refine ow_cnd (C := CPow) (by exact ⟨by decide, by decide, by decide⟩) ?_
      refine ow_cmp ⟨_, rfl, ?_⟩
      rw [pow7, decide_eq_false (show ¬ ((10000000 : Int) < n) by omega)]
      rw [if_neg (by decide)]
      refine wb_nil ?_
      refine wb_cons ?_
      refine ws_asg [] ?_
      walk_at "go"
      refine ow_ix (.c 0 rfl) atB2 ?_
      walk_at "go"
      refine wg_setL ?_
      walk_at "e"
      walk_at "e"
      refine ⟨b, _, 2, 0, rfl, rfl, rfl, (by show 2 < 3; decide), ?_⟩
      have eb : ((boxD x y z).set 2 (.int (z + 1))) = boxD x y (z + 1) := rfl
      rw [eb]
      refine wb_cons ?_
      refine ws_set 3 sc_take_l.nd n3 (by walk_at "loc") (by first | exact .inl rfl | exact .inr rfl) ?_
      walk_at "go"
      refine ow_ix (.c 0 rfl) atB1 ?_
      walk_at "go"
      refine ow_ix (.c 0 rfl) atB2 ?_
      refine ow_mul (.inl (by decide)) ?_
      walk_at "go"
      refine ow_ix (.c 0 rfl) atB2 ?_
      walk_at "go"
      refine ow_mul (.inr ⟨by omega, by omega⟩) ?_
      walk_at "go"
      refine ow_cnd (by decide) ?_
      generalize ho : (y + 48271 * (z + 1)) * (39373 + (z + 1)) % 2147483647 = once
      refine wb_cons ?_
      refine ws_set 4 sc_take_l.nd n4 (by walk_at "loc") (by first | exact .inl rfl | exact .inr rfl) ?_
      walk_at "go"
      refine ow_ix (.c 0 rfl) atB2 ?_
      walk_at "go"
      refine ow_ix (.c 0 rfl) atB1 ?_
      walk_at "go"
      refine ow_cnd (C := CDiv) (by exact ⟨by decide, by decide⟩) ?_
      walk_at "go"
      refine ow_cnd (by decide) ?_
      walk_at "go"
      have q1 := Int.emod_nonneg once (show (40009 : Int) ≠ 0 by decide)
      have q2 := Int.emod_lt_of_pos once (show (0 : Int) < 40009 by decide)
      refine ow_mul (.inr ⟨by omega, by omega⟩) ?_
      walk_at "go"
      refine ow_cnd (by decide) ?_
      refine wb_one (ws_ret ?_)
      walk_at "go"
      refine ow_mul (.inr (by decide)) ?_
      walk_at "go"
      refine ow_cnd (by decide) ?_
      walk_at "go"
      refine ow_cnd (C := CDiv) (by exact ⟨by decide, by decide⟩) ?_
      walk_at "go"
      refine ow_cnd h0 ?_
      exact keep (hR _ _ (Int.emod_nonneg _ (by omega)) (Int.emod_lt_of_pos _ h0) ⟨x, y, z + 1, rfl, hx, hy, hy2, by omega, by omega⟩)
theorem ok_take_l {f : Addr} {fd : FuncData} (F : Fun K "_law_take" "_law_take" s_take_l f fd) (B : Bl mg) (c1 : Cal P w K mg base 1 "_law_take" T_take) : FnG P w K mg base CX0 2 f fd ["_law_box_here", "_law_below"] (spW K T_take9) := by
  refine fn_w F sc_take_l (by decide) (fun xs μ R h => ?_) fun cdv A outer s H E hr hgd xs μ R hT => ?_
  · obtain ⟨b, ds, n, m, rfl, _⟩ := h
    rfl
  · obtain ⟨b, ds, n, m, rfl, rfl, hb, h7, h1, hm, hR⟩ := hT
    have hb' := hb
    have h0 : 0 < n := by omega
    obtain ⟨x, y, z, rfl, hx, hy, hy2, hz, hz2⟩ := hb
    refine wb_names (N := ["_law_box_here", "_law_below", "_law_found", "_law_once", "_law_twice"]) rfl fun hn => ?_
    have n0 := hn 0 _ rfl
    have n1 := hn 1 _ rfl
    have n2 := hn 2 _ rfl
    have n3 := hn 3 _ rfl
    have n4 := hn 4 _ rfl
    refine wb_cons (ws_if ?_)
    walk_at "t"
    walk_at "go"
    refine ow_ix (.c 0 rfl) atB0 ?_
    walk_at "go"
    refine ⟨_, rfl, ?_⟩
    split
    · refine wb_cons ?_
      refine ws_set 2 sc_take_l.nd n2 (by walk_at "loc") (by first | exact .inl rfl | exact .inr rfl) ?_
      walk_at "go"
      refine ow_ix (.c 0 rfl) atB0 ?_
      walk_at "go"
      refine ow_cnd h0 ?_
      refine wb_cons ?_
      refine ws_asg [] ?_
      walk_at "go"
      refine ow_ix (.c 0 rfl) atB0 ?_
      walk_at "go"
      refine ow_cnd (C := CDiv) (by exact ⟨h0, by omega⟩) ?_
      refine wg_setL ?_
      walk_at "e"
      walk_at "e"
      refine ⟨b, _, 0, 0, rfl, rfl, rfl, (by show 0 < 3; decide), ?_⟩
      refine wb_one (ws_ret ?_)
      walk_at "e"
      exact keep (hR _ _ (Int.emod_nonneg _ (by omega)) (Int.emod_lt_of_pos _ h0) ⟨x / n, y, z, rfl, Int.ediv_nonneg hx (by omega), hy, hy2, hz, by omega⟩)
    · refine wb_nil ?_
      refine wb_cons (ws_if ?_)
      walk_at "t"
      walk_at "go"
      refine ow_cnd (C := CPow) (by exact ⟨by decide, by decide, by decide⟩) ?_
      refine ow_cmp ⟨_, rfl, ?_⟩
      rw [pow7, decide_eq_true (show (10000000 : Int) < n by omega)]
      rw [if_pos rfl]
      refine wb_one (ws_ret ?_)
      walk_at "e"
      walk_at "e"
      refine we_callB 0 c1 (by walk_at "room") rfl ?_
      refine wa_cons ?_
      walk_at "e"
      refine wa_one ?_
      walk_at "e"
      walk_at "e"
      walk_at "e"
      refine ow_cnd (C := CPow) (by exact ⟨by decide, by decide, by decide⟩) ?_
      rw [pow7]
      refine ⟨b, _, rfl, b, _, 10000000, m, rfl, rfl, hb', by decide, by decide, by omega, fun r1 ds1 hr0 hr1 hb1 => ⟨[], ds1, rfl, ?_⟩⟩
      walk_at "e"
      walk_at "e"
      walk_at "e"
      walk_at "e"
      refine ow_cnd (C := CPow) (by exact ⟨by decide, by decide, by decide⟩) ?_
      rw [pow7]
      refine we_callB 0 c1 (by walk_at "room") rfl ?_
      refine wa_cons ?_
      walk_at "e"
      refine wa_one ?_
      walk_at "e"
      walk_at "e"
      walk_at "e"
      walk_at "e"
      walk_at "e"
      walk_at "e"
      refine ow_cnd (C := CPow) (by exact ⟨by decide, by decide, by decide⟩) ?_
      rw [pow7]
      refine ow_cnd (C := CDiv) (by exact ⟨by decide, by decide⟩) ?_
      walk_at "e"
      refine ow_add ?_
      refine ⟨b, _, rfl, b, _, n / 10000000 + 1, m + 1, rfl, rfl, hb1, by omega, by omega, by omega, fun r2 ds2 hs0 hs1 hb2 => ⟨[], ds2, rfl, ?_⟩⟩
      refine ow_mul (.inr ⟨by omega, by omega⟩) ?_
      refine ow_add ?_
      walk_at "e"
      refine ow_cnd h0 ?_
      exact keep (hR _ _ (Int.emod_nonneg _ (by omega)) (Int.emod_lt_of_pos _ h0) (hb2.mono (by omega)))
theorem ok_same_s {f : Addr} {fd : FuncData} (F : Fun K "_law_same" "_law_same" s_same_l f fd) (B : Bl mg) (n : Nat) (c1 : ∀ j, n = j + 1 → Cal P w K mg base n "_law_same" (T_same j)) : FnG P w K mg base CX0 (n + 1) f fd ["_law_found", "_law_due"] (spW K (T_same n)) := by
  refine fn_w F sc_same_l (by decide) (fun xs μ R h => ?_) fun cdv A outer s H E hr hgd xs μ R hT => ?_
  · obtain ⟨d, rfl, _⟩ := h
    rfl
  · obtain ⟨d, rfl, hf, hR⟩ := hT
    refine wb_names (N := ["_law_found", "_law_due", "_law_a", "_law_b"]) rfl fun hn => ?_
    have n0 := hn 0 _ rfl
    have n1 := hn 1 _ rfl
    have n2 := hn 2 _ rfl
    have n3 := hn 3 _ rfl
    have leaf : (d = .none ∨ (∃ b, d = .bool b) ∨ ∃ x, d = .str x) → PyData.eqv d d = true → SeqAt.shaped d = true → WB (bX P w K mg base ["_law_found", "_law_due", "_law_a", "_law_b"] "_law_same" (defScope s_same_l) f cdv A outer s H E) (defBody s_same_l) (startD ["_law_found", "_law_due", "_law_a", "_law_b"] [.d d, .d d]) μ { nx := fun _ μ' => Keep μ' (R (.d .none)), rt := fun z μ' => Keep μ' (R z) } := fun hd he hs => by
      rcases hd with rfl | ⟨y, rfl⟩ | ⟨y, rfl⟩
      all_goals
        refine wb_cons (ws_if ?_)
        refine wt_val ?_
        refine we_isLiTu B rfl rfl rfl ?_
        walk_at "e"
        refine ⟨.d _, _, rfl, ?_⟩
        refine itF rfl ?_
        refine wb_nil ?_
        refine wb_cons (ws_if ?_)
        refine wt_w (ww_or ?_)
        walk_at "t"
        walk_at "go"
        refine ow_isN ⟨_, rfl, ?_⟩
        first
          | refine itT rfl ?_
          | refine itF rfl ?_
            refine ww_or1 ?_
            refine wt_val ?_
            refine we_isBoSt B rfl rfl rfl ?_
            walk_at "e"
            refine ⟨.d _, _, rfl, ?_⟩
            refine itT rfl ?_
        refine wb_one (ws_ret ?_)
        refine we_and ?_
        walk_at "eq"
        walk_at "go"
        refine ow_eq (.d _) (.d _) hs hs ⟨_, rfl, ?_⟩
        rw [he, if_pos rfl]
        refine we_and ?_
        walk_at "eq"
        refine we_isBo B rfl rfl ?_
        walk_at "e"
        refine ⟨.d _, ?_⟩
        refine we_isBo B rfl rfl ?_
        walk_at "e"
        refine ⟨.d _, ?_⟩
        refine ow_eq (.d _) (.d _) rfl rfl ⟨_, rfl, ?_⟩
        rw [eqv_bb, if_pos rfl]
        refine we_one ?_
        walk_at "eq"
        walk_at "eq"
        walk_at "go"
        refine ow_isN ?_
        walk_at "eq"
        walk_at "go"
        refine ow_isN ?_
        refine ow_eq (.d _) (.d _) rfl rfl ?_
        rw [eqv_bb]
        exact keep hR
    have seq : ∀ ds, (d = .list ds ∨ d = .tuple ds) → fits n d = true → WB (bX P w K mg base ["_law_found", "_law_due", "_law_a", "_law_b"] "_law_same" (defScope s_same_l) f cdv A outer s H E) (defBody s_same_l) (startD ["_law_found", "_law_due", "_law_a", "_law_b"] [.d d, .d d]) μ { nx := fun _ μ' => Keep μ' (R (.d .none)), rt := fun z μ' => Keep μ' (R z) } := fun ds hd hf => by
      have hn : ∃ j, n = j + 1 ∧ ds.length ≤ 1000 ∧ ∀ x ∈ ds, fits j x = true := by
        cases n with
        | zero => rcases hd with rfl | rfl <;> simp [fits] at hf
        | succ j => rcases hd with rfl | rfl <;> simp [fits] at hf <;> exact ⟨j, rfl, hf⟩
      obtain ⟨j, hj, hlen, hall⟩ := hn
      have c2 := c1 j hj
      refine wb_cons (ws_if ?_)
      refine wt_val ?_
      refine we_isLiTu B rfl rfl rfl ?_
      walk_at "e"
      refine ⟨.d _, _, rfl, ?_⟩
      have e1 : (isLi (.d d) || isTu (.d d)) = true := by rcases hd with rfl | rfl <;> rfl
      rw [e1, if_pos rfl]
      refine wb_cons (ws_if ?_)
      refine wt_w (ww_or ?_)
      walk_at "t"
      refine we_isLi B rfl rfl ?_
      walk_at "e"
      refine ⟨.d _, ?_⟩
      refine we_isLi B rfl rfl ?_
      walk_at "e"
      refine ⟨.d _, ?_⟩
      refine ow_ne (.d _) (.d _) rfl rfl ⟨_, rfl, ?_⟩
      rw [eqv_bb, if_neg (by decide)]
      refine ww_or1 ?_
      walk_at "t"
      refine we_isTu B rfl rfl ?_
      walk_at "e"
      refine ⟨.d _, ?_⟩
      refine we_isTu B rfl rfl ?_
      walk_at "e"
      refine ⟨.d _, ?_⟩
      refine ow_ne (.d _) (.d _) rfl rfl ⟨_, rfl, ?_⟩
      rw [eqv_bb, if_neg (by decide)]
      refine wb_nil ?_
      have ct : Ct μ (.d d) ds := ct_sq hd
      refine wb_one (ws_ret ?_)
      refine we_and ?_
      walk_at "eq"
      refine we_len B rfl ?_
      walk_at "e"
      refine ⟨ds, ct, ?_⟩
      refine we_len B rfl ?_
      walk_at "e"
      refine ⟨ds, ct, ?_⟩
      refine ow_eq (.d _) (.d _) rfl rfl ⟨_, rfl, ?_⟩
      rw [eqv_ii, if_pos rfl]
      refine we_one ?_
      refine we_all B rfl rfl ?_
      refine we_lcW [("_law_a", 2), ("_law_b", 3)] rfl sc_same_l.nd (blkOk_by (N := ["_law_found", "_law_due", "_law_a", "_law_b"]) (sc := defScope s_same_l) (by decide +kernel)) (lcW (fun d => .tuple [d, d]) (fun _ => true) (fun _ => .bool true) ?_)
      refine wi_zip rfl B.zip ?_
      walk_at "go"
      refine ⟨ds, ds, ?_, ds, zip_self ds, by omega, fun x hx => ?_, fun q => ?_⟩
      · rcases hd with rfl | rfl
        · exact .inl ⟨_, _, rfl, rfl, rfl⟩
        · exact .inr ⟨_, _, rfl, rfl, rfl⟩
      · intro s1 H1 C cl fp
        refine wg_tupW (ds := [x, x]) rfl ?_
        refine wgs_cons (wg_name 2 sc_same_l.nd n2 (by walk_at "loc") (by first | exact .inl rfl | exact .inr rfl) (by decide) ?_)
        refine wgs_cons (wg_name 3 sc_same_l.nd n3 (by walk_at "loc") (by first | exact .inl rfl | exact .inr rfl) (by decide) ?_)
        refine wgs_nil ?_
        intro s1 H1 C cl fp
        refine ⟨rfl, ?_⟩
        rw [if_pos rfl]
        intro s1 H1 C cl fp
        refine we_callP c2 (by rw [hj] at hr ⊢; exact hr) rfl ?_
        walk_at "go"
        exact ⟨x, rfl, hall x hx, rfl, rfl⟩
      · rw [filt_all]
        refine ⟨ds.map fun _ => true, ?_, (fun _ z => by cases z), ?_⟩
        · have e2 : (ds.map fun _ => PyData.bool true) = blsD (ds.map fun _ => true) := by simp [blsD]
          rw [e2]
          exact .c 0 rfl
        · rw [all_true]
          exact keep_drop (keep hR)
    cases d with
    | none => exact leaf (.inl rfl) eqv_nn rfl
    | bool b => exact leaf (.inr (.inl ⟨b, rfl⟩)) (eqv_bb b) rfl
    | str x => exact leaf (.inr (.inr ⟨x, rfl⟩)) (eqv_ss x) (by unfold fits at hf; exact hf)
    | dict kvs => simp [fits] at hf
    | list ds => exact seq ds (.inl rfl) hf
    | tuple ds => exact seq ds (.inr rfl) hf
    | int i =>
      refine wb_cons (ws_if ?_)
      refine wt_val ?_
      refine we_isLiTu B rfl rfl rfl ?_
      walk_at "e"
      refine ⟨.d _, _, rfl, ?_⟩
      refine itF rfl ?_
      refine wb_nil ?_
      refine wb_cons (ws_if ?_)
      refine wt_w (ww_or ?_)
      walk_at "t"
      walk_at "go"
      refine ow_isN ⟨_, rfl, ?_⟩
      refine itF rfl ?_
      refine ww_or1 ?_
      refine wt_val ?_
      refine we_isBoSt B rfl rfl rfl ?_
      walk_at "e"
      refine ⟨.d _, _, rfl, ?_⟩
      refine itF rfl ?_
      refine wb_nil ?_
      refine wb_one (ws_ret ?_)
      refine we_and ?_
      refine we_isIn B rfl rfl ?_
      walk_at "e"
      refine ⟨.d _, _, rfl, ?_⟩
      refine itT rfl ?_
      refine we_and ?_
      refine we_not ?_
      refine we_isBo B rfl rfl ?_
      walk_at "e"
      refine ⟨.d _, _, rfl, _, rfl, ?_⟩
      refine itT rfl ?_
      refine we_one ?_
      walk_at "eq"
      walk_at "go"
      refine ow_eq (.d _) (.d _) rfl rfl ?_
      rw [eqv_ii]
      exact keep hR
theorem ok_same_l {f : Addr} {fd : FuncData} (F : Fun K "_law_same" "_law_same" s_same_l f fd) (B : Bl mg) (g : mg "_law_same" = some (.ref f)) (b : Binds K fd ["_law_found", "_law_due"] []) : ∀ n, FnG P w K mg base CX0 (n + 1) f fd ["_law_found", "_law_due"] (spW K (T_same n))
  | 0 => ok_same_s F B 0 fun j e => by cases e
  | n + 1 => ok_same_s F B (n + 1) fun j e => by
    cases e
    exact cal_of (ok_same_l F B g b n) g F.kp b
theorem ok_flags_l {f : Addr} {fd : FuncData} (F : Fun K "_law_flags" "_law_flags" s_flags_l f fd) (B : Bl mg) (g_BadLine : mg "BadLine" = some (.ref c_BadLine)) (g_BadText : mg "BadText" = some (.ref c_BadText)) (g_Blocked : mg "Blocked" = some (.ref c_Blocked)) (g_Contradiction : mg "Contradiction" = some (.ref c_Contradiction)) (g_Early : mg "Early" = some (.ref c_Early)) (g_Full : mg "Full" = some (.ref c_Full)) (g_Here : mg "Here" = some (.ref c_Here)) (g_Misfit : mg "Misfit" = some (.ref c_Misfit)) (g_NoInvitation : mg "NoInvitation" = some (.ref c_NoInvitation)) (g_NoNumber : mg "NoNumber" = some (.ref c_NoNumber)) (g_NoOperation : mg "NoOperation" = some (.ref c_NoOperation)) (g_NoPerson : mg "NoPerson" = some (.ref c_NoPerson)) (g_NoPlace : mg "NoPlace" = some (.ref c_NoPlace)) (g_Stuck : mg "Stuck" = some (.ref c_Stuck)) (g_TooMany : mg "TooMany" = some (.ref c_TooMany)) : FnG P w K mg base CX0 1 f fd ["_law_made"] (spW K (T_flags15 K [c_BadLine, c_BadText, c_Blocked, c_Contradiction, c_Early, c_Full, c_Here, c_Misfit, c_NoInvitation, c_NoNumber, c_NoOperation, c_NoPerson, c_NoPlace, c_Stuck, c_TooMany])) := by
  refine fn_w F sc_flags_l (by decide) (fun xs μ R h => ?_) fun cdv A outer s H E hr hgd xs μ R hT => ?_
  · obtain ⟨a, C, f, x, N, bs, rfl, _⟩ := h
    rfl
  · obtain ⟨a, C, f, x, N, bs, rfl, hx, ⟨hl, hk⟩, hR⟩ := hT
    refine wb_names (N := ["_law_made", "_law_flags_here"]) rfl fun hn => ?_
    have n0 := hn 0 _ rfl
    have n1 := hn 1 _ rfl
    obtain ⟨b0, b1, b2, b3, b4, b5, b6, b7, b8, b9, b10, b11, b12, b13, b14, rfl⟩ := len15 hl
    refine wb_cons ?_
    refine ws_set 1 sc_flags_l.nd n1 (by walk_at "loc") (by first | exact .inl rfl | exact .inr rfl) ?_
    refine we_fz ?_
    refine we_lst ?_
    refine wa_cons ?_
    refine we_isX B rfl (.own rfl g_BadLine (by decide)) ?_
    walk_at "e"
    refine ⟨_, _, _, _, _, b0, rfl, hx, hk 0 c_BadLine b0 rfl rfl, ?_⟩
    refine wa_cons ?_
    refine we_isX B rfl (.own rfl g_BadText (by decide)) ?_
    walk_at "e"
    refine ⟨_, _, _, _, _, b1, rfl, hx, hk 1 c_BadText b1 rfl rfl, ?_⟩
    refine wa_one ?_
    refine we_isX B rfl (.own rfl g_Blocked (by decide)) ?_
    walk_at "e"
    refine ⟨_, _, _, _, _, b2, rfl, hx, hk 2 c_Blocked b2 rfl rfl, ?_⟩
    refine ⟨[(.bool b0), (.bool b1), (.bool b2)], rfl, by simp, fun p1 => ⟨p1, _, _, rfl, rfl, by walk_at "pl", ?_⟩⟩
    refine wb_cons ?_
    refine ws_set 1 sc_flags_l.nd n1 (by walk_at "loc") (by first | exact .inl rfl | exact .inr rfl) ?_
    refine we_fz ?_
    walk_at "e"
    walk_at "e"
    refine we_fz ?_
    refine we_lst ?_
    refine wa_cons ?_
    refine we_isX B rfl (.own rfl g_Contradiction (by decide)) ?_
    walk_at "e"
    refine ⟨_, _, _, _, _, b3, rfl, hx, hk 3 c_Contradiction b3 rfl rfl, ?_⟩
    refine wa_cons ?_
    refine we_isX B rfl (.own rfl g_Early (by decide)) ?_
    walk_at "e"
    refine ⟨_, _, _, _, _, b4, rfl, hx, hk 4 c_Early b4 rfl rfl, ?_⟩
    refine wa_one ?_
    refine we_isX B rfl (.own rfl g_Full (by decide)) ?_
    walk_at "e"
    refine ⟨_, _, _, _, _, b5, rfl, hx, hk 5 c_Full b5 rfl rfl, ?_⟩
    refine ⟨[(.bool b3), (.bool b4), (.bool b5)], rfl, by simp, fun p2 => ⟨p2, _, _, rfl, rfl, by walk_at "pl", ?_⟩⟩
    refine ow_catL (by simp) ?_
    refine fun p3 => ⟨p3, _, _, rfl, rfl, by walk_at "pl", ?_⟩
    refine wb_cons ?_
    refine ws_set 1 sc_flags_l.nd n1 (by walk_at "loc") (by first | exact .inl rfl | exact .inr rfl) ?_
    refine we_fz ?_
    walk_at "e"
    walk_at "e"
    refine we_fz ?_
    refine we_lst ?_
    refine wa_cons ?_
    refine we_isX B rfl (.own rfl g_Here (by decide)) ?_
    walk_at "e"
    refine ⟨_, _, _, _, _, b6, rfl, hx, hk 6 c_Here b6 rfl rfl, ?_⟩
    refine wa_cons ?_
    refine we_isX B rfl (.own rfl g_Misfit (by decide)) ?_
    walk_at "e"
    refine ⟨_, _, _, _, _, b7, rfl, hx, hk 7 c_Misfit b7 rfl rfl, ?_⟩
    refine wa_one ?_
    refine we_isX B rfl (.own rfl g_NoInvitation (by decide)) ?_
    walk_at "e"
    refine ⟨_, _, _, _, _, b8, rfl, hx, hk 8 c_NoInvitation b8 rfl rfl, ?_⟩
    refine ⟨[(.bool b6), (.bool b7), (.bool b8)], rfl, by simp, fun p4 => ⟨p4, _, _, rfl, rfl, by walk_at "pl", ?_⟩⟩
    refine ow_catL (by simp) ?_
    refine fun p5 => ⟨p5, _, _, rfl, rfl, by walk_at "pl", ?_⟩
    refine wb_cons ?_
    refine ws_set 1 sc_flags_l.nd n1 (by walk_at "loc") (by first | exact .inl rfl | exact .inr rfl) ?_
    refine we_fz ?_
    walk_at "e"
    walk_at "e"
    refine we_fz ?_
    refine we_lst ?_
    refine wa_cons ?_
    refine we_isX B rfl (.own rfl g_NoNumber (by decide)) ?_
    walk_at "e"
    refine ⟨_, _, _, _, _, b9, rfl, hx, hk 9 c_NoNumber b9 rfl rfl, ?_⟩
    refine wa_cons ?_
    refine we_isX B rfl (.own rfl g_NoOperation (by decide)) ?_
    walk_at "e"
    refine ⟨_, _, _, _, _, b10, rfl, hx, hk 10 c_NoOperation b10 rfl rfl, ?_⟩
    refine wa_one ?_
    refine we_isX B rfl (.own rfl g_NoPerson (by decide)) ?_
    walk_at "e"
    refine ⟨_, _, _, _, _, b11, rfl, hx, hk 11 c_NoPerson b11 rfl rfl, ?_⟩
    refine ⟨[(.bool b9), (.bool b10), (.bool b11)], rfl, by simp, fun p6 => ⟨p6, _, _, rfl, rfl, by walk_at "pl", ?_⟩⟩
    refine ow_catL (by simp) ?_
    refine fun p7 => ⟨p7, _, _, rfl, rfl, by walk_at "pl", ?_⟩
    refine wb_one (ws_ret ?_)
    walk_at "e"
    walk_at "e"
    refine we_fz ?_
    refine we_lst ?_
    refine wa_cons ?_
    refine we_isX B rfl (.own rfl g_NoPlace (by decide)) ?_
    walk_at "e"
    refine ⟨_, _, _, _, _, b12, rfl, hx, hk 12 c_NoPlace b12 rfl rfl, ?_⟩
    refine wa_cons ?_
    refine we_isX B rfl (.own rfl g_Stuck (by decide)) ?_
    walk_at "e"
    refine ⟨_, _, _, _, _, b13, rfl, hx, hk 13 c_Stuck b13 rfl rfl, ?_⟩
    refine wa_one ?_
    refine we_isX B rfl (.own rfl g_TooMany (by decide)) ?_
    walk_at "e"
    refine ⟨_, _, _, _, _, b14, rfl, hx, hk 14 c_TooMany b14 rfl rfl, ?_⟩
    refine ⟨[(.bool b12), (.bool b13), (.bool b14)], rfl, by simp, fun p8 => ⟨p8, _, _, rfl, rfl, by walk_at "pl", ?_⟩⟩
    refine ow_catL (by simp) ?_
    refine fun p9 => ?_
    exact keep (hR _)
theorem ok_one_right_l {f : Addr} {fd : FuncData} (F : Fun K "_law_one_right" "_law_one_right" s_one_right_l f fd) (B : Bl mg) (c_law_flags : Cal P w K mg base 1 "_law_flags" (T_flags15 K [c_BadLine, c_BadText, c_Blocked, c_Contradiction, c_Early, c_Full, c_Here, c_Misfit, c_NoInvitation, c_NoNumber, c_NoOperation, c_NoPerson, c_NoPlace, c_Stuck, c_TooMany])) (z_ValueError : mg "ValueError" = none) (z_LookupError : mg "LookupError" = none) (z_RuntimeError : mg "RuntimeError" = none) (z_OverflowError : mg "OverflowError" = none) (z_NotImplementedError : mg "NotImplementedError" = none) (z_KeyError : mg "KeyError" = none) (z_IndexError : mg "IndexError" = none) : FnG P w K mg base CX0 2 f fd ["_law_made", "_law_at"] (spW K (T_one15 K [c_BadLine, c_BadText, c_Blocked, c_Contradiction, c_Early, c_Full, c_Here, c_Misfit, c_NoInvitation, c_NoNumber, c_NoOperation, c_NoPerson, c_NoPlace, c_Stuck, c_TooMany])) := by
  refine fn_w F sc_one_right_l (by decide) (fun xs μ R h => ?_) fun cdv A outer s H E hr hgd xs μ R hT => ?_
  · obtain ⟨a, C, f, x, k, rfl, _⟩ := h
    rfl
  · obtain ⟨a, C, f, x, k, rfl, ⟨N, bs, hx, hf, h1, hN⟩, hR⟩ := hT
    refine wb_names (N := ["_law_made", "_law_at", "_law_kinds", "_law_due"]) rfl fun hn => ?_
    have n0 := hn 0 _ rfl
    have n1 := hn 1 _ rfl
    have n2 := hn 2 _ rfl
    have n3 := hn 3 _ rfl
    rcases hN with ⟨rfl, rfl⟩ | ⟨rfl, rfl⟩ | ⟨rfl, rfl⟩ | ⟨rfl, rfl⟩
    · skip
      refine wb_cons (ws_if ?_)
      refine wt_cmp (op := .NotEq) (op_neD (Room.units (k := 0) (by with_unfolding_all exact Room.mono (by assumption) (Nat.zero_le _)))) (nomark _) ?_
      refine we_countB ?_
      refine we_fz ?_
      refine we_callP c_law_flags (by walk_at "room") rfl ?_
      refine wa_one ?_
      walk_at "e"
      refine ⟨a, C, f, x, _, bs, rfl, hx, hf, fun p1 => ⟨p1, _, _, rfl, rfl, plS_map fun _ => rfl, ?_⟩⟩
      refine ⟨bs, rfl, ?_⟩
      walk_at "e"
      refine ⟨_, rfl, ?_⟩
      rw [count15 h1]
      walk_at "e"
      refine ow_ne (.d _) (.d _) rfl rfl ⟨_, rfl, ?_⟩
      refine itF (by decide) ?_
      refine wb_nil ?_
      refine wb_cons ?_
      refine ws_set 2 sc_one_right_l.nd n2 (by walk_at "loc") (by first | exact .inl rfl | exact .inr rfl) ?_
      refine we_lst ?_
      refine wa_cons ?_
      refine we_isX B rfl (.blt rfl z_ValueError rfl (by decide) (by decide)) ?_
      walk_at "e"
      refine ⟨_, _, _, _, _, true, rfl, hx, ((kit_blt hx (by decide) rfl).trans (congrArg some (by decide : ("ValueError" == "ValueError") = true))), ?_⟩
      refine wa_cons ?_
      refine we_isX B rfl (.blt rfl z_LookupError rfl (by decide) (by decide)) ?_
      walk_at "e"
      refine ⟨_, _, _, _, _, false, rfl, hx, ((kit_blt hx (by decide) rfl).trans (congrArg some (by decide : ("LookupError" == "ValueError") = false))), ?_⟩
      refine wa_one ?_
      refine we_isX B rfl (.blt rfl z_RuntimeError rfl (by decide) (by decide)) ?_
      walk_at "e"
      refine ⟨_, _, _, _, _, false, rfl, hx, ((kit_blt hx (by decide) rfl).trans (congrArg some (by decide : ("RuntimeError" == "ValueError") = false))), ?_⟩
      refine ⟨[(.bool true), (.bool false), (.bool false)], rfl, by simp, fun p1 => ?_⟩
      refine wb_cons (ws_expr ?_)
      refine we_append ?_
      walk_at "e"
      refine ⟨p1, _, ⟨0, rfl⟩, rfl, ?_⟩
      refine we_isX B rfl (.blt rfl z_OverflowError rfl (by decide) (by decide)) ?_
      walk_at "e"
      refine ⟨_, _, _, _, _, false, rfl, hx, ((kit_blt hx (by decide) rfl).trans (congrArg some (by decide : ("OverflowError" == "ValueError") = false))), ?_⟩
      refine ⟨_, _, 0, rfl, rfl, by walk_at "so", ?_⟩
      refine wb_cons ?_
      refine ws_set 3 sc_one_right_l.nd n3 (by walk_at "loc") (by first | exact .inl rfl | exact .inr rfl) ?_
      walk_at "e"
      refine we_fz ?_
      refine we_lst ?_
      refine wa_one ?_
      walk_at "e"
      refine ⟨[(.bool false)], rfl, by simp, fun p2 => ⟨p2, _, _, rfl, rfl, by walk_at "pl", ?_⟩⟩
      walk_at "e"
      refine ow_repL (by omega) (by omega) (by simp) fun p3 => ?_
      skip
      refine wb_cons ?_
      refine ws_asg [] ?_
      walk_at "e"
      refine wg_setL ?_
      walk_at "e"
      walk_at "e"
      refine ⟨_, _, 0, 0, rfl, rfl, rfl, (by decide), ?_⟩
      refine wb_one (ws_ret ?_)
      refine we_and ?_
      refine we_cmp (op := .Eq) (op_eqD (Room.units (k := 0) (by with_unfolding_all exact Room.mono (by assumption) (Nat.zero_le _)))) (nomark _) ?_
      walk_at "e"
      walk_at "e"
      refine ow_eq (.c 1 rfl) (.c 0 rfl) (by decide) (by decide) ?_
      refine ⟨_, rfl, itT (by decide) ?_⟩
      refine we_one ?_
      refine we_not ?_
      refine we_isXs B rfl (.cons (.blt rfl z_IndexError rfl (by decide) (by decide)) rfl (.cons (.blt rfl z_KeyError rfl (by decide) (by decide)) rfl (.cons (.blt rfl z_NotImplementedError rfl (by decide) (by decide)) rfl .nil))) (by simp) ?_
      walk_at "e"
      refine ⟨_, _, _, _, _, false, rfl, hx, (kit_cons ((kit_blt hx (by decide) rfl).trans (congrArg some (by decide : ("IndexError" == "ValueError") = false))) (kit_cons ((kit_blt hx (by decide) rfl).trans (congrArg some (by decide : ("KeyError" == "ValueError") = false))) (kit_cons ((kit_blt hx (by decide) rfl).trans (congrArg some (by decide : ("NotImplementedError" == "ValueError") = false))) kit_nil))), ?_⟩
      refine ⟨_, rfl, ?_⟩
      exact keep_drop (keep_drop (keep hR))
    · skip
      refine wb_cons (ws_if ?_)
      refine wt_cmp (op := .NotEq) (op_neD (Room.units (k := 0) (by with_unfolding_all exact Room.mono (by assumption) (Nat.zero_le _)))) (nomark _) ?_
      refine we_countB ?_
      refine we_fz ?_
      refine we_callP c_law_flags (by walk_at "room") rfl ?_
      refine wa_one ?_
      walk_at "e"
      refine ⟨a, C, f, x, _, bs, rfl, hx, hf, fun p1 => ⟨p1, _, _, rfl, rfl, plS_map fun _ => rfl, ?_⟩⟩
      refine ⟨bs, rfl, ?_⟩
      walk_at "e"
      refine ⟨_, rfl, ?_⟩
      rw [count15 h1]
      walk_at "e"
      refine ow_ne (.d _) (.d _) rfl rfl ⟨_, rfl, ?_⟩
      refine itF (by decide) ?_
      refine wb_nil ?_
      refine wb_cons ?_
      refine ws_set 2 sc_one_right_l.nd n2 (by walk_at "loc") (by first | exact .inl rfl | exact .inr rfl) ?_
      refine we_lst ?_
      refine wa_cons ?_
      refine we_isX B rfl (.blt rfl z_ValueError rfl (by decide) (by decide)) ?_
      walk_at "e"
      refine ⟨_, _, _, _, _, false, rfl, hx, ((kit_blt hx (by decide) rfl).trans (congrArg some (by decide : ("ValueError" == "LookupError") = false))), ?_⟩
      refine wa_cons ?_
      refine we_isX B rfl (.blt rfl z_LookupError rfl (by decide) (by decide)) ?_
      walk_at "e"
      refine ⟨_, _, _, _, _, true, rfl, hx, ((kit_blt hx (by decide) rfl).trans (congrArg some (by decide : ("LookupError" == "LookupError") = true))), ?_⟩
      refine wa_one ?_
      refine we_isX B rfl (.blt rfl z_RuntimeError rfl (by decide) (by decide)) ?_
      walk_at "e"
      refine ⟨_, _, _, _, _, false, rfl, hx, ((kit_blt hx (by decide) rfl).trans (congrArg some (by decide : ("RuntimeError" == "LookupError") = false))), ?_⟩
      refine ⟨[(.bool false), (.bool true), (.bool false)], rfl, by simp, fun p1 => ?_⟩
      refine wb_cons (ws_expr ?_)
      refine we_append ?_
      walk_at "e"
      refine ⟨p1, _, ⟨0, rfl⟩, rfl, ?_⟩
      refine we_isX B rfl (.blt rfl z_OverflowError rfl (by decide) (by decide)) ?_
      walk_at "e"
      refine ⟨_, _, _, _, _, false, rfl, hx, ((kit_blt hx (by decide) rfl).trans (congrArg some (by decide : ("OverflowError" == "LookupError") = false))), ?_⟩
      refine ⟨_, _, 0, rfl, rfl, by walk_at "so", ?_⟩
      refine wb_cons ?_
      refine ws_set 3 sc_one_right_l.nd n3 (by walk_at "loc") (by first | exact .inl rfl | exact .inr rfl) ?_
      walk_at "e"
      refine we_fz ?_
      refine we_lst ?_
      refine wa_one ?_
      walk_at "e"
      refine ⟨[(.bool false)], rfl, by simp, fun p2 => ⟨p2, _, _, rfl, rfl, by walk_at "pl", ?_⟩⟩
      walk_at "e"
      refine ow_repL (by omega) (by omega) (by simp) fun p3 => ?_
      skip
      refine wb_cons ?_
      refine ws_asg [] ?_
      walk_at "e"
      refine wg_setL ?_
      walk_at "e"
      walk_at "e"
      refine ⟨_, _, 1, 0, rfl, rfl, rfl, (by decide), ?_⟩
      refine wb_one (ws_ret ?_)
      refine we_and ?_
      refine we_cmp (op := .Eq) (op_eqD (Room.units (k := 0) (by with_unfolding_all exact Room.mono (by assumption) (Nat.zero_le _)))) (nomark _) ?_
      walk_at "e"
      walk_at "e"
      refine ow_eq (.c 1 rfl) (.c 0 rfl) (by decide) (by decide) ?_
      refine ⟨_, rfl, itT (by decide) ?_⟩
      refine we_one ?_
      refine we_not ?_
      refine we_isXs B rfl (.cons (.blt rfl z_IndexError rfl (by decide) (by decide)) rfl (.cons (.blt rfl z_KeyError rfl (by decide) (by decide)) rfl (.cons (.blt rfl z_NotImplementedError rfl (by decide) (by decide)) rfl .nil))) (by simp) ?_
      walk_at "e"
      refine ⟨_, _, _, _, _, false, rfl, hx, (kit_cons ((kit_blt hx (by decide) rfl).trans (congrArg some (by decide : ("IndexError" == "LookupError") = false))) (kit_cons ((kit_blt hx (by decide) rfl).trans (congrArg some (by decide : ("KeyError" == "LookupError") = false))) (kit_cons ((kit_blt hx (by decide) rfl).trans (congrArg some (by decide : ("NotImplementedError" == "LookupError") = false))) kit_nil))), ?_⟩
      refine ⟨_, rfl, ?_⟩
      exact keep_drop (keep_drop (keep hR))
    · skip
      refine wb_cons (ws_if ?_)
      refine wt_cmp (op := .NotEq) (op_neD (Room.units (k := 0) (by with_unfolding_all exact Room.mono (by assumption) (Nat.zero_le _)))) (nomark _) ?_
      refine we_countB ?_
      refine we_fz ?_
      refine we_callP c_law_flags (by walk_at "room") rfl ?_
      refine wa_one ?_
      walk_at "e"
      refine ⟨a, C, f, x, _, bs, rfl, hx, hf, fun p1 => ⟨p1, _, _, rfl, rfl, plS_map fun _ => rfl, ?_⟩⟩
      refine ⟨bs, rfl, ?_⟩
      walk_at "e"
      refine ⟨_, rfl, ?_⟩
      rw [count15 h1]
      walk_at "e"
      refine ow_ne (.d _) (.d _) rfl rfl ⟨_, rfl, ?_⟩
      refine itF (by decide) ?_
      refine wb_nil ?_
      refine wb_cons ?_
      refine ws_set 2 sc_one_right_l.nd n2 (by walk_at "loc") (by first | exact .inl rfl | exact .inr rfl) ?_
      refine we_lst ?_
      refine wa_cons ?_
      refine we_isX B rfl (.blt rfl z_ValueError rfl (by decide) (by decide)) ?_
      walk_at "e"
      refine ⟨_, _, _, _, _, false, rfl, hx, ((kit_blt hx (by decide) rfl).trans (congrArg some (by decide : ("ValueError" == "RuntimeError") = false))), ?_⟩
      refine wa_cons ?_
      refine we_isX B rfl (.blt rfl z_LookupError rfl (by decide) (by decide)) ?_
      walk_at "e"
      refine ⟨_, _, _, _, _, false, rfl, hx, ((kit_blt hx (by decide) rfl).trans (congrArg some (by decide : ("LookupError" == "RuntimeError") = false))), ?_⟩
      refine wa_one ?_
      refine we_isX B rfl (.blt rfl z_RuntimeError rfl (by decide) (by decide)) ?_
      walk_at "e"
      refine ⟨_, _, _, _, _, true, rfl, hx, ((kit_blt hx (by decide) rfl).trans (congrArg some (by decide : ("RuntimeError" == "RuntimeError") = true))), ?_⟩
      refine ⟨[(.bool false), (.bool false), (.bool true)], rfl, by simp, fun p1 => ?_⟩
      refine wb_cons (ws_expr ?_)
      refine we_append ?_
      walk_at "e"
      refine ⟨p1, _, ⟨0, rfl⟩, rfl, ?_⟩
      refine we_isX B rfl (.blt rfl z_OverflowError rfl (by decide) (by decide)) ?_
      walk_at "e"
      refine ⟨_, _, _, _, _, false, rfl, hx, ((kit_blt hx (by decide) rfl).trans (congrArg some (by decide : ("OverflowError" == "RuntimeError") = false))), ?_⟩
      refine ⟨_, _, 0, rfl, rfl, by walk_at "so", ?_⟩
      refine wb_cons ?_
      refine ws_set 3 sc_one_right_l.nd n3 (by walk_at "loc") (by first | exact .inl rfl | exact .inr rfl) ?_
      walk_at "e"
      refine we_fz ?_
      refine we_lst ?_
      refine wa_one ?_
      walk_at "e"
      refine ⟨[(.bool false)], rfl, by simp, fun p2 => ⟨p2, _, _, rfl, rfl, by walk_at "pl", ?_⟩⟩
      walk_at "e"
      refine ow_repL (by omega) (by omega) (by simp) fun p3 => ?_
      skip
      refine wb_cons ?_
      refine ws_asg [] ?_
      walk_at "e"
      refine wg_setL ?_
      walk_at "e"
      walk_at "e"
      refine ⟨_, _, 2, 0, rfl, rfl, rfl, (by decide), ?_⟩
      refine wb_one (ws_ret ?_)
      refine we_and ?_
      refine we_cmp (op := .Eq) (op_eqD (Room.units (k := 0) (by with_unfolding_all exact Room.mono (by assumption) (Nat.zero_le _)))) (nomark _) ?_
      walk_at "e"
      walk_at "e"
      refine ow_eq (.c 1 rfl) (.c 0 rfl) (by decide) (by decide) ?_
      refine ⟨_, rfl, itT (by decide) ?_⟩
      refine we_one ?_
      refine we_not ?_
      refine we_isXs B rfl (.cons (.blt rfl z_IndexError rfl (by decide) (by decide)) rfl (.cons (.blt rfl z_KeyError rfl (by decide) (by decide)) rfl (.cons (.blt rfl z_NotImplementedError rfl (by decide) (by decide)) rfl .nil))) (by simp) ?_
      walk_at "e"
      refine ⟨_, _, _, _, _, false, rfl, hx, (kit_cons ((kit_blt hx (by decide) rfl).trans (congrArg some (by decide : ("IndexError" == "RuntimeError") = false))) (kit_cons ((kit_blt hx (by decide) rfl).trans (congrArg some (by decide : ("KeyError" == "RuntimeError") = false))) (kit_cons ((kit_blt hx (by decide) rfl).trans (congrArg some (by decide : ("NotImplementedError" == "RuntimeError") = false))) kit_nil))), ?_⟩
      refine ⟨_, rfl, ?_⟩
      exact keep_drop (keep_drop (keep hR))
    · skip
      refine wb_cons (ws_if ?_)
      refine wt_cmp (op := .NotEq) (op_neD (Room.units (k := 0) (by with_unfolding_all exact Room.mono (by assumption) (Nat.zero_le _)))) (nomark _) ?_
      refine we_countB ?_
      refine we_fz ?_
      refine we_callP c_law_flags (by walk_at "room") rfl ?_
      refine wa_one ?_
      walk_at "e"
      refine ⟨a, C, f, x, _, bs, rfl, hx, hf, fun p1 => ⟨p1, _, _, rfl, rfl, plS_map fun _ => rfl, ?_⟩⟩
      refine ⟨bs, rfl, ?_⟩
      walk_at "e"
      refine ⟨_, rfl, ?_⟩
      rw [count15 h1]
      walk_at "e"
      refine ow_ne (.d _) (.d _) rfl rfl ⟨_, rfl, ?_⟩
      refine itF (by decide) ?_
      refine wb_nil ?_
      refine wb_cons ?_
      refine ws_set 2 sc_one_right_l.nd n2 (by walk_at "loc") (by first | exact .inl rfl | exact .inr rfl) ?_
      refine we_lst ?_
      refine wa_cons ?_
      refine we_isX B rfl (.blt rfl z_ValueError rfl (by decide) (by decide)) ?_
      walk_at "e"
      refine ⟨_, _, _, _, _, false, rfl, hx, ((kit_blt hx (by decide) rfl).trans (congrArg some (by decide : ("ValueError" == "OverflowError") = false))), ?_⟩
      refine wa_cons ?_
      refine we_isX B rfl (.blt rfl z_LookupError rfl (by decide) (by decide)) ?_
      walk_at "e"
      refine ⟨_, _, _, _, _, false, rfl, hx, ((kit_blt hx (by decide) rfl).trans (congrArg some (by decide : ("LookupError" == "OverflowError") = false))), ?_⟩
      refine wa_one ?_
      refine we_isX B rfl (.blt rfl z_RuntimeError rfl (by decide) (by decide)) ?_
      walk_at "e"
      refine ⟨_, _, _, _, _, false, rfl, hx, ((kit_blt hx (by decide) rfl).trans (congrArg some (by decide : ("RuntimeError" == "OverflowError") = false))), ?_⟩
      refine ⟨[(.bool false), (.bool false), (.bool false)], rfl, by simp, fun p1 => ?_⟩
      refine wb_cons (ws_expr ?_)
      refine we_append ?_
      walk_at "e"
      refine ⟨p1, _, ⟨0, rfl⟩, rfl, ?_⟩
      refine we_isX B rfl (.blt rfl z_OverflowError rfl (by decide) (by decide)) ?_
      walk_at "e"
      refine ⟨_, _, _, _, _, true, rfl, hx, ((kit_blt hx (by decide) rfl).trans (congrArg some (by decide : ("OverflowError" == "OverflowError") = true))), ?_⟩
      refine ⟨_, _, 0, rfl, rfl, by walk_at "so", ?_⟩
      refine wb_cons ?_
      refine ws_set 3 sc_one_right_l.nd n3 (by walk_at "loc") (by first | exact .inl rfl | exact .inr rfl) ?_
      walk_at "e"
      refine we_fz ?_
      refine we_lst ?_
      refine wa_one ?_
      walk_at "e"
      refine ⟨[(.bool false)], rfl, by simp, fun p2 => ⟨p2, _, _, rfl, rfl, by walk_at "pl", ?_⟩⟩
      walk_at "e"
      refine ow_repL (by omega) (by omega) (by simp) fun p3 => ?_
      skip
      refine wb_cons ?_
      refine ws_asg [] ?_
      walk_at "e"
      refine wg_setL ?_
      walk_at "e"
      walk_at "e"
      refine ⟨_, _, 3, 0, rfl, rfl, rfl, (by decide), ?_⟩
      refine wb_one (ws_ret ?_)
      refine we_and ?_
      refine we_cmp (op := .Eq) (op_eqD (Room.units (k := 0) (by with_unfolding_all exact Room.mono (by assumption) (Nat.zero_le _)))) (nomark _) ?_
      walk_at "e"
      walk_at "e"
      refine ow_eq (.c 1 rfl) (.c 0 rfl) (by decide) (by decide) ?_
      refine ⟨_, rfl, itT (by decide) ?_⟩
      refine we_one ?_
      refine we_not ?_
      refine we_isXs B rfl (.cons (.blt rfl z_IndexError rfl (by decide) (by decide)) rfl (.cons (.blt rfl z_KeyError rfl (by decide) (by decide)) rfl (.cons (.blt rfl z_NotImplementedError rfl (by decide) (by decide)) rfl .nil))) (by simp) ?_
      walk_at "e"
      refine ⟨_, _, _, _, _, false, rfl, hx, (kit_cons ((kit_blt hx (by decide) rfl).trans (congrArg some (by decide : ("IndexError" == "OverflowError") = false))) (kit_cons ((kit_blt hx (by decide) rfl).trans (congrArg some (by decide : ("KeyError" == "OverflowError") = false))) (kit_cons ((kit_blt hx (by decide) rfl).trans (congrArg some (by decide : ("NotImplementedError" == "OverflowError") = false))) kit_nil))), ?_⟩
      refine ⟨_, rfl, ?_⟩
      exact keep_drop (keep_drop (keep hR))
theorem ok_right_l {f : Addr} {fd : FuncData} (F : Fun K "_law_right" "_law_right" s_right_l f fd) (B : Bl mg) (c_law_take : Cal P w K mg base 1 "_law_take" T_take) (c_take9 : Cal P w K mg base 2 "_law_take" T_take9) (ea_BadText : ExcA P w K mg base 1 "BadText" "text" c_BadText FmT) (ea_BadLine : ExcA P w K mg base 1 "BadLine" "number" c_BadLine FmD) (ea_Contradiction : ExcA P w K mg base 1 "Contradiction" "evidence" c_Contradiction FmD) (ea_Stuck : ExcA P w K mg base 1 "Stuck" "people" c_Stuck FmD) (ea_Misfit : ExcA P w K mg base 1 "Misfit" "place" c_Misfit FmD) (ea_NoInvitation : ExcA P w K mg base 1 "NoInvitation" "people" c_NoInvitation FmD) (ea_NoPerson : ExcA P w K mg base 1 "NoPerson" "person" c_NoPerson FmD) (ea_NoPlace : ExcA P w K mg base 1 "NoPlace" "place" c_NoPlace FmD) (ea_NoNumber : ExcA P w K mg base 1 "NoNumber" "number" c_NoNumber FmD) (ea_NoOperation : ExcA P w K mg base 1 "NoOperation" "many" c_NoOperation FmD) (ea_Blocked : ExcA P w K mg base 1 "Blocked" "pair" c_Blocked FmD) (ea_Early : ExcA P w K mg base 1 "Early" "person" c_Early FmD) (ea_Here : ExcA P w K mg base 1 "Here" "person" c_Here FmD) (ea_TooMany : ExcA P w K mg base 1 "TooMany" "many" c_TooMany FmD) (ea_Full : ExcA P w K mg base 1 "Full" "many" c_Full FmD) (x_BadText : XCls K c_BadText "ValueError") (f_BadText : PySem.W.findIn K (.ref c_BadText) "text" = some none) (x_BadLine : XCls K c_BadLine "ValueError") (f_BadLine : PySem.W.findIn K (.ref c_BadLine) "number" = some none) (x_Contradiction : XCls K c_Contradiction "ValueError") (f_Contradiction : PySem.W.findIn K (.ref c_Contradiction) "evidence" = some none) (x_Stuck : XCls K c_Stuck "ValueError") (f_Stuck : PySem.W.findIn K (.ref c_Stuck) "people" = some none) (x_Misfit : XCls K c_Misfit "ValueError") (f_Misfit : PySem.W.findIn K (.ref c_Misfit) "place" = some none) (x_NoInvitation : XCls K c_NoInvitation "ValueError") (f_NoInvitation : PySem.W.findIn K (.ref c_NoInvitation) "people" = some none) (x_NoPerson : XCls K c_NoPerson "LookupError") (f_NoPerson : PySem.W.findIn K (.ref c_NoPerson) "person" = some none) (x_NoPlace : XCls K c_NoPlace "LookupError") (f_NoPlace : PySem.W.findIn K (.ref c_NoPlace) "place" = some none) (x_NoNumber : XCls K c_NoNumber "LookupError") (f_NoNumber : PySem.W.findIn K (.ref c_NoNumber) "number" = some none) (x_NoOperation : XCls K c_NoOperation "LookupError") (f_NoOperation : PySem.W.findIn K (.ref c_NoOperation) "many" = some none) (x_Blocked : XCls K c_Blocked "RuntimeError") (f_Blocked : PySem.W.findIn K (.ref c_Blocked) "pair" = some none) (x_Early : XCls K c_Early "RuntimeError") (f_Early : PySem.W.findIn K (.ref c_Early) "person" = some none) (x_Here : XCls K c_Here "RuntimeError") (f_Here : PySem.W.findIn K (.ref c_Here) "person" = some none) (x_TooMany : XCls K c_TooMany "OverflowError") (f_TooMany : PySem.W.findIn K (.ref c_TooMany) "many" = some none) (x_Full : XCls K c_Full "OverflowError") (f_Full : PySem.W.findIn K (.ref c_Full) "many" = some none) (c_law_same : Cal P w K mg base 4 "_law_same" (T_same 3)) (s_BadText_BadLine : PySem.W.subIn K (.ref c_BadText) (.ref c_BadLine) = some false) (s_BadText_Blocked : PySem.W.subIn K (.ref c_BadText) (.ref c_Blocked) = some false) (s_BadText_Contradiction : PySem.W.subIn K (.ref c_BadText) (.ref c_Contradiction) = some false) (s_BadText_Early : PySem.W.subIn K (.ref c_BadText) (.ref c_Early) = some false) (s_BadText_Full : PySem.W.subIn K (.ref c_BadText) (.ref c_Full) = some false) (s_BadText_Here : PySem.W.subIn K (.ref c_BadText) (.ref c_Here) = some false) (s_BadText_Misfit : PySem.W.subIn K (.ref c_BadText) (.ref c_Misfit) = some false) (s_BadText_NoInvitation : PySem.W.subIn K (.ref c_BadText) (.ref c_NoInvitation) = some false) (s_BadText_NoNumber : PySem.W.subIn K (.ref c_BadText) (.ref c_NoNumber) = some false) (s_BadText_NoOperation : PySem.W.subIn K (.ref c_BadText) (.ref c_NoOperation) = some false) (s_BadText_NoPerson : PySem.W.subIn K (.ref c_BadText) (.ref c_NoPerson) = some false) (s_BadText_NoPlace : PySem.W.subIn K (.ref c_BadText) (.ref c_NoPlace) = some false) (s_BadText_Stuck : PySem.W.subIn K (.ref c_BadText) (.ref c_Stuck) = some false) (s_BadText_TooMany : PySem.W.subIn K (.ref c_BadText) (.ref c_TooMany) = some false) (s_BadLine_BadText : PySem.W.subIn K (.ref c_BadLine) (.ref c_BadText) = some false) (s_BadLine_Blocked : PySem.W.subIn K (.ref c_BadLine) (.ref c_Blocked) = some false) (s_BadLine_Contradiction : PySem.W.subIn K (.ref c_BadLine) (.ref c_Contradiction) = some false) (s_BadLine_Early : PySem.W.subIn K (.ref c_BadLine) (.ref c_Early) = some false) (s_BadLine_Full : PySem.W.subIn K (.ref c_BadLine) (.ref c_Full) = some false) (s_BadLine_Here : PySem.W.subIn K (.ref c_BadLine) (.ref c_Here) = some false) (s_BadLine_Misfit : PySem.W.subIn K (.ref c_BadLine) (.ref c_Misfit) = some false) (s_BadLine_NoInvitation : PySem.W.subIn K (.ref c_BadLine) (.ref c_NoInvitation) = some false) (s_BadLine_NoNumber : PySem.W.subIn K (.ref c_BadLine) (.ref c_NoNumber) = some false) (s_BadLine_NoOperation : PySem.W.subIn K (.ref c_BadLine) (.ref c_NoOperation) = some false) (s_BadLine_NoPerson : PySem.W.subIn K (.ref c_BadLine) (.ref c_NoPerson) = some false) (s_BadLine_NoPlace : PySem.W.subIn K (.ref c_BadLine) (.ref c_NoPlace) = some false) (s_BadLine_Stuck : PySem.W.subIn K (.ref c_BadLine) (.ref c_Stuck) = some false) (s_BadLine_TooMany : PySem.W.subIn K (.ref c_BadLine) (.ref c_TooMany) = some false) (s_Contradiction_BadLine : PySem.W.subIn K (.ref c_Contradiction) (.ref c_BadLine) = some false) (s_Contradiction_BadText : PySem.W.subIn K (.ref c_Contradiction) (.ref c_BadText) = some false) (s_Contradiction_Blocked : PySem.W.subIn K (.ref c_Contradiction) (.ref c_Blocked) = some false) (s_Contradiction_Early : PySem.W.subIn K (.ref c_Contradiction) (.ref c_Early) = some false) (s_Contradiction_Full : PySem.W.subIn K (.ref c_Contradiction) (.ref c_Full) = some false) (s_Contradiction_Here : PySem.W.subIn K (.ref c_Contradiction) (.ref c_Here) = some false) (s_Contradiction_Misfit : PySem.W.subIn K (.ref c_Contradiction) (.ref c_Misfit) = some false) (s_Contradiction_NoInvitation : PySem.W.subIn K (.ref c_Contradiction) (.ref c_NoInvitation) = some false) (s_Contradiction_NoNumber : PySem.W.subIn K (.ref c_Contradiction) (.ref c_NoNumber) = some false) (s_Contradiction_NoOperation : PySem.W.subIn K (.ref c_Contradiction) (.ref c_NoOperation) = some false) (s_Contradiction_NoPerson : PySem.W.subIn K (.ref c_Contradiction) (.ref c_NoPerson) = some false) (s_Contradiction_NoPlace : PySem.W.subIn K (.ref c_Contradiction) (.ref c_NoPlace) = some false) (s_Contradiction_Stuck : PySem.W.subIn K (.ref c_Contradiction) (.ref c_Stuck) = some false) (s_Contradiction_TooMany : PySem.W.subIn K (.ref c_Contradiction) (.ref c_TooMany) = some false) (s_Stuck_BadLine : PySem.W.subIn K (.ref c_Stuck) (.ref c_BadLine) = some false) (s_Stuck_BadText : PySem.W.subIn K (.ref c_Stuck) (.ref c_BadText) = some false) (s_Stuck_Blocked : PySem.W.subIn K (.ref c_Stuck) (.ref c_Blocked) = some false) (s_Stuck_Contradiction : PySem.W.subIn K (.ref c_Stuck) (.ref c_Contradiction) = some false) (s_Stuck_Early : PySem.W.subIn K (.ref c_Stuck) (.ref c_Early) = some false) (s_Stuck_Full : PySem.W.subIn K (.ref c_Stuck) (.ref c_Full) = some false) (s_Stuck_Here : PySem.W.subIn K (.ref c_Stuck) (.ref c_Here) = some false) (s_Stuck_Misfit : PySem.W.subIn K (.ref c_Stuck) (.ref c_Misfit) = some false) (s_Stuck_NoInvitation : PySem.W.subIn K (.ref c_Stuck) (.ref c_NoInvitation) = some false) (s_Stuck_NoNumber : PySem.W.subIn K (.ref c_Stuck) (.ref c_NoNumber) = some false) (s_Stuck_NoOperation : PySem.W.subIn K (.ref c_Stuck) (.ref c_NoOperation) = some false) (s_Stuck_NoPerson : PySem.W.subIn K (.ref c_Stuck) (.ref c_NoPerson) = some false) (s_Stuck_NoPlace : PySem.W.subIn K (.ref c_Stuck) (.ref c_NoPlace) = some false) (s_Stuck_TooMany : PySem.W.subIn K (.ref c_Stuck) (.ref c_TooMany) = some false) (s_Misfit_BadLine : PySem.W.subIn K (.ref c_Misfit) (.ref c_BadLine) = some false) (s_Misfit_BadText : PySem.W.subIn K (.ref c_Misfit) (.ref c_BadText) = some false) (s_Misfit_Blocked : PySem.W.subIn K (.ref c_Misfit) (.ref c_Blocked) = some false) (s_Misfit_Contradiction : PySem.W.subIn K (.ref c_Misfit) (.ref c_Contradiction) = some false) (s_Misfit_Early : PySem.W.subIn K (.ref c_Misfit) (.ref c_Early) = some false) (s_Misfit_Full : PySem.W.subIn K (.ref c_Misfit) (.ref c_Full) = some false) (s_Misfit_Here : PySem.W.subIn K (.ref c_Misfit) (.ref c_Here) = some false) (s_Misfit_NoInvitation : PySem.W.subIn K (.ref c_Misfit) (.ref c_NoInvitation) = some false) (s_Misfit_NoNumber : PySem.W.subIn K (.ref c_Misfit) (.ref c_NoNumber) = some false) (s_Misfit_NoOperation : PySem.W.subIn K (.ref c_Misfit) (.ref c_NoOperation) = some false) (s_Misfit_NoPerson : PySem.W.subIn K (.ref c_Misfit) (.ref c_NoPerson) = some false) (s_Misfit_NoPlace : PySem.W.subIn K (.ref c_Misfit) (.ref c_NoPlace) = some false) (s_Misfit_Stuck : PySem.W.subIn K (.ref c_Misfit) (.ref c_Stuck) = some false) (s_Misfit_TooMany : PySem.W.subIn K (.ref c_Misfit) (.ref c_TooMany) = some false) (s_NoInvitation_BadLine : PySem.W.subIn K (.ref c_NoInvitation) (.ref c_BadLine) = some false) (s_NoInvitation_BadText : PySem.W.subIn K (.ref c_NoInvitation) (.ref c_BadText) = some false) (s_NoInvitation_Blocked : PySem.W.subIn K (.ref c_NoInvitation) (.ref c_Blocked) = some false) (s_NoInvitation_Contradiction : PySem.W.subIn K (.ref c_NoInvitation) (.ref c_Contradiction) = some false) (s_NoInvitation_Early : PySem.W.subIn K (.ref c_NoInvitation) (.ref c_Early) = some false) (s_NoInvitation_Full : PySem.W.subIn K (.ref c_NoInvitation) (.ref c_Full) = some false) (s_NoInvitation_Here : PySem.W.subIn K (.ref c_NoInvitation) (.ref c_Here) = some false) (s_NoInvitation_Misfit : PySem.W.subIn K (.ref c_NoInvitation) (.ref c_Misfit) = some false) (s_NoInvitation_NoNumber : PySem.W.subIn K (.ref c_NoInvitation) (.ref c_NoNumber) = some false) (s_NoInvitation_NoOperation : PySem.W.subIn K (.ref c_NoInvitation) (.ref c_NoOperation) = some false) (s_NoInvitation_NoPerson : PySem.W.subIn K (.ref c_NoInvitation) (.ref c_NoPerson) = some false) (s_NoInvitation_NoPlace : PySem.W.subIn K (.ref c_NoInvitation) (.ref c_NoPlace) = some false) (s_NoInvitation_Stuck : PySem.W.subIn K (.ref c_NoInvitation) (.ref c_Stuck) = some false) (s_NoInvitation_TooMany : PySem.W.subIn K (.ref c_NoInvitation) (.ref c_TooMany) = some false) (s_NoPerson_BadLine : PySem.W.subIn K (.ref c_NoPerson) (.ref c_BadLine) = some false) (s_NoPerson_BadText : PySem.W.subIn K (.ref c_NoPerson) (.ref c_BadText) = some false) (s_NoPerson_Blocked : PySem.W.subIn K (.ref c_NoPerson) (.ref c_Blocked) = some false) (s_NoPerson_Contradiction : PySem.W.subIn K (.ref c_NoPerson) (.ref c_Contradiction) = some false) (s_NoPerson_Early : PySem.W.subIn K (.ref c_NoPerson) (.ref c_Early) = some false) (s_NoPerson_Full : PySem.W.subIn K (.ref c_NoPerson) (.ref c_Full) = some false) (s_NoPerson_Here : PySem.W.subIn K (.ref c_NoPerson) (.ref c_Here) = some false) (s_NoPerson_Misfit : PySem.W.subIn K (.ref c_NoPerson) (.ref c_Misfit) = some false) (s_NoPerson_NoInvitation : PySem.W.subIn K (.ref c_NoPerson) (.ref c_NoInvitation) = some false) (s_NoPerson_NoNumber : PySem.W.subIn K (.ref c_NoPerson) (.ref c_NoNumber) = some false) (s_NoPerson_NoOperation : PySem.W.subIn K (.ref c_NoPerson) (.ref c_NoOperation) = some false) (s_NoPerson_NoPlace : PySem.W.subIn K (.ref c_NoPerson) (.ref c_NoPlace) = some false) (s_NoPerson_Stuck : PySem.W.subIn K (.ref c_NoPerson) (.ref c_Stuck) = some false) (s_NoPerson_TooMany : PySem.W.subIn K (.ref c_NoPerson) (.ref c_TooMany) = some false) (s_NoPlace_BadLine : PySem.W.subIn K (.ref c_NoPlace) (.ref c_BadLine) = some false) (s_NoPlace_BadText : PySem.W.subIn K (.ref c_NoPlace) (.ref c_BadText) = some false) (s_NoPlace_Blocked : PySem.W.subIn K (.ref c_NoPlace) (.ref c_Blocked) = some false) (s_NoPlace_Contradiction : PySem.W.subIn K (.ref c_NoPlace) (.ref c_Contradiction) = some false) (s_NoPlace_Early : PySem.W.subIn K (.ref c_NoPlace) (.ref c_Early) = some false) (s_NoPlace_Full : PySem.W.subIn K (.ref c_NoPlace) (.ref c_Full) = some false) (s_NoPlace_Here : PySem.W.subIn K (.ref c_NoPlace) (.ref c_Here) = some false) (s_NoPlace_Misfit : PySem.W.subIn K (.ref c_NoPlace) (.ref c_Misfit) = some false) (s_NoPlace_NoInvitation : PySem.W.subIn K (.ref c_NoPlace) (.ref c_NoInvitation) = some false) (s_NoPlace_NoNumber : PySem.W.subIn K (.ref c_NoPlace) (.ref c_NoNumber) = some false) (s_NoPlace_NoOperation : PySem.W.subIn K (.ref c_NoPlace) (.ref c_NoOperation) = some false) (s_NoPlace_NoPerson : PySem.W.subIn K (.ref c_NoPlace) (.ref c_NoPerson) = some false) (s_NoPlace_Stuck : PySem.W.subIn K (.ref c_NoPlace) (.ref c_Stuck) = some false) (s_NoPlace_TooMany : PySem.W.subIn K (.ref c_NoPlace) (.ref c_TooMany) = some false) (s_NoNumber_BadLine : PySem.W.subIn K (.ref c_NoNumber) (.ref c_BadLine) = some false) (s_NoNumber_BadText : PySem.W.subIn K (.ref c_NoNumber) (.ref c_BadText) = some false) (s_NoNumber_Blocked : PySem.W.subIn K (.ref c_NoNumber) (.ref c_Blocked) = some false) (s_NoNumber_Contradiction : PySem.W.subIn K (.ref c_NoNumber) (.ref c_Contradiction) = some false) (s_NoNumber_Early : PySem.W.subIn K (.ref c_NoNumber) (.ref c_Early) = some false) (s_NoNumber_Full : PySem.W.subIn K (.ref c_NoNumber) (.ref c_Full) = some false) (s_NoNumber_Here : PySem.W.subIn K (.ref c_NoNumber) (.ref c_Here) = some false) (s_NoNumber_Misfit : PySem.W.subIn K (.ref c_NoNumber) (.ref c_Misfit) = some false) (s_NoNumber_NoInvitation : PySem.W.subIn K (.ref c_NoNumber) (.ref c_NoInvitation) = some false) (s_NoNumber_NoOperation : PySem.W.subIn K (.ref c_NoNumber) (.ref c_NoOperation) = some false) (s_NoNumber_NoPerson : PySem.W.subIn K (.ref c_NoNumber) (.ref c_NoPerson) = some false) (s_NoNumber_NoPlace : PySem.W.subIn K (.ref c_NoNumber) (.ref c_NoPlace) = some false) (s_NoNumber_Stuck : PySem.W.subIn K (.ref c_NoNumber) (.ref c_Stuck) = some false) (s_NoNumber_TooMany : PySem.W.subIn K (.ref c_NoNumber) (.ref c_TooMany) = some false) (s_NoOperation_BadLine : PySem.W.subIn K (.ref c_NoOperation) (.ref c_BadLine) = some false) (s_NoOperation_BadText : PySem.W.subIn K (.ref c_NoOperation) (.ref c_BadText) = some false) (s_NoOperation_Blocked : PySem.W.subIn K (.ref c_NoOperation) (.ref c_Blocked) = some false) (s_NoOperation_Contradiction : PySem.W.subIn K (.ref c_NoOperation) (.ref c_Contradiction) = some false) (s_NoOperation_Early : PySem.W.subIn K (.ref c_NoOperation) (.ref c_Early) = some false) (s_NoOperation_Full : PySem.W.subIn K (.ref c_NoOperation) (.ref c_Full) = some false) (s_NoOperation_Here : PySem.W.subIn K (.ref c_NoOperation) (.ref c_Here) = some false) (s_NoOperation_Misfit : PySem.W.subIn K (.ref c_NoOperation) (.ref c_Misfit) = some false) (s_NoOperation_NoInvitation : PySem.W.subIn K (.ref c_NoOperation) (.ref c_NoInvitation) = some false) (s_NoOperation_NoNumber : PySem.W.subIn K (.ref c_NoOperation) (.ref c_NoNumber) = some false) (s_NoOperation_NoPerson : PySem.W.subIn K (.ref c_NoOperation) (.ref c_NoPerson) = some false) (s_NoOperation_NoPlace : PySem.W.subIn K (.ref c_NoOperation) (.ref c_NoPlace) = some false) (s_NoOperation_Stuck : PySem.W.subIn K (.ref c_NoOperation) (.ref c_Stuck) = some false) (s_NoOperation_TooMany : PySem.W.subIn K (.ref c_NoOperation) (.ref c_TooMany) = some false) (s_Blocked_BadLine : PySem.W.subIn K (.ref c_Blocked) (.ref c_BadLine) = some false) (s_Blocked_BadText : PySem.W.subIn K (.ref c_Blocked) (.ref c_BadText) = some false) (s_Blocked_Contradiction : PySem.W.subIn K (.ref c_Blocked) (.ref c_Contradiction) = some false) (s_Blocked_Early : PySem.W.subIn K (.ref c_Blocked) (.ref c_Early) = some false) (s_Blocked_Full : PySem.W.subIn K (.ref c_Blocked) (.ref c_Full) = some false) (s_Blocked_Here : PySem.W.subIn K (.ref c_Blocked) (.ref c_Here) = some false) (s_Blocked_Misfit : PySem.W.subIn K (.ref c_Blocked) (.ref c_Misfit) = some false) (s_Blocked_NoInvitation : PySem.W.subIn K (.ref c_Blocked) (.ref c_NoInvitation) = some false) (s_Blocked_NoNumber : PySem.W.subIn K (.ref c_Blocked) (.ref c_NoNumber) = some false) (s_Blocked_NoOperation : PySem.W.subIn K (.ref c_Blocked) (.ref c_NoOperation) = some false) (s_Blocked_NoPerson : PySem.W.subIn K (.ref c_Blocked) (.ref c_NoPerson) = some false) (s_Blocked_NoPlace : PySem.W.subIn K (.ref c_Blocked) (.ref c_NoPlace) = some false) (s_Blocked_Stuck : PySem.W.subIn K (.ref c_Blocked) (.ref c_Stuck) = some false) (s_Blocked_TooMany : PySem.W.subIn K (.ref c_Blocked) (.ref c_TooMany) = some false) (s_Early_BadLine : PySem.W.subIn K (.ref c_Early) (.ref c_BadLine) = some false) (s_Early_BadText : PySem.W.subIn K (.ref c_Early) (.ref c_BadText) = some false) (s_Early_Blocked : PySem.W.subIn K (.ref c_Early) (.ref c_Blocked) = some false) (s_Early_Contradiction : PySem.W.subIn K (.ref c_Early) (.ref c_Contradiction) = some false) (s_Early_Full : PySem.W.subIn K (.ref c_Early) (.ref c_Full) = some false) (s_Early_Here : PySem.W.subIn K (.ref c_Early) (.ref c_Here) = some false) (s_Early_Misfit : PySem.W.subIn K (.ref c_Early) (.ref c_Misfit) = some false) (s_Early_NoInvitation : PySem.W.subIn K (.ref c_Early) (.ref c_NoInvitation) = some false) (s_Early_NoNumber : PySem.W.subIn K (.ref c_Early) (.ref c_NoNumber) = some false) (s_Early_NoOperation : PySem.W.subIn K (.ref c_Early) (.ref c_NoOperation) = some false) (s_Early_NoPerson : PySem.W.subIn K (.ref c_Early) (.ref c_NoPerson) = some false) (s_Early_NoPlace : PySem.W.subIn K (.ref c_Early) (.ref c_NoPlace) = some false) (s_Early_Stuck : PySem.W.subIn K (.ref c_Early) (.ref c_Stuck) = some false) (s_Early_TooMany : PySem.W.subIn K (.ref c_Early) (.ref c_TooMany) = some false) (s_Here_BadLine : PySem.W.subIn K (.ref c_Here) (.ref c_BadLine) = some false) (s_Here_BadText : PySem.W.subIn K (.ref c_Here) (.ref c_BadText) = some false) (s_Here_Blocked : PySem.W.subIn K (.ref c_Here) (.ref c_Blocked) = some false) (s_Here_Contradiction : PySem.W.subIn K (.ref c_Here) (.ref c_Contradiction) = some false) (s_Here_Early : PySem.W.subIn K (.ref c_Here) (.ref c_Early) = some false) (s_Here_Full : PySem.W.subIn K (.ref c_Here) (.ref c_Full) = some false) (s_Here_Misfit : PySem.W.subIn K (.ref c_Here) (.ref c_Misfit) = some false) (s_Here_NoInvitation : PySem.W.subIn K (.ref c_Here) (.ref c_NoInvitation) = some false) (s_Here_NoNumber : PySem.W.subIn K (.ref c_Here) (.ref c_NoNumber) = some false) (s_Here_NoOperation : PySem.W.subIn K (.ref c_Here) (.ref c_NoOperation) = some false) (s_Here_NoPerson : PySem.W.subIn K (.ref c_Here) (.ref c_NoPerson) = some false) (s_Here_NoPlace : PySem.W.subIn K (.ref c_Here) (.ref c_NoPlace) = some false) (s_Here_Stuck : PySem.W.subIn K (.ref c_Here) (.ref c_Stuck) = some false) (s_Here_TooMany : PySem.W.subIn K (.ref c_Here) (.ref c_TooMany) = some false) (s_TooMany_BadLine : PySem.W.subIn K (.ref c_TooMany) (.ref c_BadLine) = some false) (s_TooMany_BadText : PySem.W.subIn K (.ref c_TooMany) (.ref c_BadText) = some false) (s_TooMany_Blocked : PySem.W.subIn K (.ref c_TooMany) (.ref c_Blocked) = some false) (s_TooMany_Contradiction : PySem.W.subIn K (.ref c_TooMany) (.ref c_Contradiction) = some false) (s_TooMany_Early : PySem.W.subIn K (.ref c_TooMany) (.ref c_Early) = some false) (s_TooMany_Full : PySem.W.subIn K (.ref c_TooMany) (.ref c_Full) = some false) (s_TooMany_Here : PySem.W.subIn K (.ref c_TooMany) (.ref c_Here) = some false) (s_TooMany_Misfit : PySem.W.subIn K (.ref c_TooMany) (.ref c_Misfit) = some false) (s_TooMany_NoInvitation : PySem.W.subIn K (.ref c_TooMany) (.ref c_NoInvitation) = some false) (s_TooMany_NoNumber : PySem.W.subIn K (.ref c_TooMany) (.ref c_NoNumber) = some false) (s_TooMany_NoOperation : PySem.W.subIn K (.ref c_TooMany) (.ref c_NoOperation) = some false) (s_TooMany_NoPerson : PySem.W.subIn K (.ref c_TooMany) (.ref c_NoPerson) = some false) (s_TooMany_NoPlace : PySem.W.subIn K (.ref c_TooMany) (.ref c_NoPlace) = some false) (s_TooMany_Stuck : PySem.W.subIn K (.ref c_TooMany) (.ref c_Stuck) = some false) (s_Full_BadLine : PySem.W.subIn K (.ref c_Full) (.ref c_BadLine) = some false) (s_Full_BadText : PySem.W.subIn K (.ref c_Full) (.ref c_BadText) = some false) (s_Full_Blocked : PySem.W.subIn K (.ref c_Full) (.ref c_Blocked) = some false) (s_Full_Contradiction : PySem.W.subIn K (.ref c_Full) (.ref c_Contradiction) = some false) (s_Full_Early : PySem.W.subIn K (.ref c_Full) (.ref c_Early) = some false) (s_Full_Here : PySem.W.subIn K (.ref c_Full) (.ref c_Here) = some false) (s_Full_Misfit : PySem.W.subIn K (.ref c_Full) (.ref c_Misfit) = some false) (s_Full_NoInvitation : PySem.W.subIn K (.ref c_Full) (.ref c_NoInvitation) = some false) (s_Full_NoNumber : PySem.W.subIn K (.ref c_Full) (.ref c_NoNumber) = some false) (s_Full_NoOperation : PySem.W.subIn K (.ref c_Full) (.ref c_NoOperation) = some false) (s_Full_NoPerson : PySem.W.subIn K (.ref c_Full) (.ref c_NoPerson) = some false) (s_Full_NoPlace : PySem.W.subIn K (.ref c_Full) (.ref c_NoPlace) = some false) (s_Full_Stuck : PySem.W.subIn K (.ref c_Full) (.ref c_Stuck) = some false) (s_Full_TooMany : PySem.W.subIn K (.ref c_Full) (.ref c_TooMany) = some false) (c_law_one_right : Cal P w K mg base 2 "_law_one_right" (T_one15 K [c_BadLine, c_BadText, c_Blocked, c_Contradiction, c_Early, c_Full, c_Here, c_Misfit, c_NoInvitation, c_NoNumber, c_NoOperation, c_NoPerson, c_NoPlace, c_Stuck, c_TooMany])) (i_MOST : ∃ t, mg "MOST" = some (.int 300 t)) (i_MOST_PEOPLE : ∃ t, mg "MOST_PEOPLE" = some (.int 12 t)) : FnG P w K mg base CX0 5 f fd ["_law_box_here"] (spW K (T_right 10)) := by
  refine fn_w F sc_right_l (by decide) (fun xs μ R h => ?_) fun cdv A outer s H E hr hgd xs μ R hT => ?_
  · obtain ⟨b, bs, m, rfl, _⟩ := h
    rfl
  · obtain ⟨b, bs, m, rfl, rfl, hb, hm, hR⟩ := hT
    refine wb_names (N := ["_law_box_here", "_law_soul", "_law_far", "_law_values", "_law_made", "_law_named", "_law_some", "_law_fields", "_law_kinds", "_law_its", "_law_at"]) rfl fun hn => ?_
    have n0 := hn 0 _ rfl
    have n1 := hn 1 _ rfl
    have n2 := hn 2 _ rfl
    have n3 := hn 3 _ rfl
    have n4 := hn 4 _ rfl
    have n5 := hn 5 _ rfl
    have n6 := hn 6 _ rfl
    have n7 := hn 7 _ rfl
    have n8 := hn 8 _ rfl
    have n9 := hn 9 _ rfl
    have n10 := hn 10 _ rfl
    refine wb_cons ?_
    refine ws_par 1 2 rfl sc_right_l.nd n1 n2 (by decide) rfl rfl ?_ (by rfl)
    refine we_callB 0 c_law_take (by walk_at "room") rfl ?_
    refine wa_cons ?_
    walk_at "e"
    refine wa_one ?_
    walk_at "e"
    refine ⟨b, bs, rfl, b, bs, 20, _, rfl, rfl, hb, by omega, by omega, by omega, fun u bs1 hu0 hu1 hb1 => ⟨[], bs1, rfl, ?_⟩⟩
    refine we_callB 0 c_take9 (by walk_at "room") rfl ?_
    refine wa_cons ?_
    walk_at "e"
    refine wa_one ?_
    walk_at "e"
    walk_at "e"
    walk_at "e"
    refine ow_cnd (C := CPow) (by exact ⟨by decide, by decide, by decide⟩) ?_
    rw [show ((10 : Int) ^ Int.toNat 9) = 1000000000 from by decide]
    refine ⟨b, bs1, rfl, b, _, _, _, rfl, rfl, hb1, by decide, by decide, by omega, fun v bs2 hv0 hv1 hb2 => ⟨[], bs2, rfl, ?_⟩⟩
    refine wb_cons ?_
    refine ws_set 3 sc_right_l.nd n3 (by walk_at "loc") (by first | exact .inl rfl | exact .inr rfl) ?_
    refine we_fz ?_
    refine we_lst ?_
    refine wa_cons ?_
    walk_at "e"
    refine wa_cons ?_
    walk_at "e"
    refine wa_cons ?_
    refine we_tup ?_
    refine wa_cons ?_
    walk_at "e"
    refine wa_cons ?_
    walk_at "e"
    refine wa_one ?_
    walk_at "e"
    refine ⟨intsD [u, 0, 1], rfl, by simp, ?_⟩
    refine wa_cons ?_
    refine we_tup ?_
    refine wa_one ?_
    walk_at "e"
    refine ⟨intsD [u], rfl, by simp, ?_⟩
    refine wa_cons ?_
    walk_at "e"
    refine wa_cons ?_
    refine we_tup ?_
    refine wa_one ?_
    walk_at "e"
    refine ⟨intsD [u], rfl, by simp, ?_⟩
    refine wa_cons ?_
    walk_at "e"
    walk_at "e"
    walk_at "e"
    refine ow_sub ?_
    refine wa_cons ?_
    walk_at "e"
    refine wa_cons ?_
    walk_at "e"
    walk_at "e"
    walk_at "e"
    refine ow_sub ?_
    refine wa_one ?_
    walk_at "e"
    walk_at "e"
    walk_at "e"
    refine ow_add ?_
    refine ⟨[(.str "x"), (.int u), (.tuple (intsD [u, 0, 1])), (.tuple (intsD [u])), (.int u), (.tuple (intsD [u])), (.int (v - 500)), (.int v), (.int (v - 7)), (.int (61 + u))], rfl, by simp, fun p1 => ⟨p1, _, _, rfl, rfl, by walk_at "pl", ?_⟩⟩
    refine wb_at (δ2 := [some (.a b), some (.d (.int u)), some (.d (.int v)), some (.d (.list [(.str ("x" : Str)), (.int u), (.tuple [(.int u), (.int 0), (.int 1)]), (.tuple [(.int u)]), (.int u), (.tuple [(.int u)]), (.int (v - 500)), (.int v), (.int (v - 7)), (.int (61 + u))])), none, none, none, none, none, none, none]) (by with_unfolding_all rfl) ?_
    refine wb_cons ?_
    refine ws_set 3 sc_right_l.nd n3 (by walk_at "loc") (by first | exact .inl rfl | exact .inr rfl) ?_
    refine we_fz ?_
    walk_at "e"
    walk_at "e"
    refine we_fz ?_
    refine we_lst ?_
    refine wa_cons ?_
    refine we_tup ?_
    refine wa_cons ?_
    walk_at "e"
    refine wa_one ?_
    walk_at "e"
    walk_at "e"
    walk_at "e"
    walk_at "e"
    refine ow_add ?_
    walk_at "e"
    refine ow_cnd (by omega) ?_
    refine ⟨intsD [u, ((u + 1) % 20)], rfl, by simp, ?_⟩
    refine wa_cons ?_
    walk_at "e"
    refine wa_one ?_
    walk_at "e"
    refine ⟨[(.tuple (intsD [u, ((u + 1) % 20)])), (.int u), (.int u)], rfl, by simp, fun p2 => ⟨p2, _, _, rfl, rfl, by walk_at "pl", ?_⟩⟩
    refine ow_catL (by simp) ?_
    refine fun p3 => ⟨p3, _, _, rfl, rfl, by walk_at "pl", ?_⟩
    refine wb_at (δ2 := [some (.a b), some (.d (.int u)), some (.d (.int v)), some (.d (.list [(.str ("x" : Str)), (.int u), (.tuple [(.int u), (.int 0), (.int 1)]), (.tuple [(.int u)]), (.int u), (.tuple [(.int u)]), (.int (v - 500)), (.int v), (.int (v - 7)), (.int (61 + u)), (.tuple [(.int u), (.int ((u + 1) % 20))]), (.int u), (.int u)])), none, none, none, none, none, none, none]) (by with_unfolding_all rfl) ?_
    refine wb_cons ?_
    refine ws_set 3 sc_right_l.nd n3 (by walk_at "loc") (by first | exact .inl rfl | exact .inr rfl) ?_
    refine we_fz ?_
    walk_at "e"
    walk_at "e"
    refine we_fz ?_
    refine we_lst ?_
    refine wa_cons ?_
    walk_at "e"
    walk_at "e"
    walk_at "e"
    refine ow_add ?_
    refine wa_one ?_
    walk_at "e"
    refine ⟨intsD [(301 + v), 20], rfl, by simp, fun p4 => ⟨p4, _, _, rfl, rfl, by walk_at "pl", ?_⟩⟩
    refine ow_catL (by simp) ?_
    refine fun p5 => ⟨p5, _, _, rfl, rfl, by walk_at "pl", ?_⟩
    refine wb_at (δ2 := [some (.a b), some (.d (.int u)), some (.d (.int v)), some (.d (.list [(.str ("x" : Str)), (.int u), (.tuple [(.int u), (.int 0), (.int 1)]), (.tuple [(.int u)]), (.int u), (.tuple [(.int u)]), (.int (v - 500)), (.int v), (.int (v - 7)), (.int (61 + u)), (.tuple [(.int u), (.int ((u + 1) % 20))]), (.int u), (.int u), (.int (301 + v)), (.int 20)])), none, none, none, none, none, none, none]) (by with_unfolding_all rfl) ?_
    refine wb_cons ?_
    refine ws_set 4 sc_right_l.nd n4 (by walk_at "loc") (by first | exact .inl rfl | exact .inr rfl) ?_
    refine we_lstP ?_
    refine wa_cons ?_
    refine we_mkE ea_BadText (by walk_at "room") rfl ?_
    walk_at "e"
    walk_at "e"
    walk_at "e"
    refine ow_ix (.l _) (atI_nat (j := 0) rfl) ?_
    refine ⟨_, rfl, ⟨_, rfl, (by decide), (by decide)⟩, fun a0 => ?_⟩
    refine wa_cons ?_
    refine we_mkE ea_BadLine (by walk_at "room") rfl ?_
    walk_at "e"
    walk_at "e"
    walk_at "e"
    refine ow_ix (.l _) (atI_nat (j := 1) rfl) ?_
    refine ⟨_, rfl, (log15 (by omega)), fun a1 => ?_⟩
    refine wa_cons ?_
    refine we_mkE ea_Contradiction (by walk_at "room") rfl ?_
    walk_at "e"
    walk_at "e"
    walk_at "e"
    refine ow_ix (.l _) (atI_nat (j := 2) rfl) ?_
    refine ⟨_, rfl, ⟨[u, 0, 1], rfl, (by simp), (fun i hi => log15s hi (by simp; omega))⟩, fun a2 => ?_⟩
    refine wa_cons ?_
    refine we_mkE ea_Stuck (by walk_at "room") rfl ?_
    walk_at "e"
    walk_at "e"
    walk_at "e"
    refine ow_ix (.l _) (atI_nat (j := 3) rfl) ?_
    refine ⟨_, rfl, ⟨[u], rfl, (by simp), (fun i hi => log15s hi (by simp; omega))⟩, fun a3 => ?_⟩
    refine wa_one ?_
    refine we_mkE ea_Misfit (by walk_at "room") rfl ?_
    walk_at "e"
    walk_at "e"
    walk_at "e"
    refine ow_ix (.l _) (atI_nat (j := 4) rfl) ?_
    refine ⟨_, rfl, (log15 (by omega)), fun a4 => ?_⟩
    refine ⟨by simp, (by intro d; simp), fun p6 => ?_⟩
    refine wb_cons ?_
    refine ws_set 4 sc_right_l.nd n4 (by walk_at "loc") (by first | exact .inl rfl | exact .inr rfl) ?_
    walk_at "e"
    walk_at "e"
    refine we_lstP ?_
    refine wa_cons ?_
    refine we_mkE ea_NoInvitation (by walk_at "room") rfl ?_
    walk_at "e"
    walk_at "e"
    walk_at "e"
    refine ow_ix (.l _) (atI_nat (j := 5) rfl) ?_
    refine ⟨_, rfl, ⟨[u], rfl, (by simp), (fun i hi => log15s hi (by simp; omega))⟩, fun a5 => ?_⟩
    refine wa_cons ?_
    refine we_mkE ea_NoPerson (by walk_at "room") rfl ?_
    walk_at "e"
    walk_at "e"
    walk_at "e"
    refine ow_ix (.l _) (atI_nat (j := 6) rfl) ?_
    refine ⟨_, rfl, (log15 (by omega)), fun a6 => ?_⟩
    refine wa_cons ?_
    refine we_mkE ea_NoPlace (by walk_at "room") rfl ?_
    walk_at "e"
    walk_at "e"
    walk_at "e"
    refine ow_ix (.l _) (atI_nat (j := 7) rfl) ?_
    refine ⟨_, rfl, (log15 (by omega)), fun a7 => ?_⟩
    refine wa_one ?_
    refine we_mkE ea_NoNumber (by walk_at "room") rfl ?_
    walk_at "e"
    walk_at "e"
    walk_at "e"
    refine ow_ix (.l _) (atI_nat (j := 8) rfl) ?_
    refine ⟨_, rfl, (log15 (by omega)), fun a8 => ?_⟩
    refine ⟨by simp, (by intro d; simp), fun p7 => ?_⟩
    refine ow_catCC 1 0 rfl rfl (by simp) fun p8 => ?_
    refine wb_dropAt 1 rfl ?_
    refine wb_dropAt 1 rfl ?_
    refine wb_cons ?_
    refine ws_set 4 sc_right_l.nd n4 (by walk_at "loc") (by first | exact .inl rfl | exact .inr rfl) ?_
    walk_at "e"
    walk_at "e"
    refine we_lstP ?_
    refine wa_cons ?_
    refine we_mkE ea_NoOperation (by walk_at "room") rfl ?_
    walk_at "e"
    walk_at "e"
    walk_at "e"
    refine ow_ix (.l _) (atI_nat (j := 9) rfl) ?_
    refine ⟨_, rfl, (log15 (by omega)), fun a9 => ?_⟩
    refine wa_cons ?_
    refine we_mkE ea_Blocked (by walk_at "room") rfl ?_
    walk_at "e"
    walk_at "e"
    walk_at "e"
    refine ow_ix (.l _) (atI_nat (j := 10) rfl) ?_
    refine ⟨_, rfl, ⟨[u, ((u + 1) % 20)], rfl, (by simp), (fun i hi => log15s hi (by simp; omega))⟩, fun a10 => ?_⟩
    refine wa_cons ?_
    refine we_mkE ea_Early (by walk_at "room") rfl ?_
    walk_at "e"
    walk_at "e"
    walk_at "e"
    refine ow_ix (.l _) (atI_nat (j := 11) rfl) ?_
    refine ⟨_, rfl, (log15 (by omega)), fun a11 => ?_⟩
    refine wa_one ?_
    refine we_mkE ea_Here (by walk_at "room") rfl ?_
    walk_at "e"
    walk_at "e"
    walk_at "e"
    refine ow_ix (.l _) (atI_nat (j := 12) rfl) ?_
    refine ⟨_, rfl, (log15 (by omega)), fun a12 => ?_⟩
    refine ⟨by simp, (by intro d; simp), fun p9 => ?_⟩
    refine ow_catCC 1 0 rfl rfl (by simp) fun p10 => ?_
    refine wb_dropAt 1 rfl ?_
    refine wb_dropAt 1 rfl ?_
    refine wb_cons ?_
    refine ws_set 4 sc_right_l.nd n4 (by walk_at "loc") (by first | exact .inl rfl | exact .inr rfl) ?_
    walk_at "e"
    walk_at "e"
    refine we_lstP ?_
    refine wa_cons ?_
    refine we_mkE ea_TooMany (by walk_at "room") rfl ?_
    walk_at "e"
    walk_at "e"
    walk_at "e"
    refine ow_ix (.l _) (atI_nat (j := 13) rfl) ?_
    refine ⟨_, rfl, (log15 (by omega)), fun a13 => ?_⟩
    refine wa_one ?_
    refine we_mkE ea_Full (by walk_at "room") rfl ?_
    walk_at "e"
    walk_at "e"
    walk_at "e"
    refine ow_ix (.l _) (atI_nat (j := 14) rfl) ?_
    refine ⟨_, rfl, (log15 (by omega)), fun a14 => ?_⟩
    refine ⟨by simp, (by intro d; simp), fun p11 => ?_⟩
    refine ow_catCC 1 0 rfl rfl (by simp) fun p12 => ?_
    refine wb_dropAt 1 rfl ?_
    refine wb_dropAt 1 rfl ?_
    refine wb_frzM 0 4 rfl rfl ?_
    refine wb_at (δ2 := [some (.a b), some (.d (.int u)), some (.d (.int v)), some (.d (.list [(.str ("x" : Str)), (.int u), (.tuple [(.int u), (.int 0), (.int 1)]), (.tuple [(.int u)]), (.int u), (.tuple [(.int u)]), (.int (v - 500)), (.int v), (.int (v - 7)), (.int (61 + u)), (.tuple [(.int u), (.int ((u + 1) % 20))]), (.int u), (.int u), (.int (301 + v)), (.int 20)])), some (.m p12 false ([exI a0 c_BadText "text" (.str ("x" : Str)), exI a1 c_BadLine "number" (.int u), exI a2 c_Contradiction "evidence" (.tuple [(.int u), (.int 0), (.int 1)]), exI a3 c_Stuck "people" (.tuple [(.int u)]), exI a4 c_Misfit "place" (.int u), exI a5 c_NoInvitation "people" (.tuple [(.int u)]), exI a6 c_NoPerson "person" (.int (v - 500)), exI a7 c_NoPlace "place" (.int v), exI a8 c_NoNumber "number" (.int (v - 7)), exI a9 c_NoOperation "many" (.int (61 + u)), exI a10 c_Blocked "pair" (.tuple [(.int u), (.int ((u + 1) % 20))]), exI a11 c_Early "person" (.int u), exI a12 c_Here "person" (.int u), exI a13 c_TooMany "many" (.int (301 + v)), exI a14 c_Full "many" (.int 20)])), none, none, none, none, none, none]) (by with_unfolding_all rfl) ?_
    refine wb_cons ?_
    refine ws_set 5 sc_right_l.nd n5 (by walk_at "loc") (by first | exact .inl rfl | exact .inr rfl) ?_
    refine we_lstP ?_
    refine wa_cons ?_
    refine we_mkEK ea_BadText (by walk_at "room") rfl ?_
    walk_at "e"
    walk_at "e"
    walk_at "e"
    refine ow_ix (.l _) (atI_nat (j := 0) rfl) ?_
    refine ⟨_, rfl, ⟨_, rfl, (by decide), (by decide)⟩, fun e0 => ?_⟩
    refine wa_cons ?_
    refine we_mkEK ea_BadLine (by walk_at "room") rfl ?_
    walk_at "e"
    walk_at "e"
    walk_at "e"
    refine ow_ix (.l _) (atI_nat (j := 1) rfl) ?_
    refine ⟨_, rfl, (log15 (by omega)), fun e1 => ?_⟩
    refine wa_one ?_
    refine we_mkEK ea_Contradiction (by walk_at "room") rfl ?_
    walk_at "e"
    walk_at "e"
    walk_at "e"
    refine ow_ix (.l _) (atI_nat (j := 2) rfl) ?_
    refine ⟨_, rfl, ⟨[u, 0, 1], rfl, (by simp), (fun i hi => log15s hi (by simp; omega))⟩, fun e2 => ?_⟩
    refine ⟨by simp, (by intro d; simp), fun p13 => ?_⟩
    refine wb_cons ?_
    refine ws_set 5 sc_right_l.nd n5 (by walk_at "loc") (by first | exact .inl rfl | exact .inr rfl) ?_
    walk_at "e"
    walk_at "e"
    refine we_lstP ?_
    refine wa_cons ?_
    refine we_mkEK ea_Stuck (by walk_at "room") rfl ?_
    walk_at "e"
    walk_at "e"
    walk_at "e"
    refine ow_ix (.l _) (atI_nat (j := 3) rfl) ?_
    refine ⟨_, rfl, ⟨[u], rfl, (by simp), (fun i hi => log15s hi (by simp; omega))⟩, fun e3 => ?_⟩
    refine wa_cons ?_
    refine we_mkEK ea_Misfit (by walk_at "room") rfl ?_
    walk_at "e"
    walk_at "e"
    walk_at "e"
    refine ow_ix (.l _) (atI_nat (j := 4) rfl) ?_
    refine ⟨_, rfl, (log15 (by omega)), fun e4 => ?_⟩
    refine wa_one ?_
    refine we_mkEK ea_NoInvitation (by walk_at "room") rfl ?_
    walk_at "e"
    walk_at "e"
    walk_at "e"
    refine ow_ix (.l _) (atI_nat (j := 5) rfl) ?_
    refine ⟨_, rfl, ⟨[u], rfl, (by simp), (fun i hi => log15s hi (by simp; omega))⟩, fun e5 => ?_⟩
    refine ⟨by simp, (by intro d; simp), fun p14 => ?_⟩
    refine ow_catCC 1 0 rfl rfl (by simp) fun p15 => ?_
    refine wb_dropAt 1 rfl ?_
    refine wb_dropAt 1 rfl ?_
    refine wb_cons ?_
    refine ws_set 5 sc_right_l.nd n5 (by walk_at "loc") (by first | exact .inl rfl | exact .inr rfl) ?_
    walk_at "e"
    walk_at "e"
    refine we_lstP ?_
    refine wa_cons ?_
    refine we_mkEK ea_NoPerson (by walk_at "room") rfl ?_
    walk_at "e"
    walk_at "e"
    walk_at "e"
    refine ow_ix (.l _) (atI_nat (j := 6) rfl) ?_
    refine ⟨_, rfl, (log15 (by omega)), fun e6 => ?_⟩
    refine wa_cons ?_
    refine we_mkEK ea_NoPlace (by walk_at "room") rfl ?_
    walk_at "e"
    walk_at "e"
    walk_at "e"
    refine ow_ix (.l _) (atI_nat (j := 7) rfl) ?_
    refine ⟨_, rfl, (log15 (by omega)), fun e7 => ?_⟩
    refine wa_one ?_
    refine we_mkEK ea_NoNumber (by walk_at "room") rfl ?_
    walk_at "e"
    walk_at "e"
    walk_at "e"
    refine ow_ix (.l _) (atI_nat (j := 8) rfl) ?_
    refine ⟨_, rfl, (log15 (by omega)), fun e8 => ?_⟩
    refine ⟨by simp, (by intro d; simp), fun p16 => ?_⟩
    refine ow_catCC 1 0 rfl rfl (by simp) fun p17 => ?_
    refine wb_dropAt 1 rfl ?_
    refine wb_dropAt 1 rfl ?_
    refine wb_cons ?_
    refine ws_set 5 sc_right_l.nd n5 (by walk_at "loc") (by first | exact .inl rfl | exact .inr rfl) ?_
    walk_at "e"
    walk_at "e"
    refine we_lstP ?_
    refine wa_cons ?_
    refine we_mkEK ea_NoOperation (by walk_at "room") rfl ?_
    walk_at "e"
    walk_at "e"
    walk_at "e"
    refine ow_ix (.l _) (atI_nat (j := 9) rfl) ?_
    refine ⟨_, rfl, (log15 (by omega)), fun e9 => ?_⟩
    refine wa_cons ?_
    refine we_mkEK ea_Blocked (by walk_at "room") rfl ?_
    walk_at "e"
    walk_at "e"
    walk_at "e"
    refine ow_ix (.l _) (atI_nat (j := 10) rfl) ?_
    refine ⟨_, rfl, ⟨[u, ((u + 1) % 20)], rfl, (by simp), (fun i hi => log15s hi (by simp; omega))⟩, fun e10 => ?_⟩
    refine wa_one ?_
    refine we_mkEK ea_Early (by walk_at "room") rfl ?_
    walk_at "e"
    walk_at "e"
    walk_at "e"
    refine ow_ix (.l _) (atI_nat (j := 11) rfl) ?_
    refine ⟨_, rfl, (log15 (by omega)), fun e11 => ?_⟩
    refine ⟨by simp, (by intro d; simp), fun p18 => ?_⟩
    refine ow_catCC 1 0 rfl rfl (by simp) fun p19 => ?_
    refine wb_dropAt 1 rfl ?_
    refine wb_dropAt 1 rfl ?_
    refine wb_cons ?_
    refine ws_set 5 sc_right_l.nd n5 (by walk_at "loc") (by first | exact .inl rfl | exact .inr rfl) ?_
    walk_at "e"
    walk_at "e"
    refine we_lstP ?_
    refine wa_cons ?_
    refine we_mkEK ea_Here (by walk_at "room") rfl ?_
    walk_at "e"
    walk_at "e"
    walk_at "e"
    refine ow_ix (.l _) (atI_nat (j := 12) rfl) ?_
    refine ⟨_, rfl, (log15 (by omega)), fun e12 => ?_⟩
    refine wa_cons ?_
    refine we_mkEK ea_TooMany (by walk_at "room") rfl ?_
    walk_at "e"
    walk_at "e"
    walk_at "e"
    refine ow_ix (.l _) (atI_nat (j := 13) rfl) ?_
    refine ⟨_, rfl, (log15 (by omega)), fun e13 => ?_⟩
    refine wa_one ?_
    refine we_mkEK ea_Full (by walk_at "room") rfl ?_
    walk_at "e"
    walk_at "e"
    walk_at "e"
    refine ow_ix (.l _) (atI_nat (j := 14) rfl) ?_
    refine ⟨_, rfl, (log15 (by omega)), fun e14 => ?_⟩
    refine ⟨by simp, (by intro d; simp), fun p20 => ?_⟩
    refine ow_catCC 1 0 rfl rfl (by simp) fun p21 => ?_
    refine wb_dropAt 1 rfl ?_
    refine wb_dropAt 1 rfl ?_
    refine wb_frzM 0 5 rfl rfl ?_
    refine wb_at (δ2 := [some (.a b), some (.d (.int u)), some (.d (.int v)), some (.d (.list [(.str ("x" : Str)), (.int u), (.tuple [(.int u), (.int 0), (.int 1)]), (.tuple [(.int u)]), (.int u), (.tuple [(.int u)]), (.int (v - 500)), (.int v), (.int (v - 7)), (.int (61 + u)), (.tuple [(.int u), (.int ((u + 1) % 20))]), (.int u), (.int u), (.int (301 + v)), (.int 20)])), some (.m p12 false ([exI a0 c_BadText "text" (.str ("x" : Str)), exI a1 c_BadLine "number" (.int u), exI a2 c_Contradiction "evidence" (.tuple [(.int u), (.int 0), (.int 1)]), exI a3 c_Stuck "people" (.tuple [(.int u)]), exI a4 c_Misfit "place" (.int u), exI a5 c_NoInvitation "people" (.tuple [(.int u)]), exI a6 c_NoPerson "person" (.int (v - 500)), exI a7 c_NoPlace "place" (.int v), exI a8 c_NoNumber "number" (.int (v - 7)), exI a9 c_NoOperation "many" (.int (61 + u)), exI a10 c_Blocked "pair" (.tuple [(.int u), (.int ((u + 1) % 20))]), exI a11 c_Early "person" (.int u), exI a12 c_Here "person" (.int u), exI a13 c_TooMany "many" (.int (301 + v)), exI a14 c_Full "many" (.int 20)])), some (.m p21 false ([exI e0 c_BadText "text" (.str ("x" : Str)), exI e1 c_BadLine "number" (.int u), exI e2 c_Contradiction "evidence" (.tuple [(.int u), (.int 0), (.int 1)]), exI e3 c_Stuck "people" (.tuple [(.int u)]), exI e4 c_Misfit "place" (.int u), exI e5 c_NoInvitation "people" (.tuple [(.int u)]), exI e6 c_NoPerson "person" (.int (v - 500)), exI e7 c_NoPlace "place" (.int v), exI e8 c_NoNumber "number" (.int (v - 7)), exI e9 c_NoOperation "many" (.int (61 + u)), exI e10 c_Blocked "pair" (.tuple [(.int u), (.int ((u + 1) % 20))]), exI e11 c_Early "person" (.int u), exI e12 c_Here "person" (.int u), exI e13 c_TooMany "many" (.int (301 + v)), exI e14 c_Full "many" (.int 20)])), none, none, none, none, none]) (by with_unfolding_all rfl) ?_
    refine wb_cons ?_
    refine ws_forU [6] PassesOwn.never rfl ?_
    refine wa_cons ?_
    walk_at "e"
    refine wa_one ?_
    walk_at "e"
    refine ⟨by simp, fun i δ' μ' => ∃ x6 x7 x8, δ' = [some (.a b), some (.d (.int u)), some (.d (.int v)), some (.d (.list [(.str ("x" : Str)), (.int u), (.tuple [(.int u), (.int 0), (.int 1)]), (.tuple [(.int u)]), (.int u), (.tuple [(.int u)]), (.int (v - 500)), (.int v), (.int (v - 7)), (.int (61 + u)), (.tuple [(.int u), (.int ((u + 1) % 20))]), (.int u), (.int u), (.int (301 + v)), (.int 20)])), some (.m p12 false ([exI a0 c_BadText "text" (.str ("x" : Str)), exI a1 c_BadLine "number" (.int u), exI a2 c_Contradiction "evidence" (.tuple [(.int u), (.int 0), (.int 1)]), exI a3 c_Stuck "people" (.tuple [(.int u)]), exI a4 c_Misfit "place" (.int u), exI a5 c_NoInvitation "people" (.tuple [(.int u)]), exI a6 c_NoPerson "person" (.int (v - 500)), exI a7 c_NoPlace "place" (.int v), exI a8 c_NoNumber "number" (.int (v - 7)), exI a9 c_NoOperation "many" (.int (61 + u)), exI a10 c_Blocked "pair" (.tuple [(.int u), (.int ((u + 1) % 20))]), exI a11 c_Early "person" (.int u), exI a12 c_Here "person" (.int u), exI a13 c_TooMany "many" (.int (301 + v)), exI a14 c_Full "many" (.int 20)])), some (.m p21 false ([exI e0 c_BadText "text" (.str ("x" : Str)), exI e1 c_BadLine "number" (.int u), exI e2 c_Contradiction "evidence" (.tuple [(.int u), (.int 0), (.int 1)]), exI e3 c_Stuck "people" (.tuple [(.int u)]), exI e4 c_Misfit "place" (.int u), exI e5 c_NoInvitation "people" (.tuple [(.int u)]), exI e6 c_NoPerson "person" (.int (v - 500)), exI e7 c_NoPlace "place" (.int v), exI e8 c_NoNumber "number" (.int (v - 7)), exI e9 c_NoOperation "many" (.int (61 + u)), exI e10 c_Blocked "pair" (.tuple [(.int u), (.int ((u + 1) % 20))]), exI e11 c_Early "person" (.int u), exI e12 c_Here "person" (.int u), exI e13 c_TooMany "many" (.int (301 + v)), exI e14 c_Full "many" (.int 20)])), x6, x7, x8, none, none] ∧ μ' = ([(b, (bs2 : Cont))] : Cells), ⟨_, _, _, rfl, rfl⟩, fun i x δ' μ' hx hI => ?_, fun δ' μ' hI => ?_⟩
    · obtain ⟨x6, x7, x8, rfl, rfl⟩ := hI
      obtain ⟨pz, d0, d1, d2, d3, d4, d5, d6, d7, d8, d9, d10, d11, d12, d13, d14, rfl⟩ : ∃ (pz : Addr) (d0 d1 d2 d3 d4 d5 d6 d7 d8 d9 d10 d11 d12 d13 d14 : Addr), x = .m pz false [exI d0 c_BadText "text" (.str ("x" : Str)), exI d1 c_BadLine "number" (.int u), exI d2 c_Contradiction "evidence" (.tuple [(.int u), (.int 0), (.int 1)]), exI d3 c_Stuck "people" (.tuple [(.int u)]), exI d4 c_Misfit "place" (.int u), exI d5 c_NoInvitation "people" (.tuple [(.int u)]), exI d6 c_NoPerson "person" (.int (v - 500)), exI d7 c_NoPlace "place" (.int v), exI d8 c_NoNumber "number" (.int (v - 7)), exI d9 c_NoOperation "many" (.int (61 + u)), exI d10 c_Blocked "pair" (.tuple [(.int u), (.int ((u + 1) % 20))]), exI d11 c_Early "person" (.int u), exI d12 c_Here "person" (.int u), exI d13 c_TooMany "many" (.int (301 + v)), exI d14 c_Full "many" (.int 20)] := by
        rcases i with _ | _ | i
        · exact ⟨_, _, _, _, _, _, _, _, _, _, _, _, _, _, _, _, (Option.some.inj hx).symm⟩
        · exact ⟨_, _, _, _, _, _, _, _, _, _, _, _, _, _, _, _, (Option.some.inj hx).symm⟩
        · exact absurd hx (by simp)
      refine wg_name 6 sc_right_l.nd n6 (by walk_at "loc") (by first | exact .inl rfl | exact .inr rfl) (by decide) ?_
      refine wb_cons ?_
      refine ws_set 7 sc_right_l.nd n7 (by walk_at "loc") (by first | exact .inl rfl | exact .inr rfl) ?_
      refine we_fz ?_
      refine we_lst ?_
      refine wa_cons ?_
      refine we_xf ?_
      walk_at "e"
      walk_at "e"
      walk_at "e"
      refine ow_ixM (atI_nat (j := 0) rfl) (.e _ _ _ _) ?_
      refine ⟨_, _, _, _, rfl, x_BadText, f_BadText, ?_⟩
      refine wa_cons ?_
      refine we_xf ?_
      walk_at "e"
      walk_at "e"
      walk_at "e"
      refine ow_ixM (atI_nat (j := 1) rfl) (.e _ _ _ _) ?_
      refine ⟨_, _, _, _, rfl, x_BadLine, f_BadLine, ?_⟩
      refine wa_cons ?_
      refine we_xf ?_
      walk_at "e"
      walk_at "e"
      walk_at "e"
      refine ow_ixM (atI_nat (j := 2) rfl) (.e _ _ _ _) ?_
      refine ⟨_, _, _, _, rfl, x_Contradiction, f_Contradiction, ?_⟩
      refine wa_cons ?_
      refine we_xf ?_
      walk_at "e"
      walk_at "e"
      walk_at "e"
      refine ow_ixM (atI_nat (j := 3) rfl) (.e _ _ _ _) ?_
      refine ⟨_, _, _, _, rfl, x_Stuck, f_Stuck, ?_⟩
      refine wa_cons ?_
      refine we_xf ?_
      walk_at "e"
      walk_at "e"
      walk_at "e"
      refine ow_ixM (atI_nat (j := 4) rfl) (.e _ _ _ _) ?_
      refine ⟨_, _, _, _, rfl, x_Misfit, f_Misfit, ?_⟩
      refine wa_one ?_
      refine we_xf ?_
      walk_at "e"
      walk_at "e"
      walk_at "e"
      refine ow_ixM (atI_nat (j := 5) rfl) (.e _ _ _ _) ?_
      refine ⟨_, _, _, _, rfl, x_NoInvitation, f_NoInvitation, ?_⟩
      refine ⟨[(.str ("x" : Str)), (.int u), (.tuple [(.int u), (.int 0), (.int 1)]), (.tuple [(.int u)]), (.int u), (.tuple [(.int u)])], rfl, by simp, fun p22 => ⟨p22, _, _, rfl, rfl, by walk_at "pl", ?_⟩⟩
      refine wb_at (δ2 := [some (.a b), some (.d (.int u)), some (.d (.int v)), some (.d (.list [(.str ("x" : Str)), (.int u), (.tuple [(.int u), (.int 0), (.int 1)]), (.tuple [(.int u)]), (.int u), (.tuple [(.int u)]), (.int (v - 500)), (.int v), (.int (v - 7)), (.int (61 + u)), (.tuple [(.int u), (.int ((u + 1) % 20))]), (.int u), (.int u), (.int (301 + v)), (.int 20)])), some (.m p12 false ([exI a0 c_BadText "text" (.str ("x" : Str)), exI a1 c_BadLine "number" (.int u), exI a2 c_Contradiction "evidence" (.tuple [(.int u), (.int 0), (.int 1)]), exI a3 c_Stuck "people" (.tuple [(.int u)]), exI a4 c_Misfit "place" (.int u), exI a5 c_NoInvitation "people" (.tuple [(.int u)]), exI a6 c_NoPerson "person" (.int (v - 500)), exI a7 c_NoPlace "place" (.int v), exI a8 c_NoNumber "number" (.int (v - 7)), exI a9 c_NoOperation "many" (.int (61 + u)), exI a10 c_Blocked "pair" (.tuple [(.int u), (.int ((u + 1) % 20))]), exI a11 c_Early "person" (.int u), exI a12 c_Here "person" (.int u), exI a13 c_TooMany "many" (.int (301 + v)), exI a14 c_Full "many" (.int 20)])), some (.m p21 false ([exI e0 c_BadText "text" (.str ("x" : Str)), exI e1 c_BadLine "number" (.int u), exI e2 c_Contradiction "evidence" (.tuple [(.int u), (.int 0), (.int 1)]), exI e3 c_Stuck "people" (.tuple [(.int u)]), exI e4 c_Misfit "place" (.int u), exI e5 c_NoInvitation "people" (.tuple [(.int u)]), exI e6 c_NoPerson "person" (.int (v - 500)), exI e7 c_NoPlace "place" (.int v), exI e8 c_NoNumber "number" (.int (v - 7)), exI e9 c_NoOperation "many" (.int (61 + u)), exI e10 c_Blocked "pair" (.tuple [(.int u), (.int ((u + 1) % 20))]), exI e11 c_Early "person" (.int u), exI e12 c_Here "person" (.int u), exI e13 c_TooMany "many" (.int (301 + v)), exI e14 c_Full "many" (.int 20)])), some (.m pz false ([exI d0 c_BadText "text" (.str ("x" : Str)), exI d1 c_BadLine "number" (.int u), exI d2 c_Contradiction "evidence" (.tuple [(.int u), (.int 0), (.int 1)]), exI d3 c_Stuck "people" (.tuple [(.int u)]), exI d4 c_Misfit "place" (.int u), exI d5 c_NoInvitation "people" (.tuple [(.int u)]), exI d6 c_NoPerson "person" (.int (v - 500)), exI d7 c_NoPlace "place" (.int v), exI d8 c_NoNumber "number" (.int (v - 7)), exI d9 c_NoOperation "many" (.int (61 + u)), exI d10 c_Blocked "pair" (.tuple [(.int u), (.int ((u + 1) % 20))]), exI d11 c_Early "person" (.int u), exI d12 c_Here "person" (.int u), exI d13 c_TooMany "many" (.int (301 + v)), exI d14 c_Full "many" (.int 20)])), some (.d (.list [(.str ("x" : Str)), (.int u), (.tuple [(.int u), (.int 0), (.int 1)]), (.tuple [(.int u)]), (.int u), (.tuple [(.int u)])])), x8, none, none]) (by with_unfolding_all rfl) ?_
      refine wb_cons ?_
      refine ws_set 7 sc_right_l.nd n7 (by walk_at "loc") (by first | exact .inl rfl | exact .inr rfl) ?_
      refine we_fz ?_
      walk_at "e"
      walk_at "e"
      refine we_fz ?_
      refine we_lst ?_
      refine wa_cons ?_
      refine we_xf ?_
      walk_at "e"
      walk_at "e"
      walk_at "e"
      refine ow_ixM (atI_nat (j := 6) rfl) (.e _ _ _ _) ?_
      refine ⟨_, _, _, _, rfl, x_NoPerson, f_NoPerson, ?_⟩
      refine wa_cons ?_
      refine we_xf ?_
      walk_at "e"
      walk_at "e"
      walk_at "e"
      refine ow_ixM (atI_nat (j := 7) rfl) (.e _ _ _ _) ?_
      refine ⟨_, _, _, _, rfl, x_NoPlace, f_NoPlace, ?_⟩
      refine wa_cons ?_
      refine we_xf ?_
      walk_at "e"
      walk_at "e"
      walk_at "e"
      refine ow_ixM (atI_nat (j := 8) rfl) (.e _ _ _ _) ?_
      refine ⟨_, _, _, _, rfl, x_NoNumber, f_NoNumber, ?_⟩
      refine wa_cons ?_
      refine we_xf ?_
      walk_at "e"
      walk_at "e"
      walk_at "e"
      refine ow_ixM (atI_nat (j := 9) rfl) (.e _ _ _ _) ?_
      refine ⟨_, _, _, _, rfl, x_NoOperation, f_NoOperation, ?_⟩
      refine wa_one ?_
      refine we_xf ?_
      walk_at "e"
      walk_at "e"
      walk_at "e"
      refine ow_ixM (atI_nat (j := 10) rfl) (.e _ _ _ _) ?_
      refine ⟨_, _, _, _, rfl, x_Blocked, f_Blocked, ?_⟩
      refine ⟨[(.int (v - 500)), (.int v), (.int (v - 7)), (.int (61 + u)), (.tuple [(.int u), (.int ((u + 1) % 20))])], rfl, by simp, fun p23 => ⟨p23, _, _, rfl, rfl, by walk_at "pl", ?_⟩⟩
      refine ow_catL (by simp) ?_
      refine fun p24 => ⟨p24, _, _, rfl, rfl, by walk_at "pl", ?_⟩
      refine wb_at (δ2 := [some (.a b), some (.d (.int u)), some (.d (.int v)), some (.d (.list [(.str ("x" : Str)), (.int u), (.tuple [(.int u), (.int 0), (.int 1)]), (.tuple [(.int u)]), (.int u), (.tuple [(.int u)]), (.int (v - 500)), (.int v), (.int (v - 7)), (.int (61 + u)), (.tuple [(.int u), (.int ((u + 1) % 20))]), (.int u), (.int u), (.int (301 + v)), (.int 20)])), some (.m p12 false ([exI a0 c_BadText "text" (.str ("x" : Str)), exI a1 c_BadLine "number" (.int u), exI a2 c_Contradiction "evidence" (.tuple [(.int u), (.int 0), (.int 1)]), exI a3 c_Stuck "people" (.tuple [(.int u)]), exI a4 c_Misfit "place" (.int u), exI a5 c_NoInvitation "people" (.tuple [(.int u)]), exI a6 c_NoPerson "person" (.int (v - 500)), exI a7 c_NoPlace "place" (.int v), exI a8 c_NoNumber "number" (.int (v - 7)), exI a9 c_NoOperation "many" (.int (61 + u)), exI a10 c_Blocked "pair" (.tuple [(.int u), (.int ((u + 1) % 20))]), exI a11 c_Early "person" (.int u), exI a12 c_Here "person" (.int u), exI a13 c_TooMany "many" (.int (301 + v)), exI a14 c_Full "many" (.int 20)])), some (.m p21 false ([exI e0 c_BadText "text" (.str ("x" : Str)), exI e1 c_BadLine "number" (.int u), exI e2 c_Contradiction "evidence" (.tuple [(.int u), (.int 0), (.int 1)]), exI e3 c_Stuck "people" (.tuple [(.int u)]), exI e4 c_Misfit "place" (.int u), exI e5 c_NoInvitation "people" (.tuple [(.int u)]), exI e6 c_NoPerson "person" (.int (v - 500)), exI e7 c_NoPlace "place" (.int v), exI e8 c_NoNumber "number" (.int (v - 7)), exI e9 c_NoOperation "many" (.int (61 + u)), exI e10 c_Blocked "pair" (.tuple [(.int u), (.int ((u + 1) % 20))]), exI e11 c_Early "person" (.int u), exI e12 c_Here "person" (.int u), exI e13 c_TooMany "many" (.int (301 + v)), exI e14 c_Full "many" (.int 20)])), some (.m pz false ([exI d0 c_BadText "text" (.str ("x" : Str)), exI d1 c_BadLine "number" (.int u), exI d2 c_Contradiction "evidence" (.tuple [(.int u), (.int 0), (.int 1)]), exI d3 c_Stuck "people" (.tuple [(.int u)]), exI d4 c_Misfit "place" (.int u), exI d5 c_NoInvitation "people" (.tuple [(.int u)]), exI d6 c_NoPerson "person" (.int (v - 500)), exI d7 c_NoPlace "place" (.int v), exI d8 c_NoNumber "number" (.int (v - 7)), exI d9 c_NoOperation "many" (.int (61 + u)), exI d10 c_Blocked "pair" (.tuple [(.int u), (.int ((u + 1) % 20))]), exI d11 c_Early "person" (.int u), exI d12 c_Here "person" (.int u), exI d13 c_TooMany "many" (.int (301 + v)), exI d14 c_Full "many" (.int 20)])), some (.d (.list [(.str ("x" : Str)), (.int u), (.tuple [(.int u), (.int 0), (.int 1)]), (.tuple [(.int u)]), (.int u), (.tuple [(.int u)]), (.int (v - 500)), (.int v), (.int (v - 7)), (.int (61 + u)), (.tuple [(.int u), (.int ((u + 1) % 20))])])), x8, none, none]) (by with_unfolding_all rfl) ?_
      refine wb_cons ?_
      refine ws_set 7 sc_right_l.nd n7 (by walk_at "loc") (by first | exact .inl rfl | exact .inr rfl) ?_
      refine we_fz ?_
      walk_at "e"
      walk_at "e"
      refine we_fz ?_
      refine we_lst ?_
      refine wa_cons ?_
      refine we_xf ?_
      walk_at "e"
      walk_at "e"
      walk_at "e"
      refine ow_ixM (atI_nat (j := 11) rfl) (.e _ _ _ _) ?_
      refine ⟨_, _, _, _, rfl, x_Early, f_Early, ?_⟩
      refine wa_cons ?_
      refine we_xf ?_
      walk_at "e"
      walk_at "e"
      walk_at "e"
      refine ow_ixM (atI_nat (j := 12) rfl) (.e _ _ _ _) ?_
      refine ⟨_, _, _, _, rfl, x_Here, f_Here, ?_⟩
      refine wa_cons ?_
      refine we_xf ?_
      walk_at "e"
      walk_at "e"
      walk_at "e"
      refine ow_ixM (atI_nat (j := 13) rfl) (.e _ _ _ _) ?_
      refine ⟨_, _, _, _, rfl, x_TooMany, f_TooMany, ?_⟩
      refine wa_one ?_
      refine we_xf ?_
      walk_at "e"
      walk_at "e"
      walk_at "e"
      refine ow_ixM (atI_nat (j := 14) rfl) (.e _ _ _ _) ?_
      refine ⟨_, _, _, _, rfl, x_Full, f_Full, ?_⟩
      refine ⟨intsD [u, u, (301 + v), 20], rfl, by simp, fun p25 => ⟨p25, _, _, rfl, rfl, by walk_at "pl", ?_⟩⟩
      refine ow_catL (by simp) ?_
      refine fun p26 => ⟨p26, _, _, rfl, rfl, by walk_at "pl", ?_⟩
      refine wb_at (δ2 := [some (.a b), some (.d (.int u)), some (.d (.int v)), some (.d (.list [(.str ("x" : Str)), (.int u), (.tuple [(.int u), (.int 0), (.int 1)]), (.tuple [(.int u)]), (.int u), (.tuple [(.int u)]), (.int (v - 500)), (.int v), (.int (v - 7)), (.int (61 + u)), (.tuple [(.int u), (.int ((u + 1) % 20))]), (.int u), (.int u), (.int (301 + v)), (.int 20)])), some (.m p12 false ([exI a0 c_BadText "text" (.str ("x" : Str)), exI a1 c_BadLine "number" (.int u), exI a2 c_Contradiction "evidence" (.tuple [(.int u), (.int 0), (.int 1)]), exI a3 c_Stuck "people" (.tuple [(.int u)]), exI a4 c_Misfit "place" (.int u), exI a5 c_NoInvitation "people" (.tuple [(.int u)]), exI a6 c_NoPerson "person" (.int (v - 500)), exI a7 c_NoPlace "place" (.int v), exI a8 c_NoNumber "number" (.int (v - 7)), exI a9 c_NoOperation "many" (.int (61 + u)), exI a10 c_Blocked "pair" (.tuple [(.int u), (.int ((u + 1) % 20))]), exI a11 c_Early "person" (.int u), exI a12 c_Here "person" (.int u), exI a13 c_TooMany "many" (.int (301 + v)), exI a14 c_Full "many" (.int 20)])), some (.m p21 false ([exI e0 c_BadText "text" (.str ("x" : Str)), exI e1 c_BadLine "number" (.int u), exI e2 c_Contradiction "evidence" (.tuple [(.int u), (.int 0), (.int 1)]), exI e3 c_Stuck "people" (.tuple [(.int u)]), exI e4 c_Misfit "place" (.int u), exI e5 c_NoInvitation "people" (.tuple [(.int u)]), exI e6 c_NoPerson "person" (.int (v - 500)), exI e7 c_NoPlace "place" (.int v), exI e8 c_NoNumber "number" (.int (v - 7)), exI e9 c_NoOperation "many" (.int (61 + u)), exI e10 c_Blocked "pair" (.tuple [(.int u), (.int ((u + 1) % 20))]), exI e11 c_Early "person" (.int u), exI e12 c_Here "person" (.int u), exI e13 c_TooMany "many" (.int (301 + v)), exI e14 c_Full "many" (.int 20)])), some (.m pz false ([exI d0 c_BadText "text" (.str ("x" : Str)), exI d1 c_BadLine "number" (.int u), exI d2 c_Contradiction "evidence" (.tuple [(.int u), (.int 0), (.int 1)]), exI d3 c_Stuck "people" (.tuple [(.int u)]), exI d4 c_Misfit "place" (.int u), exI d5 c_NoInvitation "people" (.tuple [(.int u)]), exI d6 c_NoPerson "person" (.int (v - 500)), exI d7 c_NoPlace "place" (.int v), exI d8 c_NoNumber "number" (.int (v - 7)), exI d9 c_NoOperation "many" (.int (61 + u)), exI d10 c_Blocked "pair" (.tuple [(.int u), (.int ((u + 1) % 20))]), exI d11 c_Early "person" (.int u), exI d12 c_Here "person" (.int u), exI d13 c_TooMany "many" (.int (301 + v)), exI d14 c_Full "many" (.int 20)])), some (.d (.list [(.str ("x" : Str)), (.int u), (.tuple [(.int u), (.int 0), (.int 1)]), (.tuple [(.int u)]), (.int u), (.tuple [(.int u)]), (.int (v - 500)), (.int v), (.int (v - 7)), (.int (61 + u)), (.tuple [(.int u), (.int ((u + 1) % 20))]), (.int u), (.int u), (.int (301 + v)), (.int 20)])), x8, none, none]) (by with_unfolding_all rfl) ?_
      refine wb_cons (ws_if ?_)
      refine wt_not ?_
      refine wt_val ?_
      refine we_callP c_law_same (by walk_at "room") rfl ?_
      refine wa_cons ?_
      walk_at "e"
      refine wa_one ?_
      walk_at "e"
      refine ⟨_, rfl, fit15 u v, ?_⟩
      refine ⟨_, rfl, ?_⟩
      refine itF rfl ?_
      refine wb_nil ?_
      refine wb_cons ?_
      refine ws_set 8 sc_right_l.nd n8 (by walk_at "loc") (by first | exact .inl rfl | exact .inr rfl) ?_
      refine we_fz ?_
      walk_at "e"
      refine we_fz ?_
      walk_at "e"
      refine we_fz ?_
      walk_at "e"
      refine we_fz ?_
      walk_at "e"
      refine we_fz ?_
      refine we_lst ?_
      refine wa_one ?_
      walk_at "e"
      refine ⟨intsD [0], rfl, by simp, fun p27 => ⟨p27, _, _, rfl, rfl, by walk_at "pl", ?_⟩⟩
      walk_at "e"
      refine ow_repL (by omega) (by omega) (by simp) fun p28 => ⟨p28, _, _, rfl, rfl, plS_flat _ _, ?_⟩
      skip
      refine we_fz ?_
      walk_at "e"
      refine we_fz ?_
      refine we_lst ?_
      refine wa_one ?_
      walk_at "e"
      refine ⟨intsD [1], rfl, by simp, fun p29 => ⟨p29, _, _, rfl, rfl, by walk_at "pl", ?_⟩⟩
      walk_at "e"
      refine ow_repL (by omega) (by omega) (by simp) fun p30 => ⟨p30, _, _, rfl, rfl, plS_flat _ _, ?_⟩
      skip
      refine ow_catL (by simp) ?_
      refine fun p31 => ⟨p31, _, _, rfl, rfl, by walk_at "pl", ?_⟩
      refine we_fz ?_
      walk_at "e"
      refine we_fz ?_
      refine we_lst ?_
      refine wa_one ?_
      walk_at "e"
      refine ⟨intsD [2], rfl, by simp, fun p32 => ⟨p32, _, _, rfl, rfl, by walk_at "pl", ?_⟩⟩
      walk_at "e"
      refine ow_repL (by omega) (by omega) (by simp) fun p33 => ⟨p33, _, _, rfl, rfl, plS_flat _ _, ?_⟩
      skip
      refine ow_catL (by simp) ?_
      refine fun p34 => ⟨p34, _, _, rfl, rfl, by walk_at "pl", ?_⟩
      refine we_fz ?_
      walk_at "e"
      refine we_fz ?_
      refine we_lst ?_
      refine wa_one ?_
      walk_at "e"
      refine ⟨intsD [3], rfl, by simp, fun p35 => ⟨p35, _, _, rfl, rfl, by walk_at "pl", ?_⟩⟩
      walk_at "e"
      refine ow_repL (by omega) (by omega) (by simp) fun p36 => ⟨p36, _, _, rfl, rfl, plS_flat _ _, ?_⟩
      skip
      refine ow_catL (by simp) ?_
      refine fun p37 => ⟨p37, _, _, rfl, rfl, by walk_at "pl", ?_⟩
      refine wb_at (δ2 := [some (.a b), some (.d (.int u)), some (.d (.int v)), some (.d (.list [(.str ("x" : Str)), (.int u), (.tuple [(.int u), (.int 0), (.int 1)]), (.tuple [(.int u)]), (.int u), (.tuple [(.int u)]), (.int (v - 500)), (.int v), (.int (v - 7)), (.int (61 + u)), (.tuple [(.int u), (.int ((u + 1) % 20))]), (.int u), (.int u), (.int (301 + v)), (.int 20)])), some (.m p12 false ([exI a0 c_BadText "text" (.str ("x" : Str)), exI a1 c_BadLine "number" (.int u), exI a2 c_Contradiction "evidence" (.tuple [(.int u), (.int 0), (.int 1)]), exI a3 c_Stuck "people" (.tuple [(.int u)]), exI a4 c_Misfit "place" (.int u), exI a5 c_NoInvitation "people" (.tuple [(.int u)]), exI a6 c_NoPerson "person" (.int (v - 500)), exI a7 c_NoPlace "place" (.int v), exI a8 c_NoNumber "number" (.int (v - 7)), exI a9 c_NoOperation "many" (.int (61 + u)), exI a10 c_Blocked "pair" (.tuple [(.int u), (.int ((u + 1) % 20))]), exI a11 c_Early "person" (.int u), exI a12 c_Here "person" (.int u), exI a13 c_TooMany "many" (.int (301 + v)), exI a14 c_Full "many" (.int 20)])), some (.m p21 false ([exI e0 c_BadText "text" (.str ("x" : Str)), exI e1 c_BadLine "number" (.int u), exI e2 c_Contradiction "evidence" (.tuple [(.int u), (.int 0), (.int 1)]), exI e3 c_Stuck "people" (.tuple [(.int u)]), exI e4 c_Misfit "place" (.int u), exI e5 c_NoInvitation "people" (.tuple [(.int u)]), exI e6 c_NoPerson "person" (.int (v - 500)), exI e7 c_NoPlace "place" (.int v), exI e8 c_NoNumber "number" (.int (v - 7)), exI e9 c_NoOperation "many" (.int (61 + u)), exI e10 c_Blocked "pair" (.tuple [(.int u), (.int ((u + 1) % 20))]), exI e11 c_Early "person" (.int u), exI e12 c_Here "person" (.int u), exI e13 c_TooMany "many" (.int (301 + v)), exI e14 c_Full "many" (.int 20)])), some (.m pz false ([exI d0 c_BadText "text" (.str ("x" : Str)), exI d1 c_BadLine "number" (.int u), exI d2 c_Contradiction "evidence" (.tuple [(.int u), (.int 0), (.int 1)]), exI d3 c_Stuck "people" (.tuple [(.int u)]), exI d4 c_Misfit "place" (.int u), exI d5 c_NoInvitation "people" (.tuple [(.int u)]), exI d6 c_NoPerson "person" (.int (v - 500)), exI d7 c_NoPlace "place" (.int v), exI d8 c_NoNumber "number" (.int (v - 7)), exI d9 c_NoOperation "many" (.int (61 + u)), exI d10 c_Blocked "pair" (.tuple [(.int u), (.int ((u + 1) % 20))]), exI d11 c_Early "person" (.int u), exI d12 c_Here "person" (.int u), exI d13 c_TooMany "many" (.int (301 + v)), exI d14 c_Full "many" (.int 20)])), some (.d (.list [(.str ("x" : Str)), (.int u), (.tuple [(.int u), (.int 0), (.int 1)]), (.tuple [(.int u)]), (.int u), (.tuple [(.int u)]), (.int (v - 500)), (.int v), (.int (v - 7)), (.int (61 + u)), (.tuple [(.int u), (.int ((u + 1) % 20))]), (.int u), (.int u), (.int (301 + v)), (.int 20)])), some (.d (.list (intsD ([0, 0, 0, 0, 0, 0, 1, 1, 1, 1, 2, 2, 2, 3, 3] : List Int)))), none, none]) (by with_unfolding_all rfl) ?_
      have k_BadText : Kit15 K [c_BadLine, c_BadText, c_Blocked, c_Contradiction, c_Early, c_Full, c_Here, c_Misfit, c_NoInvitation, c_NoNumber, c_NoOperation, c_NoPerson, c_NoPlace, c_Stuck, c_TooMany] c_BadText 0 := ⟨"ValueError", _, x_BadText, fl15_mk (kit_sub x_BadText x_BadLine s_BadText_BadLine) (kit_sub x_BadText x_BadText x_BadText.me) (kit_sub x_BadText x_Blocked s_BadText_Blocked) (kit_sub x_BadText x_Contradiction s_BadText_Contradiction) (kit_sub x_BadText x_Early s_BadText_Early) (kit_sub x_BadText x_Full s_BadText_Full) (kit_sub x_BadText x_Here s_BadText_Here) (kit_sub x_BadText x_Misfit s_BadText_Misfit) (kit_sub x_BadText x_NoInvitation s_BadText_NoInvitation) (kit_sub x_BadText x_NoNumber s_BadText_NoNumber) (kit_sub x_BadText x_NoOperation s_BadText_NoOperation) (kit_sub x_BadText x_NoPerson s_BadText_NoPerson) (kit_sub x_BadText x_NoPlace s_BadText_NoPlace) (kit_sub x_BadText x_Stuck s_BadText_Stuck) (kit_sub x_BadText x_TooMany s_BadText_TooMany), by decide, .inl ⟨rfl, rfl⟩⟩
      have k_BadLine : Kit15 K [c_BadLine, c_BadText, c_Blocked, c_Contradiction, c_Early, c_Full, c_Here, c_Misfit, c_NoInvitation, c_NoNumber, c_NoOperation, c_NoPerson, c_NoPlace, c_Stuck, c_TooMany] c_BadLine 0 := ⟨"ValueError", _, x_BadLine, fl15_mk (kit_sub x_BadLine x_BadLine x_BadLine.me) (kit_sub x_BadLine x_BadText s_BadLine_BadText) (kit_sub x_BadLine x_Blocked s_BadLine_Blocked) (kit_sub x_BadLine x_Contradiction s_BadLine_Contradiction) (kit_sub x_BadLine x_Early s_BadLine_Early) (kit_sub x_BadLine x_Full s_BadLine_Full) (kit_sub x_BadLine x_Here s_BadLine_Here) (kit_sub x_BadLine x_Misfit s_BadLine_Misfit) (kit_sub x_BadLine x_NoInvitation s_BadLine_NoInvitation) (kit_sub x_BadLine x_NoNumber s_BadLine_NoNumber) (kit_sub x_BadLine x_NoOperation s_BadLine_NoOperation) (kit_sub x_BadLine x_NoPerson s_BadLine_NoPerson) (kit_sub x_BadLine x_NoPlace s_BadLine_NoPlace) (kit_sub x_BadLine x_Stuck s_BadLine_Stuck) (kit_sub x_BadLine x_TooMany s_BadLine_TooMany), by decide, .inl ⟨rfl, rfl⟩⟩
      have k_Contradiction : Kit15 K [c_BadLine, c_BadText, c_Blocked, c_Contradiction, c_Early, c_Full, c_Here, c_Misfit, c_NoInvitation, c_NoNumber, c_NoOperation, c_NoPerson, c_NoPlace, c_Stuck, c_TooMany] c_Contradiction 0 := ⟨"ValueError", _, x_Contradiction, fl15_mk (kit_sub x_Contradiction x_BadLine s_Contradiction_BadLine) (kit_sub x_Contradiction x_BadText s_Contradiction_BadText) (kit_sub x_Contradiction x_Blocked s_Contradiction_Blocked) (kit_sub x_Contradiction x_Contradiction x_Contradiction.me) (kit_sub x_Contradiction x_Early s_Contradiction_Early) (kit_sub x_Contradiction x_Full s_Contradiction_Full) (kit_sub x_Contradiction x_Here s_Contradiction_Here) (kit_sub x_Contradiction x_Misfit s_Contradiction_Misfit) (kit_sub x_Contradiction x_NoInvitation s_Contradiction_NoInvitation) (kit_sub x_Contradiction x_NoNumber s_Contradiction_NoNumber) (kit_sub x_Contradiction x_NoOperation s_Contradiction_NoOperation) (kit_sub x_Contradiction x_NoPerson s_Contradiction_NoPerson) (kit_sub x_Contradiction x_NoPlace s_Contradiction_NoPlace) (kit_sub x_Contradiction x_Stuck s_Contradiction_Stuck) (kit_sub x_Contradiction x_TooMany s_Contradiction_TooMany), by decide, .inl ⟨rfl, rfl⟩⟩
      have k_Stuck : Kit15 K [c_BadLine, c_BadText, c_Blocked, c_Contradiction, c_Early, c_Full, c_Here, c_Misfit, c_NoInvitation, c_NoNumber, c_NoOperation, c_NoPerson, c_NoPlace, c_Stuck, c_TooMany] c_Stuck 0 := ⟨"ValueError", _, x_Stuck, fl15_mk (kit_sub x_Stuck x_BadLine s_Stuck_BadLine) (kit_sub x_Stuck x_BadText s_Stuck_BadText) (kit_sub x_Stuck x_Blocked s_Stuck_Blocked) (kit_sub x_Stuck x_Contradiction s_Stuck_Contradiction) (kit_sub x_Stuck x_Early s_Stuck_Early) (kit_sub x_Stuck x_Full s_Stuck_Full) (kit_sub x_Stuck x_Here s_Stuck_Here) (kit_sub x_Stuck x_Misfit s_Stuck_Misfit) (kit_sub x_Stuck x_NoInvitation s_Stuck_NoInvitation) (kit_sub x_Stuck x_NoNumber s_Stuck_NoNumber) (kit_sub x_Stuck x_NoOperation s_Stuck_NoOperation) (kit_sub x_Stuck x_NoPerson s_Stuck_NoPerson) (kit_sub x_Stuck x_NoPlace s_Stuck_NoPlace) (kit_sub x_Stuck x_Stuck x_Stuck.me) (kit_sub x_Stuck x_TooMany s_Stuck_TooMany), by decide, .inl ⟨rfl, rfl⟩⟩
      have k_Misfit : Kit15 K [c_BadLine, c_BadText, c_Blocked, c_Contradiction, c_Early, c_Full, c_Here, c_Misfit, c_NoInvitation, c_NoNumber, c_NoOperation, c_NoPerson, c_NoPlace, c_Stuck, c_TooMany] c_Misfit 0 := ⟨"ValueError", _, x_Misfit, fl15_mk (kit_sub x_Misfit x_BadLine s_Misfit_BadLine) (kit_sub x_Misfit x_BadText s_Misfit_BadText) (kit_sub x_Misfit x_Blocked s_Misfit_Blocked) (kit_sub x_Misfit x_Contradiction s_Misfit_Contradiction) (kit_sub x_Misfit x_Early s_Misfit_Early) (kit_sub x_Misfit x_Full s_Misfit_Full) (kit_sub x_Misfit x_Here s_Misfit_Here) (kit_sub x_Misfit x_Misfit x_Misfit.me) (kit_sub x_Misfit x_NoInvitation s_Misfit_NoInvitation) (kit_sub x_Misfit x_NoNumber s_Misfit_NoNumber) (kit_sub x_Misfit x_NoOperation s_Misfit_NoOperation) (kit_sub x_Misfit x_NoPerson s_Misfit_NoPerson) (kit_sub x_Misfit x_NoPlace s_Misfit_NoPlace) (kit_sub x_Misfit x_Stuck s_Misfit_Stuck) (kit_sub x_Misfit x_TooMany s_Misfit_TooMany), by decide, .inl ⟨rfl, rfl⟩⟩
      have k_NoInvitation : Kit15 K [c_BadLine, c_BadText, c_Blocked, c_Contradiction, c_Early, c_Full, c_Here, c_Misfit, c_NoInvitation, c_NoNumber, c_NoOperation, c_NoPerson, c_NoPlace, c_Stuck, c_TooMany] c_NoInvitation 0 := ⟨"ValueError", _, x_NoInvitation, fl15_mk (kit_sub x_NoInvitation x_BadLine s_NoInvitation_BadLine) (kit_sub x_NoInvitation x_BadText s_NoInvitation_BadText) (kit_sub x_NoInvitation x_Blocked s_NoInvitation_Blocked) (kit_sub x_NoInvitation x_Contradiction s_NoInvitation_Contradiction) (kit_sub x_NoInvitation x_Early s_NoInvitation_Early) (kit_sub x_NoInvitation x_Full s_NoInvitation_Full) (kit_sub x_NoInvitation x_Here s_NoInvitation_Here) (kit_sub x_NoInvitation x_Misfit s_NoInvitation_Misfit) (kit_sub x_NoInvitation x_NoInvitation x_NoInvitation.me) (kit_sub x_NoInvitation x_NoNumber s_NoInvitation_NoNumber) (kit_sub x_NoInvitation x_NoOperation s_NoInvitation_NoOperation) (kit_sub x_NoInvitation x_NoPerson s_NoInvitation_NoPerson) (kit_sub x_NoInvitation x_NoPlace s_NoInvitation_NoPlace) (kit_sub x_NoInvitation x_Stuck s_NoInvitation_Stuck) (kit_sub x_NoInvitation x_TooMany s_NoInvitation_TooMany), by decide, .inl ⟨rfl, rfl⟩⟩
      have k_NoPerson : Kit15 K [c_BadLine, c_BadText, c_Blocked, c_Contradiction, c_Early, c_Full, c_Here, c_Misfit, c_NoInvitation, c_NoNumber, c_NoOperation, c_NoPerson, c_NoPlace, c_Stuck, c_TooMany] c_NoPerson 1 := ⟨"LookupError", _, x_NoPerson, fl15_mk (kit_sub x_NoPerson x_BadLine s_NoPerson_BadLine) (kit_sub x_NoPerson x_BadText s_NoPerson_BadText) (kit_sub x_NoPerson x_Blocked s_NoPerson_Blocked) (kit_sub x_NoPerson x_Contradiction s_NoPerson_Contradiction) (kit_sub x_NoPerson x_Early s_NoPerson_Early) (kit_sub x_NoPerson x_Full s_NoPerson_Full) (kit_sub x_NoPerson x_Here s_NoPerson_Here) (kit_sub x_NoPerson x_Misfit s_NoPerson_Misfit) (kit_sub x_NoPerson x_NoInvitation s_NoPerson_NoInvitation) (kit_sub x_NoPerson x_NoNumber s_NoPerson_NoNumber) (kit_sub x_NoPerson x_NoOperation s_NoPerson_NoOperation) (kit_sub x_NoPerson x_NoPerson x_NoPerson.me) (kit_sub x_NoPerson x_NoPlace s_NoPerson_NoPlace) (kit_sub x_NoPerson x_Stuck s_NoPerson_Stuck) (kit_sub x_NoPerson x_TooMany s_NoPerson_TooMany), by decide, .inr (.inl ⟨rfl, rfl⟩)⟩
      have k_NoPlace : Kit15 K [c_BadLine, c_BadText, c_Blocked, c_Contradiction, c_Early, c_Full, c_Here, c_Misfit, c_NoInvitation, c_NoNumber, c_NoOperation, c_NoPerson, c_NoPlace, c_Stuck, c_TooMany] c_NoPlace 1 := ⟨"LookupError", _, x_NoPlace, fl15_mk (kit_sub x_NoPlace x_BadLine s_NoPlace_BadLine) (kit_sub x_NoPlace x_BadText s_NoPlace_BadText) (kit_sub x_NoPlace x_Blocked s_NoPlace_Blocked) (kit_sub x_NoPlace x_Contradiction s_NoPlace_Contradiction) (kit_sub x_NoPlace x_Early s_NoPlace_Early) (kit_sub x_NoPlace x_Full s_NoPlace_Full) (kit_sub x_NoPlace x_Here s_NoPlace_Here) (kit_sub x_NoPlace x_Misfit s_NoPlace_Misfit) (kit_sub x_NoPlace x_NoInvitation s_NoPlace_NoInvitation) (kit_sub x_NoPlace x_NoNumber s_NoPlace_NoNumber) (kit_sub x_NoPlace x_NoOperation s_NoPlace_NoOperation) (kit_sub x_NoPlace x_NoPerson s_NoPlace_NoPerson) (kit_sub x_NoPlace x_NoPlace x_NoPlace.me) (kit_sub x_NoPlace x_Stuck s_NoPlace_Stuck) (kit_sub x_NoPlace x_TooMany s_NoPlace_TooMany), by decide, .inr (.inl ⟨rfl, rfl⟩)⟩
      have k_NoNumber : Kit15 K [c_BadLine, c_BadText, c_Blocked, c_Contradiction, c_Early, c_Full, c_Here, c_Misfit, c_NoInvitation, c_NoNumber, c_NoOperation, c_NoPerson, c_NoPlace, c_Stuck, c_TooMany] c_NoNumber 1 := ⟨"LookupError", _, x_NoNumber, fl15_mk (kit_sub x_NoNumber x_BadLine s_NoNumber_BadLine) (kit_sub x_NoNumber x_BadText s_NoNumber_BadText) (kit_sub x_NoNumber x_Blocked s_NoNumber_Blocked) (kit_sub x_NoNumber x_Contradiction s_NoNumber_Contradiction) (kit_sub x_NoNumber x_Early s_NoNumber_Early) (kit_sub x_NoNumber x_Full s_NoNumber_Full) (kit_sub x_NoNumber x_Here s_NoNumber_Here) (kit_sub x_NoNumber x_Misfit s_NoNumber_Misfit) (kit_sub x_NoNumber x_NoInvitation s_NoNumber_NoInvitation) (kit_sub x_NoNumber x_NoNumber x_NoNumber.me) (kit_sub x_NoNumber x_NoOperation s_NoNumber_NoOperation) (kit_sub x_NoNumber x_NoPerson s_NoNumber_NoPerson) (kit_sub x_NoNumber x_NoPlace s_NoNumber_NoPlace) (kit_sub x_NoNumber x_Stuck s_NoNumber_Stuck) (kit_sub x_NoNumber x_TooMany s_NoNumber_TooMany), by decide, .inr (.inl ⟨rfl, rfl⟩)⟩
      have k_NoOperation : Kit15 K [c_BadLine, c_BadText, c_Blocked, c_Contradiction, c_Early, c_Full, c_Here, c_Misfit, c_NoInvitation, c_NoNumber, c_NoOperation, c_NoPerson, c_NoPlace, c_Stuck, c_TooMany] c_NoOperation 1 := ⟨"LookupError", _, x_NoOperation, fl15_mk (kit_sub x_NoOperation x_BadLine s_NoOperation_BadLine) (kit_sub x_NoOperation x_BadText s_NoOperation_BadText) (kit_sub x_NoOperation x_Blocked s_NoOperation_Blocked) (kit_sub x_NoOperation x_Contradiction s_NoOperation_Contradiction) (kit_sub x_NoOperation x_Early s_NoOperation_Early) (kit_sub x_NoOperation x_Full s_NoOperation_Full) (kit_sub x_NoOperation x_Here s_NoOperation_Here) (kit_sub x_NoOperation x_Misfit s_NoOperation_Misfit) (kit_sub x_NoOperation x_NoInvitation s_NoOperation_NoInvitation) (kit_sub x_NoOperation x_NoNumber s_NoOperation_NoNumber) (kit_sub x_NoOperation x_NoOperation x_NoOperation.me) (kit_sub x_NoOperation x_NoPerson s_NoOperation_NoPerson) (kit_sub x_NoOperation x_NoPlace s_NoOperation_NoPlace) (kit_sub x_NoOperation x_Stuck s_NoOperation_Stuck) (kit_sub x_NoOperation x_TooMany s_NoOperation_TooMany), by decide, .inr (.inl ⟨rfl, rfl⟩)⟩
      have k_Blocked : Kit15 K [c_BadLine, c_BadText, c_Blocked, c_Contradiction, c_Early, c_Full, c_Here, c_Misfit, c_NoInvitation, c_NoNumber, c_NoOperation, c_NoPerson, c_NoPlace, c_Stuck, c_TooMany] c_Blocked 2 := ⟨"RuntimeError", _, x_Blocked, fl15_mk (kit_sub x_Blocked x_BadLine s_Blocked_BadLine) (kit_sub x_Blocked x_BadText s_Blocked_BadText) (kit_sub x_Blocked x_Blocked x_Blocked.me) (kit_sub x_Blocked x_Contradiction s_Blocked_Contradiction) (kit_sub x_Blocked x_Early s_Blocked_Early) (kit_sub x_Blocked x_Full s_Blocked_Full) (kit_sub x_Blocked x_Here s_Blocked_Here) (kit_sub x_Blocked x_Misfit s_Blocked_Misfit) (kit_sub x_Blocked x_NoInvitation s_Blocked_NoInvitation) (kit_sub x_Blocked x_NoNumber s_Blocked_NoNumber) (kit_sub x_Blocked x_NoOperation s_Blocked_NoOperation) (kit_sub x_Blocked x_NoPerson s_Blocked_NoPerson) (kit_sub x_Blocked x_NoPlace s_Blocked_NoPlace) (kit_sub x_Blocked x_Stuck s_Blocked_Stuck) (kit_sub x_Blocked x_TooMany s_Blocked_TooMany), by decide, .inr (.inr (.inl ⟨rfl, rfl⟩))⟩
      have k_Early : Kit15 K [c_BadLine, c_BadText, c_Blocked, c_Contradiction, c_Early, c_Full, c_Here, c_Misfit, c_NoInvitation, c_NoNumber, c_NoOperation, c_NoPerson, c_NoPlace, c_Stuck, c_TooMany] c_Early 2 := ⟨"RuntimeError", _, x_Early, fl15_mk (kit_sub x_Early x_BadLine s_Early_BadLine) (kit_sub x_Early x_BadText s_Early_BadText) (kit_sub x_Early x_Blocked s_Early_Blocked) (kit_sub x_Early x_Contradiction s_Early_Contradiction) (kit_sub x_Early x_Early x_Early.me) (kit_sub x_Early x_Full s_Early_Full) (kit_sub x_Early x_Here s_Early_Here) (kit_sub x_Early x_Misfit s_Early_Misfit) (kit_sub x_Early x_NoInvitation s_Early_NoInvitation) (kit_sub x_Early x_NoNumber s_Early_NoNumber) (kit_sub x_Early x_NoOperation s_Early_NoOperation) (kit_sub x_Early x_NoPerson s_Early_NoPerson) (kit_sub x_Early x_NoPlace s_Early_NoPlace) (kit_sub x_Early x_Stuck s_Early_Stuck) (kit_sub x_Early x_TooMany s_Early_TooMany), by decide, .inr (.inr (.inl ⟨rfl, rfl⟩))⟩
      have k_Here : Kit15 K [c_BadLine, c_BadText, c_Blocked, c_Contradiction, c_Early, c_Full, c_Here, c_Misfit, c_NoInvitation, c_NoNumber, c_NoOperation, c_NoPerson, c_NoPlace, c_Stuck, c_TooMany] c_Here 2 := ⟨"RuntimeError", _, x_Here, fl15_mk (kit_sub x_Here x_BadLine s_Here_BadLine) (kit_sub x_Here x_BadText s_Here_BadText) (kit_sub x_Here x_Blocked s_Here_Blocked) (kit_sub x_Here x_Contradiction s_Here_Contradiction) (kit_sub x_Here x_Early s_Here_Early) (kit_sub x_Here x_Full s_Here_Full) (kit_sub x_Here x_Here x_Here.me) (kit_sub x_Here x_Misfit s_Here_Misfit) (kit_sub x_Here x_NoInvitation s_Here_NoInvitation) (kit_sub x_Here x_NoNumber s_Here_NoNumber) (kit_sub x_Here x_NoOperation s_Here_NoOperation) (kit_sub x_Here x_NoPerson s_Here_NoPerson) (kit_sub x_Here x_NoPlace s_Here_NoPlace) (kit_sub x_Here x_Stuck s_Here_Stuck) (kit_sub x_Here x_TooMany s_Here_TooMany), by decide, .inr (.inr (.inl ⟨rfl, rfl⟩))⟩
      have k_TooMany : Kit15 K [c_BadLine, c_BadText, c_Blocked, c_Contradiction, c_Early, c_Full, c_Here, c_Misfit, c_NoInvitation, c_NoNumber, c_NoOperation, c_NoPerson, c_NoPlace, c_Stuck, c_TooMany] c_TooMany 3 := ⟨"OverflowError", _, x_TooMany, fl15_mk (kit_sub x_TooMany x_BadLine s_TooMany_BadLine) (kit_sub x_TooMany x_BadText s_TooMany_BadText) (kit_sub x_TooMany x_Blocked s_TooMany_Blocked) (kit_sub x_TooMany x_Contradiction s_TooMany_Contradiction) (kit_sub x_TooMany x_Early s_TooMany_Early) (kit_sub x_TooMany x_Full s_TooMany_Full) (kit_sub x_TooMany x_Here s_TooMany_Here) (kit_sub x_TooMany x_Misfit s_TooMany_Misfit) (kit_sub x_TooMany x_NoInvitation s_TooMany_NoInvitation) (kit_sub x_TooMany x_NoNumber s_TooMany_NoNumber) (kit_sub x_TooMany x_NoOperation s_TooMany_NoOperation) (kit_sub x_TooMany x_NoPerson s_TooMany_NoPerson) (kit_sub x_TooMany x_NoPlace s_TooMany_NoPlace) (kit_sub x_TooMany x_Stuck s_TooMany_Stuck) (kit_sub x_TooMany x_TooMany x_TooMany.me), by decide, .inr (.inr (.inr ⟨rfl, rfl⟩))⟩
      have k_Full : Kit15 K [c_BadLine, c_BadText, c_Blocked, c_Contradiction, c_Early, c_Full, c_Here, c_Misfit, c_NoInvitation, c_NoNumber, c_NoOperation, c_NoPerson, c_NoPlace, c_Stuck, c_TooMany] c_Full 3 := ⟨"OverflowError", _, x_Full, fl15_mk (kit_sub x_Full x_BadLine s_Full_BadLine) (kit_sub x_Full x_BadText s_Full_BadText) (kit_sub x_Full x_Blocked s_Full_Blocked) (kit_sub x_Full x_Contradiction s_Full_Contradiction) (kit_sub x_Full x_Early s_Full_Early) (kit_sub x_Full x_Full x_Full.me) (kit_sub x_Full x_Here s_Full_Here) (kit_sub x_Full x_Misfit s_Full_Misfit) (kit_sub x_Full x_NoInvitation s_Full_NoInvitation) (kit_sub x_Full x_NoNumber s_Full_NoNumber) (kit_sub x_Full x_NoOperation s_Full_NoOperation) (kit_sub x_Full x_NoPerson s_Full_NoPerson) (kit_sub x_Full x_NoPlace s_Full_NoPlace) (kit_sub x_Full x_Stuck s_Full_Stuck) (kit_sub x_Full x_TooMany s_Full_TooMany), by decide, .inr (.inr (.inr ⟨rfl, rfl⟩))⟩
      have tab : ∀ (j : Nat) (u0 u1 : PyData), ([exI d0 c_BadText "text" (.str ("x" : Str)), exI d1 c_BadLine "number" (.int u), exI d2 c_Contradiction "evidence" (.tuple [(.int u), (.int 0), (.int 1)]), exI d3 c_Stuck "people" (.tuple [(.int u)]), exI d4 c_Misfit "place" (.int u), exI d5 c_NoInvitation "people" (.tuple [(.int u)]), exI d6 c_NoPerson "person" (.int (v - 500)), exI d7 c_NoPlace "place" (.int v), exI d8 c_NoNumber "number" (.int (v - 7)), exI d9 c_NoOperation "many" (.int (61 + u)), exI d10 c_Blocked "pair" (.tuple [(.int u), (.int ((u + 1) % 20))]), exI d11 c_Early "person" (.int u), exI d12 c_Here "person" (.int u), exI d13 c_TooMany "many" (.int (301 + v)), exI d14 c_Full "many" (.int 20)] : List PyData)[j]? = some u0 → (intsD ([0, 0, 0, 0, 0, 0, 1, 1, 1, 1, 2, 2, 2, 3, 3] : List Int))[j]? = some u1 → ∃ (pe Ce : Addr) (fe : Str) (xe : PyData) (ke : Int), u0 = exI pe Ce fe xe ∧ u1 = .int ke ∧ Kit15 K [c_BadLine, c_BadText, c_Blocked, c_Contradiction, c_Early, c_Full, c_Here, c_Misfit, c_NoInvitation, c_NoNumber, c_NoOperation, c_NoPerson, c_NoPlace, c_Stuck, c_TooMany] Ce ke := by
        intro j u0 u1 g0 g1
        rcases j with _ | _ | _ | _ | _ | _ | _ | _ | _ | _ | _ | _ | _ | _ | _ | j
        · cases g0; cases g1; exact ⟨_, _, _, _, _, rfl, rfl, k_BadText⟩
        · cases g0; cases g1; exact ⟨_, _, _, _, _, rfl, rfl, k_BadLine⟩
        · cases g0; cases g1; exact ⟨_, _, _, _, _, rfl, rfl, k_Contradiction⟩
        · cases g0; cases g1; exact ⟨_, _, _, _, _, rfl, rfl, k_Stuck⟩
        · cases g0; cases g1; exact ⟨_, _, _, _, _, rfl, rfl, k_Misfit⟩
        · cases g0; cases g1; exact ⟨_, _, _, _, _, rfl, rfl, k_NoInvitation⟩
        · cases g0; cases g1; exact ⟨_, _, _, _, _, rfl, rfl, k_NoPerson⟩
        · cases g0; cases g1; exact ⟨_, _, _, _, _, rfl, rfl, k_NoPlace⟩
        · cases g0; cases g1; exact ⟨_, _, _, _, _, rfl, rfl, k_NoNumber⟩
        · cases g0; cases g1; exact ⟨_, _, _, _, _, rfl, rfl, k_NoOperation⟩
        · cases g0; cases g1; exact ⟨_, _, _, _, _, rfl, rfl, k_Blocked⟩
        · cases g0; cases g1; exact ⟨_, _, _, _, _, rfl, rfl, k_Early⟩
        · cases g0; cases g1; exact ⟨_, _, _, _, _, rfl, rfl, k_Here⟩
        · cases g0; cases g1; exact ⟨_, _, _, _, _, rfl, rfl, k_TooMany⟩
        · cases g0; cases g1; exact ⟨_, _, _, _, _, rfl, rfl, k_Full⟩
        · exact absurd g0 (by simp)
      refine wb_cons (ws_if ?_)
      refine wt_not ?_
      refine wt_val ?_
      refine we_all B rfl rfl ?_
      refine we_lcW [("_law_its", 9), ("_law_at", 10)] rfl sc_right_l.nd (blkOk_by (N := ["_law_box_here", "_law_soul", "_law_far", "_law_values", "_law_made", "_law_named", "_law_some", "_law_fields", "_law_kinds", "_law_its", "_law_at"]) (sc := defScope s_right_l) (by decide +kernel)) ?_
      refine wi_zipM rfl B.zip ?_
      refine wa_cons ?_
      walk_at "e"
      refine wa_one ?_
      walk_at "e"
      refine ⟨pz, _, _, rfl, ?_⟩
      refine ⟨fun j acc μ' => acc = blsD (List.replicate j true) ∧ μ' = ([(b, (bs2 : Cont))] : Cells), ⟨rfl, rfl⟩, by rw [zipM_len]; simp, fun j acc μ' hI => ?_, fun j d acc μ' hd hI => ?_, fun acc μ' hI p => ?_⟩
      · obtain ⟨rfl, _⟩ := hI
        rw [List.length_map, List.length_replicate]
        exact Nat.le_refl _
      · obtain ⟨rfl, rfl⟩ := hI
        obtain ⟨u0, u1, g0, g1, rfl⟩ := zipM_get hd
        obtain ⟨pe, Ce, fe, xe, ke, rfl, rfl, hK⟩ := tab j u0 u1 g0 g1
        intro s1 H1 C cl fp
        refine wg_tupQ rfl (.cons (.e _ _ _ _) (.cons (.d rfl) .nil)) ?_
        refine wgs_cons ?_
        refine wg_name 9 sc_right_l.nd n9 (by walk_at "loc") (by first | exact .inl rfl | exact .inr rfl) (by decide) ?_
        refine wgs_cons ?_
        refine wg_name 10 sc_right_l.nd n10 (by walk_at "loc") (by first | exact .inl rfl | exact .inr rfl) (by decide) ?_
        refine wgs_nil ?_
        intro s1 H1 C cl fp
        refine wts_nil ?_
        refine itT rfl ?_
        intro s1 H1 C cl fp
        refine we_callP c_law_one_right (by walk_at "room") rfl ?_
        refine wa_cons ?_
        walk_at "e"
        refine wa_one ?_
        walk_at "e"
        refine ⟨_, _, _, _, _, rfl, hK, ?_⟩
        exact ⟨_, rfl, by rw [List.replicate_succ']; simp [blsD], rfl⟩
      · obtain ⟨rfl, rfl⟩ := hI
        refine ⟨List.replicate _ true, .c 0 rfl, (fun _ z => by cases z), ⟨_, rfl, ?_⟩⟩
        refine itF (by simp) ?_
        refine wb_nil ?_
        refine wb_drop ?_
        refine wb_nil ?_
        exact ⟨_, _, _, rfl, rfl⟩
    · obtain ⟨x6, x7, x8, rfl, rfl⟩ := hI
      refine wb_one (ws_ret ?_)
      refine we_cmp (op := .Eq) (op_eqD (Room.units (k := 0) (by with_unfolding_all exact Room.mono (by assumption) (Nat.zero_le _)))) (nomark _) ?_
      refine we_fz ?_
      refine we_lst ?_
      refine wa_cons ?_
      refine we_gint rfl i_MOST ?_
      refine wa_one ?_
      refine we_gint rfl i_MOST_PEOPLE ?_
      refine ⟨intsD [300, 12], rfl, by simp, fun p38 => ⟨p38, _, _, rfl, rfl, by walk_at "pl", ?_⟩⟩
      refine we_fz ?_
      refine we_lst ?_
      refine wa_cons ?_
      walk_at "e"
      refine wa_one ?_
      walk_at "e"
      refine ⟨intsD [300, 12], rfl, by simp, fun p39 => ⟨p39, _, _, rfl, rfl, by walk_at "pl", ?_⟩⟩
      refine ow_eq (.d _) (.d _) (shaped_lst _) (shaped_lst _) ?_
      rw [eqv_lst]
      exact keep (hR _ (hb2.mono (by omega)))
theorem ok_law {f : Addr} {fd : FuncData} (F : Fun K "law" "law" s_law f fd) (B : Bl mg) (c1 : Cal P w K mg base 2 "_law_box" T_box) (c2 : Cal P w K mg base 5 "_law_right" (T_right 10)) : FnG P w K mg base CX0 6 f fd ["_law_script"] (spW K T_law) := by
  refine fn_w F sc_law (by decide) (fun xs μ R h => ?_) fun cdv A outer s H E hr hgd xs μ R hT => ?_
  · obtain ⟨ns, rfl, _⟩ := h
    rfl
  · obtain ⟨ns, rfl, hl, rfl, hR⟩ := hT
    refine wb_names (N := ["_law_script", "_law_k", "_law_box_here", "_law_turn"]) rfl fun hn => ?_
    have n0 := hn 0 _ rfl
    have n1 := hn 1 _ rfl
    have n2 := hn 2 _ rfl
    have n3 := hn 3 _ rfl
    refine wb_cons ?_
    refine ws_for [1] PassesOwn.never rfl ?_
    refine wi_range1 rfl B.range ?_
    refine wa_one ?_
    walk_at "e"
    walk_at "e"
    refine we_min2 B rfl rfl ?_
    refine we_int ?_
    refine we_len B rfl ?_
    walk_at "e"
    refine ⟨_, .s _, _, _, rfl, rfl, ?_⟩
    refine ow_add ?_
    have hlo : (0 : Int) ≤ (if (((intsD ns).length : Nat) : Int) < 3 then (((intsD ns).length : Nat) : Int) else 3) := by split <;> omega
    have hhi : (if (((intsD ns).length : Nat) : Int) < 3 then (((intsD ns).length : Nat) : Int) else 3) ≤ 3 := by split <;> omega
    generalize (if (((intsD ns).length : Nat) : Int) < 3 then (((intsD ns).length : Nat) : Int) else 3) = lim at hlo hhi
    refine ⟨_, rfl, by omega, by omega, ?_⟩
    refine ⟨fun i δ' μ' => ∃ x1 x2, δ' = [some (.s ns), x1, x2, none] ∧ μ' = [], ⟨none, none, rfl, rfl⟩, fun i d δ' μ' hd hI => ?_, fun δ' μ' hI => ?_⟩
    · obtain ⟨x1, x2, rfl, rfl⟩ := hI
      have hi := (List.getElem?_eq_some_iff.mp hd).1
      rw [rangeD_len] at hi
      rw [rangeD_get hi] at hd
      cases hd
      rw [Int.zero_add]
      refine wg_name 1 sc_law.nd n1 (by walk_at "loc") (by first | exact .inl rfl | exact .inr rfl) (by decide) ?_
      refine wb_cons ?_
      refine ws_set 2 sc_law.nd n2 (by walk_at "loc") (by first | exact .inl rfl | exact .inr rfl) ?_
      refine we_callP c1 (by walk_at "room") rfl ?_
      walk_at "go"
      refine ⟨ns, i, rfl, by omega, fun b ds hb => ?_⟩
      refine wb_one (ws_if ?_)
      walk_at "t"
      refine wt_val ?_
      refine we_all B rfl rfl ?_
      refine we_lc [("_law_turn", 3)] rfl sc_law.nd (blkOk_by (N := ["_law_script", "_law_k", "_law_box_here", "_law_turn"]) (sc := defScope s_law) (by decide +kernel)) ?_
      refine wi_range1 rfl B.range ?_
      refine wa_one (we_int ⟨1, rfl, by decide, by decide, ?_⟩)
      refine ⟨fun j acc μ' => ∃ ds', acc = blsD (List.replicate j true) ∧ μ' = ([(b, Cont.l ds')] : Cells) ∧ BoxOk (10 * j) ds', ⟨ds, rfl, rfl, hb⟩, by decide, fun j acc μ' hI => ?_, fun j d acc μ' hd hI => ?_, fun acc μ' hI p => ?_⟩
      · obtain ⟨ds', rfl, _⟩ := hI
        rw [List.length_map, List.length_replicate]
        exact Nat.le_refl _
      · obtain ⟨ds', rfl, rfl, hb'⟩ := hI
        have hj := (List.getElem?_eq_some_iff.mp hd).1
        rw [rangeD_len] at hj
        have hj' : j < 1 := hj
        intro s1 H1 C cl fp
        have hd' := hd
        rw [rangeD_get hj] at hd'
        cases hd'
        refine wg_name 3 sc_law.nd n3 (by walk_at "loc") (by first | exact .inl rfl | exact .inr rfl) (by decide) ?_
        intro s1 H1 C cl fp
        refine wts_nil ?_
        refine itT rfl ?_
        intro s1 H1 C cl fp
        refine we_callB 0 c2 (by walk_at "room") rfl ?_
        walk_at "go"
        refine ⟨b, ds', rfl, b, ds', _, rfl, rfl, hb', by omega, fun ds2 hb2 => ⟨[], ds2, rfl, _, rfl, ds2, ?_, rfl, hb2.mono (by omega)⟩⟩
        rw [List.replicate_succ']
        simp [blsD]
      · obtain ⟨ds', rfl, rfl, hb'⟩ := hI
        rw [rangeD_len]
        refine ⟨List.replicate 1 true, .c 0 rfl, (fun _ z => by cases z), _, rfl, ?_⟩
        refine itF rfl ?_
        refine wb_nilK (keep_drop (keep_drop (keep ?_)))
        exact ⟨_, _, rfl, rfl⟩
    · obtain ⟨x1, x2, rfl, rfl⟩ := hI
      refine wb_one (ws_ret (we_bl ?_))
      exact keep hR
end
def spLaw (K : PySem.W.Frag) : Sp := fun vs H Q _ => ∃ (a : Addr) (ns : List Int), vs = [.ref a] ∧ SqL K H a (ns.map V.int) ∧ ns.length ≤ 63 ∧ ∀ H', Q (.bl true) H'
theorem all_mk {l : PySem.W.OpenLaw} {w : World} {K : PySem.W.Frag} {h : Heap} {mg : Str → Option Value} {fa : Addr} (X : K.In h) (G : h.Ns mainGlobals mg) (hfa : mg "law" = some (.ref fa))
    {od0 an0 : Option Addr} {sl0 : Array (Option Value)} {oc0 kV0 dc0 pm0 cd0 ct0 : Value} {f0 : Addr}
    {od1 an1 : Option Addr} {sl1 : Array (Option Value)} {oc1 kV1 dc1 pm1 cd1 ct1 : Value} {f1 : Addr}
    {od2 an2 : Option Addr} {sl2 : Array (Option Value)} {oc2 kV2 dc2 pm2 cd2 ct2 : Value} {f2 : Addr}
    {od3 an3 : Option Addr} {sl3 : Array (Option Value)} {oc3 kV3 dc3 pm3 cd3 ct3 : Value} {f3 : Addr}
    {od4 an4 : Option Addr} {sl4 : Array (Option Value)} {oc4 kV4 dc4 pm4 cd4 ct4 : Value} {f4 : Addr}
    {od5 an5 : Option Addr} {sl5 : Array (Option Value)} {oc5 kV5 dc5 pm5 cd5 ct5 : Value} {f5 : Addr}
    {od6 an6 : Option Addr} {sl6 : Array (Option Value)} {oc6 kV6 dc6 pm6 cd6 ct6 : Value} {f6 : Addr}
    {od7 an7 : Option Addr} {sl7 : Array (Option Value)} {oc7 kV7 dc7 pm7 cd7 ct7 : Value} {f7 : Addr}
    {c_BadText fIBadText NBadText : Addr} {nmBadText qBadText : Str} {bsBadText subBadText : List Value} {snBadText : List Str} {abBadText : Bool} {colBadText : Option Bool} {ddBadText odIBadText anIBadText : Option Addr} {k0BadText k1BadText k2BadText k3BadText k5BadText : Option Value} {slIBadText : Array (Option Value)} {ocIBadText kVIBadText dcIBadText pmIBadText cdIBadText ctIBadText : Value}
    {c_BadLine fIBadLine NBadLine : Addr} {nmBadLine qBadLine : Str} {bsBadLine subBadLine : List Value} {snBadLine : List Str} {abBadLine : Bool} {colBadLine : Option Bool} {ddBadLine odIBadLine anIBadLine : Option Addr} {k0BadLine k1BadLine k2BadLine k3BadLine k5BadLine : Option Value} {slIBadLine : Array (Option Value)} {ocIBadLine kVIBadLine dcIBadLine pmIBadLine cdIBadLine ctIBadLine : Value}
    {c_Contradiction fIContradiction NContradiction : Addr} {nmContradiction qContradiction : Str} {bsContradiction subContradiction : List Value} {snContradiction : List Str} {abContradiction : Bool} {colContradiction : Option Bool} {ddContradiction odIContradiction anIContradiction : Option Addr} {k0Contradiction k1Contradiction k2Contradiction k3Contradiction k5Contradiction : Option Value} {slIContradiction : Array (Option Value)} {ocIContradiction kVIContradiction dcIContradiction pmIContradiction cdIContradiction ctIContradiction : Value}
    {c_Stuck fIStuck NStuck : Addr} {nmStuck qStuck : Str} {bsStuck subStuck : List Value} {snStuck : List Str} {abStuck : Bool} {colStuck : Option Bool} {ddStuck odIStuck anIStuck : Option Addr} {k0Stuck k1Stuck k2Stuck k3Stuck k5Stuck : Option Value} {slIStuck : Array (Option Value)} {ocIStuck kVIStuck dcIStuck pmIStuck cdIStuck ctIStuck : Value}
    {c_Misfit fIMisfit NMisfit : Addr} {nmMisfit qMisfit : Str} {bsMisfit subMisfit : List Value} {snMisfit : List Str} {abMisfit : Bool} {colMisfit : Option Bool} {ddMisfit odIMisfit anIMisfit : Option Addr} {k0Misfit k1Misfit k2Misfit k3Misfit k5Misfit : Option Value} {slIMisfit : Array (Option Value)} {ocIMisfit kVIMisfit dcIMisfit pmIMisfit cdIMisfit ctIMisfit : Value}
    {c_NoInvitation fINoInvitation NNoInvitation : Addr} {nmNoInvitation qNoInvitation : Str} {bsNoInvitation subNoInvitation : List Value} {snNoInvitation : List Str} {abNoInvitation : Bool} {colNoInvitation : Option Bool} {ddNoInvitation odINoInvitation anINoInvitation : Option Addr} {k0NoInvitation k1NoInvitation k2NoInvitation k3NoInvitation k5NoInvitation : Option Value} {slINoInvitation : Array (Option Value)} {ocINoInvitation kVINoInvitation dcINoInvitation pmINoInvitation cdINoInvitation ctINoInvitation : Value}
    {c_NoPerson fINoPerson NNoPerson : Addr} {nmNoPerson qNoPerson : Str} {bsNoPerson subNoPerson : List Value} {snNoPerson : List Str} {abNoPerson : Bool} {colNoPerson : Option Bool} {ddNoPerson odINoPerson anINoPerson : Option Addr} {k0NoPerson k1NoPerson k2NoPerson k3NoPerson k5NoPerson : Option Value} {slINoPerson : Array (Option Value)} {ocINoPerson kVINoPerson dcINoPerson pmINoPerson cdINoPerson ctINoPerson : Value}
    {c_NoPlace fINoPlace NNoPlace : Addr} {nmNoPlace qNoPlace : Str} {bsNoPlace subNoPlace : List Value} {snNoPlace : List Str} {abNoPlace : Bool} {colNoPlace : Option Bool} {ddNoPlace odINoPlace anINoPlace : Option Addr} {k0NoPlace k1NoPlace k2NoPlace k3NoPlace k5NoPlace : Option Value} {slINoPlace : Array (Option Value)} {ocINoPlace kVINoPlace dcINoPlace pmINoPlace cdINoPlace ctINoPlace : Value}
    {c_NoNumber fINoNumber NNoNumber : Addr} {nmNoNumber qNoNumber : Str} {bsNoNumber subNoNumber : List Value} {snNoNumber : List Str} {abNoNumber : Bool} {colNoNumber : Option Bool} {ddNoNumber odINoNumber anINoNumber : Option Addr} {k0NoNumber k1NoNumber k2NoNumber k3NoNumber k5NoNumber : Option Value} {slINoNumber : Array (Option Value)} {ocINoNumber kVINoNumber dcINoNumber pmINoNumber cdINoNumber ctINoNumber : Value}
    {c_NoOperation fINoOperation NNoOperation : Addr} {nmNoOperation qNoOperation : Str} {bsNoOperation subNoOperation : List Value} {snNoOperation : List Str} {abNoOperation : Bool} {colNoOperation : Option Bool} {ddNoOperation odINoOperation anINoOperation : Option Addr} {k0NoOperation k1NoOperation k2NoOperation k3NoOperation k5NoOperation : Option Value} {slINoOperation : Array (Option Value)} {ocINoOperation kVINoOperation dcINoOperation pmINoOperation cdINoOperation ctINoOperation : Value}
    {c_Blocked fIBlocked NBlocked : Addr} {nmBlocked qBlocked : Str} {bsBlocked subBlocked : List Value} {snBlocked : List Str} {abBlocked : Bool} {colBlocked : Option Bool} {ddBlocked odIBlocked anIBlocked : Option Addr} {k0Blocked k1Blocked k2Blocked k3Blocked k5Blocked : Option Value} {slIBlocked : Array (Option Value)} {ocIBlocked kVIBlocked dcIBlocked pmIBlocked cdIBlocked ctIBlocked : Value}
    {c_Early fIEarly NEarly : Addr} {nmEarly qEarly : Str} {bsEarly subEarly : List Value} {snEarly : List Str} {abEarly : Bool} {colEarly : Option Bool} {ddEarly odIEarly anIEarly : Option Addr} {k0Early k1Early k2Early k3Early k5Early : Option Value} {slIEarly : Array (Option Value)} {ocIEarly kVIEarly dcIEarly pmIEarly cdIEarly ctIEarly : Value}
    {c_Here fIHere NHere : Addr} {nmHere qHere : Str} {bsHere subHere : List Value} {snHere : List Str} {abHere : Bool} {colHere : Option Bool} {ddHere odIHere anIHere : Option Addr} {k0Here k1Here k2Here k3Here k5Here : Option Value} {slIHere : Array (Option Value)} {ocIHere kVIHere dcIHere pmIHere cdIHere ctIHere : Value}
    {c_TooMany fITooMany NTooMany : Addr} {nmTooMany qTooMany : Str} {bsTooMany subTooMany : List Value} {snTooMany : List Str} {abTooMany : Bool} {colTooMany : Option Bool} {ddTooMany odITooMany anITooMany : Option Addr} {k0TooMany k1TooMany k2TooMany k3TooMany k5TooMany : Option Value} {slITooMany : Array (Option Value)} {ocITooMany kVITooMany dcITooMany pmITooMany cdITooMany ctITooMany : Value}
    {c_Full fIFull NFull : Addr} {nmFull qFull : Str} {bsFull subFull : List Value} {snFull : List Str} {abFull : Bool} {colFull : Option Bool} {ddFull odIFull anIFull : Option Addr} {k0Full k1Full k2Full k3Full k5Full : Option Value} {slIFull : Array (Option Value)} {ocIFull kVIFull dcIFull pmIFull cdIFull ctIFull : Value}
    {tkMOST : Tok}
    {tkMOST_PEOPLE : Tok}
    (a0 : PySem.W.nsIn K mainGlobals "_law_cell_at" = some (some (.ref f0)))
    (l0 : K.lookup f0 = some ⟨oc0, od0, .func (PySem.W.fnOf "_law_cell_at" "_law_cell_at" (defArgs s_cell_at_l) (defBody s_cell_at_l) (defScope s_cell_at_l) .none kV0 dc0 pm0 an0 cd0 ct0), sl0⟩)
    (c0 : PySem.W.codeIn K cd0 "_law_cell_at" = true)
    (k0 : PySem.W.keepIn K (.ref f0) = true)
    (a1 : PySem.W.nsIn K mainGlobals "_law_box" = some (some (.ref f1)))
    (l1 : K.lookup f1 = some ⟨oc1, od1, .func (PySem.W.fnOf "_law_box" "_law_box" (defArgs s_box_l) (defBody s_box_l) (defScope s_box_l) .none kV1 dc1 pm1 an1 cd1 ct1), sl1⟩)
    (c1 : PySem.W.codeIn K cd1 "_law_box" = true)
    (k1 : PySem.W.keepIn K (.ref f1) = true)
    (a2 : PySem.W.nsIn K mainGlobals "_law_take" = some (some (.ref f2)))
    (l2 : K.lookup f2 = some ⟨oc2, od2, .func (PySem.W.fnOf "_law_take" "_law_take" (defArgs s_take_l) (defBody s_take_l) (defScope s_take_l) .none kV2 dc2 pm2 an2 cd2 ct2), sl2⟩)
    (c2 : PySem.W.codeIn K cd2 "_law_take" = true)
    (k2 : PySem.W.keepIn K (.ref f2) = true)
    (a3 : PySem.W.nsIn K mainGlobals "_law_same" = some (some (.ref f3)))
    (l3 : K.lookup f3 = some ⟨oc3, od3, .func (PySem.W.fnOf "_law_same" "_law_same" (defArgs s_same_l) (defBody s_same_l) (defScope s_same_l) .none kV3 dc3 pm3 an3 cd3 ct3), sl3⟩)
    (c3 : PySem.W.codeIn K cd3 "_law_same" = true)
    (k3 : PySem.W.keepIn K (.ref f3) = true)
    (a4 : PySem.W.nsIn K mainGlobals "_law_flags" = some (some (.ref f4)))
    (l4 : K.lookup f4 = some ⟨oc4, od4, .func (PySem.W.fnOf "_law_flags" "_law_flags" (defArgs s_flags_l) (defBody s_flags_l) (defScope s_flags_l) .none kV4 dc4 pm4 an4 cd4 ct4), sl4⟩)
    (c4 : PySem.W.codeIn K cd4 "_law_flags" = true)
    (k4 : PySem.W.keepIn K (.ref f4) = true)
    (a5 : PySem.W.nsIn K mainGlobals "_law_one_right" = some (some (.ref f5)))
    (l5 : K.lookup f5 = some ⟨oc5, od5, .func (PySem.W.fnOf "_law_one_right" "_law_one_right" (defArgs s_one_right_l) (defBody s_one_right_l) (defScope s_one_right_l) .none kV5 dc5 pm5 an5 cd5 ct5), sl5⟩)
    (c5 : PySem.W.codeIn K cd5 "_law_one_right" = true)
    (k5 : PySem.W.keepIn K (.ref f5) = true)
    (a6 : PySem.W.nsIn K mainGlobals "_law_right" = some (some (.ref f6)))
    (l6 : K.lookup f6 = some ⟨oc6, od6, .func (PySem.W.fnOf "_law_right" "_law_right" (defArgs s_right_l) (defBody s_right_l) (defScope s_right_l) .none kV6 dc6 pm6 an6 cd6 ct6), sl6⟩)
    (c6 : PySem.W.codeIn K cd6 "_law_right" = true)
    (k6 : PySem.W.keepIn K (.ref f6) = true)
    (a7 : PySem.W.nsIn K mainGlobals "law" = some (some (.ref f7)))
    (l7 : K.lookup f7 = some ⟨oc7, od7, .func (PySem.W.fnOf "law" "law" (defArgs s_law) (defBody s_law) (defScope s_law) .none kV7 dc7 pm7 an7 cd7 ct7), sl7⟩)
    (c7 : PySem.W.codeIn K cd7 "law" = true)
    (k7 : PySem.W.keepIn K (.ref f7) = true)
    (aCBadText : PySem.W.nsIn K mainGlobals "BadText" = some (some (.ref c_BadText)))
    (lCBadText : K.lookup c_BadText = some (excClassObj nmBadText qBadText c_BadText NBadText bsBadText [.type "ValueError", .type "Exception", .type "BaseException", .type "object"] true snBadText subBadText abBadText colBadText ddBadText k0BadText k1BadText k2BadText k3BadText k5BadText "ValueError.__new__"))
    (saBadText : PySem.W.findIn K (.ref c_BadText) "__setattr__" = some (some (.builtin "object.__setattr__")))
    (beBadText : PySem.W.subIn K (.ref c_BadText) (.type "BaseException") = some true)
    (tcBadText : PySem.W.typeIn K (.ref c_BadText) = some (.type "type"))
    (kcBadText : PySem.W.keepIn K (.ref c_BadText) = true)
    (iCBadText : PySem.W.findIn K (.ref c_BadText) "__init__" = some (some (.ref fIBadText)))
    (tIBadText : PySem.W.typeIn K (.ref fIBadText) = some (.type "function"))
    (lIBadText : K.lookup fIBadText = some ⟨ocIBadText, odIBadText, .func (PySem.W.fnOf "__init__" "BadText.__init__" (defArgs s_iBadText) (defBody s_iBadText) (defScope s_iBadText) .none kVIBadText dcIBadText pmIBadText anIBadText cdIBadText ctIBadText), slIBadText⟩)
    (cIBadText : PySem.W.codeIn K cdIBadText "BadText.__init__" = true)
    (kIBadText : PySem.W.keepIn K (.ref fIBadText) = true)
    (flBadText : PySem.W.findIn K (.ref c_BadText) "text" = some none)
    (gaBadText : PySem.W.findIn K (.ref c_BadText) "__getattribute__" = some (some (.builtin "BaseException.__getattribute__")))
    (ggBadText : PySem.W.findIn K (.ref c_BadText) "__getattr__" = some none)
    (hdBadText : PySem.W.hasDictIn K c_BadText = true)
    (caBadText : PySem.W.findIn K (.ref c_BadText) "__class__" = some (some (.builtin "object.__class__")))
    (moBadText : PySem.W.mroIn K c_BadText (.type "object") = some true)
    (meBadText : PySem.W.subIn K (.ref c_BadText) (.ref c_BadText) = some true)
    (sValueErrorBadText : PySem.W.subIn K (.ref c_BadText) (.type "ValueError") = some true)
    (sLookupErrorBadText : PySem.W.subIn K (.ref c_BadText) (.type "LookupError") = some false)
    (sRuntimeErrorBadText : PySem.W.subIn K (.ref c_BadText) (.type "RuntimeError") = some false)
    (sOverflowErrorBadText : PySem.W.subIn K (.ref c_BadText) (.type "OverflowError") = some false)
    (sKeyErrorBadText : PySem.W.subIn K (.ref c_BadText) (.type "KeyError") = some false)
    (sIndexErrorBadText : PySem.W.subIn K (.ref c_BadText) (.type "IndexError") = some false)
    (sNotImplementedErrorBadText : PySem.W.subIn K (.ref c_BadText) (.type "NotImplementedError") = some false)
    (aCBadLine : PySem.W.nsIn K mainGlobals "BadLine" = some (some (.ref c_BadLine)))
    (lCBadLine : K.lookup c_BadLine = some (excClassObj nmBadLine qBadLine c_BadLine NBadLine bsBadLine [.type "ValueError", .type "Exception", .type "BaseException", .type "object"] true snBadLine subBadLine abBadLine colBadLine ddBadLine k0BadLine k1BadLine k2BadLine k3BadLine k5BadLine "ValueError.__new__"))
    (saBadLine : PySem.W.findIn K (.ref c_BadLine) "__setattr__" = some (some (.builtin "object.__setattr__")))
    (beBadLine : PySem.W.subIn K (.ref c_BadLine) (.type "BaseException") = some true)
    (tcBadLine : PySem.W.typeIn K (.ref c_BadLine) = some (.type "type"))
    (kcBadLine : PySem.W.keepIn K (.ref c_BadLine) = true)
    (iCBadLine : PySem.W.findIn K (.ref c_BadLine) "__init__" = some (some (.ref fIBadLine)))
    (tIBadLine : PySem.W.typeIn K (.ref fIBadLine) = some (.type "function"))
    (lIBadLine : K.lookup fIBadLine = some ⟨ocIBadLine, odIBadLine, .func (PySem.W.fnOf "__init__" "BadLine.__init__" (defArgs s_iBadLine) (defBody s_iBadLine) (defScope s_iBadLine) .none kVIBadLine dcIBadLine pmIBadLine anIBadLine cdIBadLine ctIBadLine), slIBadLine⟩)
    (cIBadLine : PySem.W.codeIn K cdIBadLine "BadLine.__init__" = true)
    (kIBadLine : PySem.W.keepIn K (.ref fIBadLine) = true)
    (flBadLine : PySem.W.findIn K (.ref c_BadLine) "number" = some none)
    (gaBadLine : PySem.W.findIn K (.ref c_BadLine) "__getattribute__" = some (some (.builtin "BaseException.__getattribute__")))
    (ggBadLine : PySem.W.findIn K (.ref c_BadLine) "__getattr__" = some none)
    (hdBadLine : PySem.W.hasDictIn K c_BadLine = true)
    (caBadLine : PySem.W.findIn K (.ref c_BadLine) "__class__" = some (some (.builtin "object.__class__")))
    (moBadLine : PySem.W.mroIn K c_BadLine (.type "object") = some true)
    (meBadLine : PySem.W.subIn K (.ref c_BadLine) (.ref c_BadLine) = some true)
    (sValueErrorBadLine : PySem.W.subIn K (.ref c_BadLine) (.type "ValueError") = some true)
    (sLookupErrorBadLine : PySem.W.subIn K (.ref c_BadLine) (.type "LookupError") = some false)
    (sRuntimeErrorBadLine : PySem.W.subIn K (.ref c_BadLine) (.type "RuntimeError") = some false)
    (sOverflowErrorBadLine : PySem.W.subIn K (.ref c_BadLine) (.type "OverflowError") = some false)
    (sKeyErrorBadLine : PySem.W.subIn K (.ref c_BadLine) (.type "KeyError") = some false)
    (sIndexErrorBadLine : PySem.W.subIn K (.ref c_BadLine) (.type "IndexError") = some false)
    (sNotImplementedErrorBadLine : PySem.W.subIn K (.ref c_BadLine) (.type "NotImplementedError") = some false)
    (aCContradiction : PySem.W.nsIn K mainGlobals "Contradiction" = some (some (.ref c_Contradiction)))
    (lCContradiction : K.lookup c_Contradiction = some (excClassObj nmContradiction qContradiction c_Contradiction NContradiction bsContradiction [.type "ValueError", .type "Exception", .type "BaseException", .type "object"] true snContradiction subContradiction abContradiction colContradiction ddContradiction k0Contradiction k1Contradiction k2Contradiction k3Contradiction k5Contradiction "ValueError.__new__"))
    (saContradiction : PySem.W.findIn K (.ref c_Contradiction) "__setattr__" = some (some (.builtin "object.__setattr__")))
    (beContradiction : PySem.W.subIn K (.ref c_Contradiction) (.type "BaseException") = some true)
    (tcContradiction : PySem.W.typeIn K (.ref c_Contradiction) = some (.type "type"))
    (kcContradiction : PySem.W.keepIn K (.ref c_Contradiction) = true)
    (iCContradiction : PySem.W.findIn K (.ref c_Contradiction) "__init__" = some (some (.ref fIContradiction)))
    (tIContradiction : PySem.W.typeIn K (.ref fIContradiction) = some (.type "function"))
    (lIContradiction : K.lookup fIContradiction = some ⟨ocIContradiction, odIContradiction, .func (PySem.W.fnOf "__init__" "Contradiction.__init__" (defArgs s_iContradiction) (defBody s_iContradiction) (defScope s_iContradiction) .none kVIContradiction dcIContradiction pmIContradiction anIContradiction cdIContradiction ctIContradiction), slIContradiction⟩)
    (cIContradiction : PySem.W.codeIn K cdIContradiction "Contradiction.__init__" = true)
    (kIContradiction : PySem.W.keepIn K (.ref fIContradiction) = true)
    (flContradiction : PySem.W.findIn K (.ref c_Contradiction) "evidence" = some none)
    (gaContradiction : PySem.W.findIn K (.ref c_Contradiction) "__getattribute__" = some (some (.builtin "BaseException.__getattribute__")))
    (ggContradiction : PySem.W.findIn K (.ref c_Contradiction) "__getattr__" = some none)
    (hdContradiction : PySem.W.hasDictIn K c_Contradiction = true)
    (caContradiction : PySem.W.findIn K (.ref c_Contradiction) "__class__" = some (some (.builtin "object.__class__")))
    (moContradiction : PySem.W.mroIn K c_Contradiction (.type "object") = some true)
    (meContradiction : PySem.W.subIn K (.ref c_Contradiction) (.ref c_Contradiction) = some true)
    (sValueErrorContradiction : PySem.W.subIn K (.ref c_Contradiction) (.type "ValueError") = some true)
    (sLookupErrorContradiction : PySem.W.subIn K (.ref c_Contradiction) (.type "LookupError") = some false)
    (sRuntimeErrorContradiction : PySem.W.subIn K (.ref c_Contradiction) (.type "RuntimeError") = some false)
    (sOverflowErrorContradiction : PySem.W.subIn K (.ref c_Contradiction) (.type "OverflowError") = some false)
    (sKeyErrorContradiction : PySem.W.subIn K (.ref c_Contradiction) (.type "KeyError") = some false)
    (sIndexErrorContradiction : PySem.W.subIn K (.ref c_Contradiction) (.type "IndexError") = some false)
    (sNotImplementedErrorContradiction : PySem.W.subIn K (.ref c_Contradiction) (.type "NotImplementedError") = some false)
    (aCStuck : PySem.W.nsIn K mainGlobals "Stuck" = some (some (.ref c_Stuck)))
    (lCStuck : K.lookup c_Stuck = some (excClassObj nmStuck qStuck c_Stuck NStuck bsStuck [.type "ValueError", .type "Exception", .type "BaseException", .type "object"] true snStuck subStuck abStuck colStuck ddStuck k0Stuck k1Stuck k2Stuck k3Stuck k5Stuck "ValueError.__new__"))
    (saStuck : PySem.W.findIn K (.ref c_Stuck) "__setattr__" = some (some (.builtin "object.__setattr__")))
    (beStuck : PySem.W.subIn K (.ref c_Stuck) (.type "BaseException") = some true)
    (tcStuck : PySem.W.typeIn K (.ref c_Stuck) = some (.type "type"))
    (kcStuck : PySem.W.keepIn K (.ref c_Stuck) = true)
    (iCStuck : PySem.W.findIn K (.ref c_Stuck) "__init__" = some (some (.ref fIStuck)))
    (tIStuck : PySem.W.typeIn K (.ref fIStuck) = some (.type "function"))
    (lIStuck : K.lookup fIStuck = some ⟨ocIStuck, odIStuck, .func (PySem.W.fnOf "__init__" "Stuck.__init__" (defArgs s_iStuck) (defBody s_iStuck) (defScope s_iStuck) .none kVIStuck dcIStuck pmIStuck anIStuck cdIStuck ctIStuck), slIStuck⟩)
    (cIStuck : PySem.W.codeIn K cdIStuck "Stuck.__init__" = true)
    (kIStuck : PySem.W.keepIn K (.ref fIStuck) = true)
    (flStuck : PySem.W.findIn K (.ref c_Stuck) "people" = some none)
    (gaStuck : PySem.W.findIn K (.ref c_Stuck) "__getattribute__" = some (some (.builtin "BaseException.__getattribute__")))
    (ggStuck : PySem.W.findIn K (.ref c_Stuck) "__getattr__" = some none)
    (hdStuck : PySem.W.hasDictIn K c_Stuck = true)
    (caStuck : PySem.W.findIn K (.ref c_Stuck) "__class__" = some (some (.builtin "object.__class__")))
    (moStuck : PySem.W.mroIn K c_Stuck (.type "object") = some true)
    (meStuck : PySem.W.subIn K (.ref c_Stuck) (.ref c_Stuck) = some true)
    (sValueErrorStuck : PySem.W.subIn K (.ref c_Stuck) (.type "ValueError") = some true)
    (sLookupErrorStuck : PySem.W.subIn K (.ref c_Stuck) (.type "LookupError") = some false)
    (sRuntimeErrorStuck : PySem.W.subIn K (.ref c_Stuck) (.type "RuntimeError") = some false)
    (sOverflowErrorStuck : PySem.W.subIn K (.ref c_Stuck) (.type "OverflowError") = some false)
    (sKeyErrorStuck : PySem.W.subIn K (.ref c_Stuck) (.type "KeyError") = some false)
    (sIndexErrorStuck : PySem.W.subIn K (.ref c_Stuck) (.type "IndexError") = some false)
    (sNotImplementedErrorStuck : PySem.W.subIn K (.ref c_Stuck) (.type "NotImplementedError") = some false)
    (aCMisfit : PySem.W.nsIn K mainGlobals "Misfit" = some (some (.ref c_Misfit)))
    (lCMisfit : K.lookup c_Misfit = some (excClassObj nmMisfit qMisfit c_Misfit NMisfit bsMisfit [.type "ValueError", .type "Exception", .type "BaseException", .type "object"] true snMisfit subMisfit abMisfit colMisfit ddMisfit k0Misfit k1Misfit k2Misfit k3Misfit k5Misfit "ValueError.__new__"))
    (saMisfit : PySem.W.findIn K (.ref c_Misfit) "__setattr__" = some (some (.builtin "object.__setattr__")))
    (beMisfit : PySem.W.subIn K (.ref c_Misfit) (.type "BaseException") = some true)
    (tcMisfit : PySem.W.typeIn K (.ref c_Misfit) = some (.type "type"))
    (kcMisfit : PySem.W.keepIn K (.ref c_Misfit) = true)
    (iCMisfit : PySem.W.findIn K (.ref c_Misfit) "__init__" = some (some (.ref fIMisfit)))
    (tIMisfit : PySem.W.typeIn K (.ref fIMisfit) = some (.type "function"))
    (lIMisfit : K.lookup fIMisfit = some ⟨ocIMisfit, odIMisfit, .func (PySem.W.fnOf "__init__" "Misfit.__init__" (defArgs s_iMisfit) (defBody s_iMisfit) (defScope s_iMisfit) .none kVIMisfit dcIMisfit pmIMisfit anIMisfit cdIMisfit ctIMisfit), slIMisfit⟩)
    (cIMisfit : PySem.W.codeIn K cdIMisfit "Misfit.__init__" = true)
    (kIMisfit : PySem.W.keepIn K (.ref fIMisfit) = true)
    (flMisfit : PySem.W.findIn K (.ref c_Misfit) "place" = some none)
    (gaMisfit : PySem.W.findIn K (.ref c_Misfit) "__getattribute__" = some (some (.builtin "BaseException.__getattribute__")))
    (ggMisfit : PySem.W.findIn K (.ref c_Misfit) "__getattr__" = some none)
    (hdMisfit : PySem.W.hasDictIn K c_Misfit = true)
    (caMisfit : PySem.W.findIn K (.ref c_Misfit) "__class__" = some (some (.builtin "object.__class__")))
    (moMisfit : PySem.W.mroIn K c_Misfit (.type "object") = some true)
    (meMisfit : PySem.W.subIn K (.ref c_Misfit) (.ref c_Misfit) = some true)
    (sValueErrorMisfit : PySem.W.subIn K (.ref c_Misfit) (.type "ValueError") = some true)
    (sLookupErrorMisfit : PySem.W.subIn K (.ref c_Misfit) (.type "LookupError") = some false)
    (sRuntimeErrorMisfit : PySem.W.subIn K (.ref c_Misfit) (.type "RuntimeError") = some false)
    (sOverflowErrorMisfit : PySem.W.subIn K (.ref c_Misfit) (.type "OverflowError") = some false)
    (sKeyErrorMisfit : PySem.W.subIn K (.ref c_Misfit) (.type "KeyError") = some false)
    (sIndexErrorMisfit : PySem.W.subIn K (.ref c_Misfit) (.type "IndexError") = some false)
    (sNotImplementedErrorMisfit : PySem.W.subIn K (.ref c_Misfit) (.type "NotImplementedError") = some false)
    (aCNoInvitation : PySem.W.nsIn K mainGlobals "NoInvitation" = some (some (.ref c_NoInvitation)))
    (lCNoInvitation : K.lookup c_NoInvitation = some (excClassObj nmNoInvitation qNoInvitation c_NoInvitation NNoInvitation bsNoInvitation [.type "ValueError", .type "Exception", .type "BaseException", .type "object"] true snNoInvitation subNoInvitation abNoInvitation colNoInvitation ddNoInvitation k0NoInvitation k1NoInvitation k2NoInvitation k3NoInvitation k5NoInvitation "ValueError.__new__"))
    (saNoInvitation : PySem.W.findIn K (.ref c_NoInvitation) "__setattr__" = some (some (.builtin "object.__setattr__")))
    (beNoInvitation : PySem.W.subIn K (.ref c_NoInvitation) (.type "BaseException") = some true)
    (tcNoInvitation : PySem.W.typeIn K (.ref c_NoInvitation) = some (.type "type"))
    (kcNoInvitation : PySem.W.keepIn K (.ref c_NoInvitation) = true)
    (iCNoInvitation : PySem.W.findIn K (.ref c_NoInvitation) "__init__" = some (some (.ref fINoInvitation)))
    (tINoInvitation : PySem.W.typeIn K (.ref fINoInvitation) = some (.type "function"))
    (lINoInvitation : K.lookup fINoInvitation = some ⟨ocINoInvitation, odINoInvitation, .func (PySem.W.fnOf "__init__" "NoInvitation.__init__" (defArgs s_iNoInvitation) (defBody s_iNoInvitation) (defScope s_iNoInvitation) .none kVINoInvitation dcINoInvitation pmINoInvitation anINoInvitation cdINoInvitation ctINoInvitation), slINoInvitation⟩)
    (cINoInvitation : PySem.W.codeIn K cdINoInvitation "NoInvitation.__init__" = true)
    (kINoInvitation : PySem.W.keepIn K (.ref fINoInvitation) = true)
    (flNoInvitation : PySem.W.findIn K (.ref c_NoInvitation) "people" = some none)
    (gaNoInvitation : PySem.W.findIn K (.ref c_NoInvitation) "__getattribute__" = some (some (.builtin "BaseException.__getattribute__")))
    (ggNoInvitation : PySem.W.findIn K (.ref c_NoInvitation) "__getattr__" = some none)
    (hdNoInvitation : PySem.W.hasDictIn K c_NoInvitation = true)
    (caNoInvitation : PySem.W.findIn K (.ref c_NoInvitation) "__class__" = some (some (.builtin "object.__class__")))
    (moNoInvitation : PySem.W.mroIn K c_NoInvitation (.type "object") = some true)
    (meNoInvitation : PySem.W.subIn K (.ref c_NoInvitation) (.ref c_NoInvitation) = some true)
    (sValueErrorNoInvitation : PySem.W.subIn K (.ref c_NoInvitation) (.type "ValueError") = some true)
    (sLookupErrorNoInvitation : PySem.W.subIn K (.ref c_NoInvitation) (.type "LookupError") = some false)
    (sRuntimeErrorNoInvitation : PySem.W.subIn K (.ref c_NoInvitation) (.type "RuntimeError") = some false)
    (sOverflowErrorNoInvitation : PySem.W.subIn K (.ref c_NoInvitation) (.type "OverflowError") = some false)
    (sKeyErrorNoInvitation : PySem.W.subIn K (.ref c_NoInvitation) (.type "KeyError") = some false)
    (sIndexErrorNoInvitation : PySem.W.subIn K (.ref c_NoInvitation) (.type "IndexError") = some false)
    (sNotImplementedErrorNoInvitation : PySem.W.subIn K (.ref c_NoInvitation) (.type "NotImplementedError") = some false)
    (aCNoPerson : PySem.W.nsIn K mainGlobals "NoPerson" = some (some (.ref c_NoPerson)))
    (lCNoPerson : K.lookup c_NoPerson = some (excClassObj nmNoPerson qNoPerson c_NoPerson NNoPerson bsNoPerson [.type "LookupError", .type "Exception", .type "BaseException", .type "object"] true snNoPerson subNoPerson abNoPerson colNoPerson ddNoPerson k0NoPerson k1NoPerson k2NoPerson k3NoPerson k5NoPerson "LookupError.__new__"))
    (saNoPerson : PySem.W.findIn K (.ref c_NoPerson) "__setattr__" = some (some (.builtin "object.__setattr__")))
    (beNoPerson : PySem.W.subIn K (.ref c_NoPerson) (.type "BaseException") = some true)
    (tcNoPerson : PySem.W.typeIn K (.ref c_NoPerson) = some (.type "type"))
    (kcNoPerson : PySem.W.keepIn K (.ref c_NoPerson) = true)
    (iCNoPerson : PySem.W.findIn K (.ref c_NoPerson) "__init__" = some (some (.ref fINoPerson)))
    (tINoPerson : PySem.W.typeIn K (.ref fINoPerson) = some (.type "function"))
    (lINoPerson : K.lookup fINoPerson = some ⟨ocINoPerson, odINoPerson, .func (PySem.W.fnOf "__init__" "NoPerson.__init__" (defArgs s_iNoPerson) (defBody s_iNoPerson) (defScope s_iNoPerson) .none kVINoPerson dcINoPerson pmINoPerson anINoPerson cdINoPerson ctINoPerson), slINoPerson⟩)
    (cINoPerson : PySem.W.codeIn K cdINoPerson "NoPerson.__init__" = true)
    (kINoPerson : PySem.W.keepIn K (.ref fINoPerson) = true)
    (flNoPerson : PySem.W.findIn K (.ref c_NoPerson) "person" = some none)
    (gaNoPerson : PySem.W.findIn K (.ref c_NoPerson) "__getattribute__" = some (some (.builtin "BaseException.__getattribute__")))
    (ggNoPerson : PySem.W.findIn K (.ref c_NoPerson) "__getattr__" = some none)
    (hdNoPerson : PySem.W.hasDictIn K c_NoPerson = true)
    (caNoPerson : PySem.W.findIn K (.ref c_NoPerson) "__class__" = some (some (.builtin "object.__class__")))
    (moNoPerson : PySem.W.mroIn K c_NoPerson (.type "object") = some true)
    (meNoPerson : PySem.W.subIn K (.ref c_NoPerson) (.ref c_NoPerson) = some true)
    (sValueErrorNoPerson : PySem.W.subIn K (.ref c_NoPerson) (.type "ValueError") = some false)
    (sLookupErrorNoPerson : PySem.W.subIn K (.ref c_NoPerson) (.type "LookupError") = some true)
    (sRuntimeErrorNoPerson : PySem.W.subIn K (.ref c_NoPerson) (.type "RuntimeError") = some false)
    (sOverflowErrorNoPerson : PySem.W.subIn K (.ref c_NoPerson) (.type "OverflowError") = some false)
    (sKeyErrorNoPerson : PySem.W.subIn K (.ref c_NoPerson) (.type "KeyError") = some false)
    (sIndexErrorNoPerson : PySem.W.subIn K (.ref c_NoPerson) (.type "IndexError") = some false)
    (sNotImplementedErrorNoPerson : PySem.W.subIn K (.ref c_NoPerson) (.type "NotImplementedError") = some false)
    (aCNoPlace : PySem.W.nsIn K mainGlobals "NoPlace" = some (some (.ref c_NoPlace)))
    (lCNoPlace : K.lookup c_NoPlace = some (excClassObj nmNoPlace qNoPlace c_NoPlace NNoPlace bsNoPlace [.type "LookupError", .type "Exception", .type "BaseException", .type "object"] true snNoPlace subNoPlace abNoPlace colNoPlace ddNoPlace k0NoPlace k1NoPlace k2NoPlace k3NoPlace k5NoPlace "LookupError.__new__"))
    (saNoPlace : PySem.W.findIn K (.ref c_NoPlace) "__setattr__" = some (some (.builtin "object.__setattr__")))
    (beNoPlace : PySem.W.subIn K (.ref c_NoPlace) (.type "BaseException") = some true)
    (tcNoPlace : PySem.W.typeIn K (.ref c_NoPlace) = some (.type "type"))
    (kcNoPlace : PySem.W.keepIn K (.ref c_NoPlace) = true)
    (iCNoPlace : PySem.W.findIn K (.ref c_NoPlace) "__init__" = some (some (.ref fINoPlace)))
    (tINoPlace : PySem.W.typeIn K (.ref fINoPlace) = some (.type "function"))
    (lINoPlace : K.lookup fINoPlace = some ⟨ocINoPlace, odINoPlace, .func (PySem.W.fnOf "__init__" "NoPlace.__init__" (defArgs s_iNoPlace) (defBody s_iNoPlace) (defScope s_iNoPlace) .none kVINoPlace dcINoPlace pmINoPlace anINoPlace cdINoPlace ctINoPlace), slINoPlace⟩)
    (cINoPlace : PySem.W.codeIn K cdINoPlace "NoPlace.__init__" = true)
    (kINoPlace : PySem.W.keepIn K (.ref fINoPlace) = true)
    (flNoPlace : PySem.W.findIn K (.ref c_NoPlace) "place" = some none)
    (gaNoPlace : PySem.W.findIn K (.ref c_NoPlace) "__getattribute__" = some (some (.builtin "BaseException.__getattribute__")))
    (ggNoPlace : PySem.W.findIn K (.ref c_NoPlace) "__getattr__" = some none)
    (hdNoPlace : PySem.W.hasDictIn K c_NoPlace = true)
    (caNoPlace : PySem.W.findIn K (.ref c_NoPlace) "__class__" = some (some (.builtin "object.__class__")))
    (moNoPlace : PySem.W.mroIn K c_NoPlace (.type "object") = some true)
    (meNoPlace : PySem.W.subIn K (.ref c_NoPlace) (.ref c_NoPlace) = some true)
    (sValueErrorNoPlace : PySem.W.subIn K (.ref c_NoPlace) (.type "ValueError") = some false)
    (sLookupErrorNoPlace : PySem.W.subIn K (.ref c_NoPlace) (.type "LookupError") = some true)
    (sRuntimeErrorNoPlace : PySem.W.subIn K (.ref c_NoPlace) (.type "RuntimeError") = some false)
    (sOverflowErrorNoPlace : PySem.W.subIn K (.ref c_NoPlace) (.type "OverflowError") = some false)
    (sKeyErrorNoPlace : PySem.W.subIn K (.ref c_NoPlace) (.type "KeyError") = some false)
    (sIndexErrorNoPlace : PySem.W.subIn K (.ref c_NoPlace) (.type "IndexError") = some false)
    (sNotImplementedErrorNoPlace : PySem.W.subIn K (.ref c_NoPlace) (.type "NotImplementedError") = some false)
    (aCNoNumber : PySem.W.nsIn K mainGlobals "NoNumber" = some (some (.ref c_NoNumber)))
    (lCNoNumber : K.lookup c_NoNumber = some (excClassObj nmNoNumber qNoNumber c_NoNumber NNoNumber bsNoNumber [.type "LookupError", .type "Exception", .type "BaseException", .type "object"] true snNoNumber subNoNumber abNoNumber colNoNumber ddNoNumber k0NoNumber k1NoNumber k2NoNumber k3NoNumber k5NoNumber "LookupError.__new__"))
    (saNoNumber : PySem.W.findIn K (.ref c_NoNumber) "__setattr__" = some (some (.builtin "object.__setattr__")))
    (beNoNumber : PySem.W.subIn K (.ref c_NoNumber) (.type "BaseException") = some true)
    (tcNoNumber : PySem.W.typeIn K (.ref c_NoNumber) = some (.type "type"))
    (kcNoNumber : PySem.W.keepIn K (.ref c_NoNumber) = true)
    (iCNoNumber : PySem.W.findIn K (.ref c_NoNumber) "__init__" = some (some (.ref fINoNumber)))
    (tINoNumber : PySem.W.typeIn K (.ref fINoNumber) = some (.type "function"))
    (lINoNumber : K.lookup fINoNumber = some ⟨ocINoNumber, odINoNumber, .func (PySem.W.fnOf "__init__" "NoNumber.__init__" (defArgs s_iNoNumber) (defBody s_iNoNumber) (defScope s_iNoNumber) .none kVINoNumber dcINoNumber pmINoNumber anINoNumber cdINoNumber ctINoNumber), slINoNumber⟩)
    (cINoNumber : PySem.W.codeIn K cdINoNumber "NoNumber.__init__" = true)
    (kINoNumber : PySem.W.keepIn K (.ref fINoNumber) = true)
    (flNoNumber : PySem.W.findIn K (.ref c_NoNumber) "number" = some none)
    (gaNoNumber : PySem.W.findIn K (.ref c_NoNumber) "__getattribute__" = some (some (.builtin "BaseException.__getattribute__")))
    (ggNoNumber : PySem.W.findIn K (.ref c_NoNumber) "__getattr__" = some none)
    (hdNoNumber : PySem.W.hasDictIn K c_NoNumber = true)
    (caNoNumber : PySem.W.findIn K (.ref c_NoNumber) "__class__" = some (some (.builtin "object.__class__")))
    (moNoNumber : PySem.W.mroIn K c_NoNumber (.type "object") = some true)
    (meNoNumber : PySem.W.subIn K (.ref c_NoNumber) (.ref c_NoNumber) = some true)
    (sValueErrorNoNumber : PySem.W.subIn K (.ref c_NoNumber) (.type "ValueError") = some false)
    (sLookupErrorNoNumber : PySem.W.subIn K (.ref c_NoNumber) (.type "LookupError") = some true)
    (sRuntimeErrorNoNumber : PySem.W.subIn K (.ref c_NoNumber) (.type "RuntimeError") = some false)
    (sOverflowErrorNoNumber : PySem.W.subIn K (.ref c_NoNumber) (.type "OverflowError") = some false)
    (sKeyErrorNoNumber : PySem.W.subIn K (.ref c_NoNumber) (.type "KeyError") = some false)
    (sIndexErrorNoNumber : PySem.W.subIn K (.ref c_NoNumber) (.type "IndexError") = some false)
    (sNotImplementedErrorNoNumber : PySem.W.subIn K (.ref c_NoNumber) (.type "NotImplementedError") = some false)
    (aCNoOperation : PySem.W.nsIn K mainGlobals "NoOperation" = some (some (.ref c_NoOperation)))
    (lCNoOperation : K.lookup c_NoOperation = some (excClassObj nmNoOperation qNoOperation c_NoOperation NNoOperation bsNoOperation [.type "LookupError", .type "Exception", .type "BaseException", .type "object"] true snNoOperation subNoOperation abNoOperation colNoOperation ddNoOperation k0NoOperation k1NoOperation k2NoOperation k3NoOperation k5NoOperation "LookupError.__new__"))
    (saNoOperation : PySem.W.findIn K (.ref c_NoOperation) "__setattr__" = some (some (.builtin "object.__setattr__")))
    (beNoOperation : PySem.W.subIn K (.ref c_NoOperation) (.type "BaseException") = some true)
    (tcNoOperation : PySem.W.typeIn K (.ref c_NoOperation) = some (.type "type"))
    (kcNoOperation : PySem.W.keepIn K (.ref c_NoOperation) = true)
    (iCNoOperation : PySem.W.findIn K (.ref c_NoOperation) "__init__" = some (some (.ref fINoOperation)))
    (tINoOperation : PySem.W.typeIn K (.ref fINoOperation) = some (.type "function"))
    (lINoOperation : K.lookup fINoOperation = some ⟨ocINoOperation, odINoOperation, .func (PySem.W.fnOf "__init__" "NoOperation.__init__" (defArgs s_iNoOperation) (defBody s_iNoOperation) (defScope s_iNoOperation) .none kVINoOperation dcINoOperation pmINoOperation anINoOperation cdINoOperation ctINoOperation), slINoOperation⟩)
    (cINoOperation : PySem.W.codeIn K cdINoOperation "NoOperation.__init__" = true)
    (kINoOperation : PySem.W.keepIn K (.ref fINoOperation) = true)
    (flNoOperation : PySem.W.findIn K (.ref c_NoOperation) "many" = some none)
    (gaNoOperation : PySem.W.findIn K (.ref c_NoOperation) "__getattribute__" = some (some (.builtin "BaseException.__getattribute__")))
    (ggNoOperation : PySem.W.findIn K (.ref c_NoOperation) "__getattr__" = some none)
    (hdNoOperation : PySem.W.hasDictIn K c_NoOperation = true)
    (caNoOperation : PySem.W.findIn K (.ref c_NoOperation) "__class__" = some (some (.builtin "object.__class__")))
    (moNoOperation : PySem.W.mroIn K c_NoOperation (.type "object") = some true)
    (meNoOperation : PySem.W.subIn K (.ref c_NoOperation) (.ref c_NoOperation) = some true)
    (sValueErrorNoOperation : PySem.W.subIn K (.ref c_NoOperation) (.type "ValueError") = some false)
    (sLookupErrorNoOperation : PySem.W.subIn K (.ref c_NoOperation) (.type "LookupError") = some true)
    (sRuntimeErrorNoOperation : PySem.W.subIn K (.ref c_NoOperation) (.type "RuntimeError") = some false)
    (sOverflowErrorNoOperation : PySem.W.subIn K (.ref c_NoOperation) (.type "OverflowError") = some false)
    (sKeyErrorNoOperation : PySem.W.subIn K (.ref c_NoOperation) (.type "KeyError") = some false)
    (sIndexErrorNoOperation : PySem.W.subIn K (.ref c_NoOperation) (.type "IndexError") = some false)
    (sNotImplementedErrorNoOperation : PySem.W.subIn K (.ref c_NoOperation) (.type "NotImplementedError") = some false)
    (aCBlocked : PySem.W.nsIn K mainGlobals "Blocked" = some (some (.ref c_Blocked)))
    (lCBlocked : K.lookup c_Blocked = some (excClassObj nmBlocked qBlocked c_Blocked NBlocked bsBlocked [.type "RuntimeError", .type "Exception", .type "BaseException", .type "object"] true snBlocked subBlocked abBlocked colBlocked ddBlocked k0Blocked k1Blocked k2Blocked k3Blocked k5Blocked "RuntimeError.__new__"))
    (saBlocked : PySem.W.findIn K (.ref c_Blocked) "__setattr__" = some (some (.builtin "object.__setattr__")))
    (beBlocked : PySem.W.subIn K (.ref c_Blocked) (.type "BaseException") = some true)
    (tcBlocked : PySem.W.typeIn K (.ref c_Blocked) = some (.type "type"))
    (kcBlocked : PySem.W.keepIn K (.ref c_Blocked) = true)
    (iCBlocked : PySem.W.findIn K (.ref c_Blocked) "__init__" = some (some (.ref fIBlocked)))
    (tIBlocked : PySem.W.typeIn K (.ref fIBlocked) = some (.type "function"))
    (lIBlocked : K.lookup fIBlocked = some ⟨ocIBlocked, odIBlocked, .func (PySem.W.fnOf "__init__" "Blocked.__init__" (defArgs s_iBlocked) (defBody s_iBlocked) (defScope s_iBlocked) .none kVIBlocked dcIBlocked pmIBlocked anIBlocked cdIBlocked ctIBlocked), slIBlocked⟩)
    (cIBlocked : PySem.W.codeIn K cdIBlocked "Blocked.__init__" = true)
    (kIBlocked : PySem.W.keepIn K (.ref fIBlocked) = true)
    (flBlocked : PySem.W.findIn K (.ref c_Blocked) "pair" = some none)
    (gaBlocked : PySem.W.findIn K (.ref c_Blocked) "__getattribute__" = some (some (.builtin "BaseException.__getattribute__")))
    (ggBlocked : PySem.W.findIn K (.ref c_Blocked) "__getattr__" = some none)
    (hdBlocked : PySem.W.hasDictIn K c_Blocked = true)
    (caBlocked : PySem.W.findIn K (.ref c_Blocked) "__class__" = some (some (.builtin "object.__class__")))
    (moBlocked : PySem.W.mroIn K c_Blocked (.type "object") = some true)
    (meBlocked : PySem.W.subIn K (.ref c_Blocked) (.ref c_Blocked) = some true)
    (sValueErrorBlocked : PySem.W.subIn K (.ref c_Blocked) (.type "ValueError") = some false)
    (sLookupErrorBlocked : PySem.W.subIn K (.ref c_Blocked) (.type "LookupError") = some false)
    (sRuntimeErrorBlocked : PySem.W.subIn K (.ref c_Blocked) (.type "RuntimeError") = some true)
    (sOverflowErrorBlocked : PySem.W.subIn K (.ref c_Blocked) (.type "OverflowError") = some false)
    (sKeyErrorBlocked : PySem.W.subIn K (.ref c_Blocked) (.type "KeyError") = some false)
    (sIndexErrorBlocked : PySem.W.subIn K (.ref c_Blocked) (.type "IndexError") = some false)
    (sNotImplementedErrorBlocked : PySem.W.subIn K (.ref c_Blocked) (.type "NotImplementedError") = some false)
    (aCEarly : PySem.W.nsIn K mainGlobals "Early" = some (some (.ref c_Early)))
    (lCEarly : K.lookup c_Early = some (excClassObj nmEarly qEarly c_Early NEarly bsEarly [.type "RuntimeError", .type "Exception", .type "BaseException", .type "object"] true snEarly subEarly abEarly colEarly ddEarly k0Early k1Early k2Early k3Early k5Early "RuntimeError.__new__"))
    (saEarly : PySem.W.findIn K (.ref c_Early) "__setattr__" = some (some (.builtin "object.__setattr__")))
    (beEarly : PySem.W.subIn K (.ref c_Early) (.type "BaseException") = some true)
    (tcEarly : PySem.W.typeIn K (.ref c_Early) = some (.type "type"))
    (kcEarly : PySem.W.keepIn K (.ref c_Early) = true)
    (iCEarly : PySem.W.findIn K (.ref c_Early) "__init__" = some (some (.ref fIEarly)))
    (tIEarly : PySem.W.typeIn K (.ref fIEarly) = some (.type "function"))
    (lIEarly : K.lookup fIEarly = some ⟨ocIEarly, odIEarly, .func (PySem.W.fnOf "__init__" "Early.__init__" (defArgs s_iEarly) (defBody s_iEarly) (defScope s_iEarly) .none kVIEarly dcIEarly pmIEarly anIEarly cdIEarly ctIEarly), slIEarly⟩)
    (cIEarly : PySem.W.codeIn K cdIEarly "Early.__init__" = true)
    (kIEarly : PySem.W.keepIn K (.ref fIEarly) = true)
    (flEarly : PySem.W.findIn K (.ref c_Early) "person" = some none)
    (gaEarly : PySem.W.findIn K (.ref c_Early) "__getattribute__" = some (some (.builtin "BaseException.__getattribute__")))
    (ggEarly : PySem.W.findIn K (.ref c_Early) "__getattr__" = some none)
    (hdEarly : PySem.W.hasDictIn K c_Early = true)
    (caEarly : PySem.W.findIn K (.ref c_Early) "__class__" = some (some (.builtin "object.__class__")))
    (moEarly : PySem.W.mroIn K c_Early (.type "object") = some true)
    (meEarly : PySem.W.subIn K (.ref c_Early) (.ref c_Early) = some true)
    (sValueErrorEarly : PySem.W.subIn K (.ref c_Early) (.type "ValueError") = some false)
    (sLookupErrorEarly : PySem.W.subIn K (.ref c_Early) (.type "LookupError") = some false)
    (sRuntimeErrorEarly : PySem.W.subIn K (.ref c_Early) (.type "RuntimeError") = some true)
    (sOverflowErrorEarly : PySem.W.subIn K (.ref c_Early) (.type "OverflowError") = some false)
    (sKeyErrorEarly : PySem.W.subIn K (.ref c_Early) (.type "KeyError") = some false)
    (sIndexErrorEarly : PySem.W.subIn K (.ref c_Early) (.type "IndexError") = some false)
    (sNotImplementedErrorEarly : PySem.W.subIn K (.ref c_Early) (.type "NotImplementedError") = some false)
    (aCHere : PySem.W.nsIn K mainGlobals "Here" = some (some (.ref c_Here)))
    (lCHere : K.lookup c_Here = some (excClassObj nmHere qHere c_Here NHere bsHere [.type "RuntimeError", .type "Exception", .type "BaseException", .type "object"] true snHere subHere abHere colHere ddHere k0Here k1Here k2Here k3Here k5Here "RuntimeError.__new__"))
    (saHere : PySem.W.findIn K (.ref c_Here) "__setattr__" = some (some (.builtin "object.__setattr__")))
    (beHere : PySem.W.subIn K (.ref c_Here) (.type "BaseException") = some true)
    (tcHere : PySem.W.typeIn K (.ref c_Here) = some (.type "type"))
    (kcHere : PySem.W.keepIn K (.ref c_Here) = true)
    (iCHere : PySem.W.findIn K (.ref c_Here) "__init__" = some (some (.ref fIHere)))
    (tIHere : PySem.W.typeIn K (.ref fIHere) = some (.type "function"))
    (lIHere : K.lookup fIHere = some ⟨ocIHere, odIHere, .func (PySem.W.fnOf "__init__" "Here.__init__" (defArgs s_iHere) (defBody s_iHere) (defScope s_iHere) .none kVIHere dcIHere pmIHere anIHere cdIHere ctIHere), slIHere⟩)
    (cIHere : PySem.W.codeIn K cdIHere "Here.__init__" = true)
    (kIHere : PySem.W.keepIn K (.ref fIHere) = true)
    (flHere : PySem.W.findIn K (.ref c_Here) "person" = some none)
    (gaHere : PySem.W.findIn K (.ref c_Here) "__getattribute__" = some (some (.builtin "BaseException.__getattribute__")))
    (ggHere : PySem.W.findIn K (.ref c_Here) "__getattr__" = some none)
    (hdHere : PySem.W.hasDictIn K c_Here = true)
    (caHere : PySem.W.findIn K (.ref c_Here) "__class__" = some (some (.builtin "object.__class__")))
    (moHere : PySem.W.mroIn K c_Here (.type "object") = some true)
    (meHere : PySem.W.subIn K (.ref c_Here) (.ref c_Here) = some true)
    (sValueErrorHere : PySem.W.subIn K (.ref c_Here) (.type "ValueError") = some false)
    (sLookupErrorHere : PySem.W.subIn K (.ref c_Here) (.type "LookupError") = some false)
    (sRuntimeErrorHere : PySem.W.subIn K (.ref c_Here) (.type "RuntimeError") = some true)
    (sOverflowErrorHere : PySem.W.subIn K (.ref c_Here) (.type "OverflowError") = some false)
    (sKeyErrorHere : PySem.W.subIn K (.ref c_Here) (.type "KeyError") = some false)
    (sIndexErrorHere : PySem.W.subIn K (.ref c_Here) (.type "IndexError") = some false)
    (sNotImplementedErrorHere : PySem.W.subIn K (.ref c_Here) (.type "NotImplementedError") = some false)
    (aCTooMany : PySem.W.nsIn K mainGlobals "TooMany" = some (some (.ref c_TooMany)))
    (lCTooMany : K.lookup c_TooMany = some (excClassObj nmTooMany qTooMany c_TooMany NTooMany bsTooMany [.type "OverflowError", .type "ArithmeticError", .type "Exception", .type "BaseException", .type "object"] true snTooMany subTooMany abTooMany colTooMany ddTooMany k0TooMany k1TooMany k2TooMany k3TooMany k5TooMany "OverflowError.__new__"))
    (saTooMany : PySem.W.findIn K (.ref c_TooMany) "__setattr__" = some (some (.builtin "object.__setattr__")))
    (beTooMany : PySem.W.subIn K (.ref c_TooMany) (.type "BaseException") = some true)
    (tcTooMany : PySem.W.typeIn K (.ref c_TooMany) = some (.type "type"))
    (kcTooMany : PySem.W.keepIn K (.ref c_TooMany) = true)
    (iCTooMany : PySem.W.findIn K (.ref c_TooMany) "__init__" = some (some (.ref fITooMany)))
    (tITooMany : PySem.W.typeIn K (.ref fITooMany) = some (.type "function"))
    (lITooMany : K.lookup fITooMany = some ⟨ocITooMany, odITooMany, .func (PySem.W.fnOf "__init__" "TooMany.__init__" (defArgs s_iTooMany) (defBody s_iTooMany) (defScope s_iTooMany) .none kVITooMany dcITooMany pmITooMany anITooMany cdITooMany ctITooMany), slITooMany⟩)
    (cITooMany : PySem.W.codeIn K cdITooMany "TooMany.__init__" = true)
    (kITooMany : PySem.W.keepIn K (.ref fITooMany) = true)
    (flTooMany : PySem.W.findIn K (.ref c_TooMany) "many" = some none)
    (gaTooMany : PySem.W.findIn K (.ref c_TooMany) "__getattribute__" = some (some (.builtin "BaseException.__getattribute__")))
    (ggTooMany : PySem.W.findIn K (.ref c_TooMany) "__getattr__" = some none)
    (hdTooMany : PySem.W.hasDictIn K c_TooMany = true)
    (caTooMany : PySem.W.findIn K (.ref c_TooMany) "__class__" = some (some (.builtin "object.__class__")))
    (moTooMany : PySem.W.mroIn K c_TooMany (.type "object") = some true)
    (meTooMany : PySem.W.subIn K (.ref c_TooMany) (.ref c_TooMany) = some true)
    (sValueErrorTooMany : PySem.W.subIn K (.ref c_TooMany) (.type "ValueError") = some false)
    (sLookupErrorTooMany : PySem.W.subIn K (.ref c_TooMany) (.type "LookupError") = some false)
    (sRuntimeErrorTooMany : PySem.W.subIn K (.ref c_TooMany) (.type "RuntimeError") = some false)
    (sOverflowErrorTooMany : PySem.W.subIn K (.ref c_TooMany) (.type "OverflowError") = some true)
    (sKeyErrorTooMany : PySem.W.subIn K (.ref c_TooMany) (.type "KeyError") = some false)
    (sIndexErrorTooMany : PySem.W.subIn K (.ref c_TooMany) (.type "IndexError") = some false)
    (sNotImplementedErrorTooMany : PySem.W.subIn K (.ref c_TooMany) (.type "NotImplementedError") = some false)
    (aCFull : PySem.W.nsIn K mainGlobals "Full" = some (some (.ref c_Full)))
    (lCFull : K.lookup c_Full = some (excClassObj nmFull qFull c_Full NFull bsFull [.type "OverflowError", .type "ArithmeticError", .type "Exception", .type "BaseException", .type "object"] true snFull subFull abFull colFull ddFull k0Full k1Full k2Full k3Full k5Full "OverflowError.__new__"))
    (saFull : PySem.W.findIn K (.ref c_Full) "__setattr__" = some (some (.builtin "object.__setattr__")))
    (beFull : PySem.W.subIn K (.ref c_Full) (.type "BaseException") = some true)
    (tcFull : PySem.W.typeIn K (.ref c_Full) = some (.type "type"))
    (kcFull : PySem.W.keepIn K (.ref c_Full) = true)
    (iCFull : PySem.W.findIn K (.ref c_Full) "__init__" = some (some (.ref fIFull)))
    (tIFull : PySem.W.typeIn K (.ref fIFull) = some (.type "function"))
    (lIFull : K.lookup fIFull = some ⟨ocIFull, odIFull, .func (PySem.W.fnOf "__init__" "Full.__init__" (defArgs s_iFull) (defBody s_iFull) (defScope s_iFull) .none kVIFull dcIFull pmIFull anIFull cdIFull ctIFull), slIFull⟩)
    (cIFull : PySem.W.codeIn K cdIFull "Full.__init__" = true)
    (kIFull : PySem.W.keepIn K (.ref fIFull) = true)
    (flFull : PySem.W.findIn K (.ref c_Full) "many" = some none)
    (gaFull : PySem.W.findIn K (.ref c_Full) "__getattribute__" = some (some (.builtin "BaseException.__getattribute__")))
    (ggFull : PySem.W.findIn K (.ref c_Full) "__getattr__" = some none)
    (hdFull : PySem.W.hasDictIn K c_Full = true)
    (caFull : PySem.W.findIn K (.ref c_Full) "__class__" = some (some (.builtin "object.__class__")))
    (moFull : PySem.W.mroIn K c_Full (.type "object") = some true)
    (meFull : PySem.W.subIn K (.ref c_Full) (.ref c_Full) = some true)
    (sValueErrorFull : PySem.W.subIn K (.ref c_Full) (.type "ValueError") = some false)
    (sLookupErrorFull : PySem.W.subIn K (.ref c_Full) (.type "LookupError") = some false)
    (sRuntimeErrorFull : PySem.W.subIn K (.ref c_Full) (.type "RuntimeError") = some false)
    (sOverflowErrorFull : PySem.W.subIn K (.ref c_Full) (.type "OverflowError") = some true)
    (sKeyErrorFull : PySem.W.subIn K (.ref c_Full) (.type "KeyError") = some false)
    (sIndexErrorFull : PySem.W.subIn K (.ref c_Full) (.type "IndexError") = some false)
    (sNotImplementedErrorFull : PySem.W.subIn K (.ref c_Full) (.type "NotImplementedError") = some false)
    (vVLookupError : PySem.W.findCls K (.type "LookupError") (.type "type") "__init__" = some (.val (.builtin "LookupError.__init__")))
    (vVOverflowError : PySem.W.findCls K (.type "OverflowError") (.type "type") "__init__" = some (.val (.builtin "OverflowError.__init__")))
    (vVRuntimeError : PySem.W.findCls K (.type "RuntimeError") (.type "type") "__init__" = some (.val (.builtin "RuntimeError.__init__")))
    (vVValueError : PySem.W.findCls K (.type "ValueError") (.type "type") "__init__" = some (.val (.builtin "ValueError.__init__")))
    (zbIndexError : PySem.W.nsIn K mainGlobals "IndexError" = some none)
    (zbKeyError : PySem.W.nsIn K mainGlobals "KeyError" = some none)
    (zbLookupError : PySem.W.nsIn K mainGlobals "LookupError" = some none)
    (zbNotImplementedError : PySem.W.nsIn K mainGlobals "NotImplementedError" = some none)
    (zbOverflowError : PySem.W.nsIn K mainGlobals "OverflowError" = some none)
    (zbRuntimeError : PySem.W.nsIn K mainGlobals "RuntimeError" = some none)
    (zbValueError : PySem.W.nsIn K mainGlobals "ValueError" = some none)
    (spC : PySem.W.specialIn K (.builtin "object.__class__") "__get__" = some (some (.builtin "getset_descriptor.__get__")))
    (tkC : PySem.W.takesIn K (.builtin "object.__class__") = some true)
    (neBadLineBadText : PySem.W.subIn K (.ref c_BadLine) (.ref c_BadText) = some false)
    (neBadLineBlocked : PySem.W.subIn K (.ref c_BadLine) (.ref c_Blocked) = some false)
    (neBadLineContradiction : PySem.W.subIn K (.ref c_BadLine) (.ref c_Contradiction) = some false)
    (neBadLineEarly : PySem.W.subIn K (.ref c_BadLine) (.ref c_Early) = some false)
    (neBadLineFull : PySem.W.subIn K (.ref c_BadLine) (.ref c_Full) = some false)
    (neBadLineHere : PySem.W.subIn K (.ref c_BadLine) (.ref c_Here) = some false)
    (neBadLineMisfit : PySem.W.subIn K (.ref c_BadLine) (.ref c_Misfit) = some false)
    (neBadLineNoInvitation : PySem.W.subIn K (.ref c_BadLine) (.ref c_NoInvitation) = some false)
    (neBadLineNoNumber : PySem.W.subIn K (.ref c_BadLine) (.ref c_NoNumber) = some false)
    (neBadLineNoOperation : PySem.W.subIn K (.ref c_BadLine) (.ref c_NoOperation) = some false)
    (neBadLineNoPerson : PySem.W.subIn K (.ref c_BadLine) (.ref c_NoPerson) = some false)
    (neBadLineNoPlace : PySem.W.subIn K (.ref c_BadLine) (.ref c_NoPlace) = some false)
    (neBadLineStuck : PySem.W.subIn K (.ref c_BadLine) (.ref c_Stuck) = some false)
    (neBadLineTooMany : PySem.W.subIn K (.ref c_BadLine) (.ref c_TooMany) = some false)
    (neBadTextBadLine : PySem.W.subIn K (.ref c_BadText) (.ref c_BadLine) = some false)
    (neBadTextBlocked : PySem.W.subIn K (.ref c_BadText) (.ref c_Blocked) = some false)
    (neBadTextContradiction : PySem.W.subIn K (.ref c_BadText) (.ref c_Contradiction) = some false)
    (neBadTextEarly : PySem.W.subIn K (.ref c_BadText) (.ref c_Early) = some false)
    (neBadTextFull : PySem.W.subIn K (.ref c_BadText) (.ref c_Full) = some false)
    (neBadTextHere : PySem.W.subIn K (.ref c_BadText) (.ref c_Here) = some false)
    (neBadTextMisfit : PySem.W.subIn K (.ref c_BadText) (.ref c_Misfit) = some false)
    (neBadTextNoInvitation : PySem.W.subIn K (.ref c_BadText) (.ref c_NoInvitation) = some false)
    (neBadTextNoNumber : PySem.W.subIn K (.ref c_BadText) (.ref c_NoNumber) = some false)
    (neBadTextNoOperation : PySem.W.subIn K (.ref c_BadText) (.ref c_NoOperation) = some false)
    (neBadTextNoPerson : PySem.W.subIn K (.ref c_BadText) (.ref c_NoPerson) = some false)
    (neBadTextNoPlace : PySem.W.subIn K (.ref c_BadText) (.ref c_NoPlace) = some false)
    (neBadTextStuck : PySem.W.subIn K (.ref c_BadText) (.ref c_Stuck) = some false)
    (neBadTextTooMany : PySem.W.subIn K (.ref c_BadText) (.ref c_TooMany) = some false)
    (neBlockedBadLine : PySem.W.subIn K (.ref c_Blocked) (.ref c_BadLine) = some false)
    (neBlockedBadText : PySem.W.subIn K (.ref c_Blocked) (.ref c_BadText) = some false)
    (neBlockedContradiction : PySem.W.subIn K (.ref c_Blocked) (.ref c_Contradiction) = some false)
    (neBlockedEarly : PySem.W.subIn K (.ref c_Blocked) (.ref c_Early) = some false)
    (neBlockedFull : PySem.W.subIn K (.ref c_Blocked) (.ref c_Full) = some false)
    (neBlockedHere : PySem.W.subIn K (.ref c_Blocked) (.ref c_Here) = some false)
    (neBlockedMisfit : PySem.W.subIn K (.ref c_Blocked) (.ref c_Misfit) = some false)
    (neBlockedNoInvitation : PySem.W.subIn K (.ref c_Blocked) (.ref c_NoInvitation) = some false)
    (neBlockedNoNumber : PySem.W.subIn K (.ref c_Blocked) (.ref c_NoNumber) = some false)
    (neBlockedNoOperation : PySem.W.subIn K (.ref c_Blocked) (.ref c_NoOperation) = some false)
    (neBlockedNoPerson : PySem.W.subIn K (.ref c_Blocked) (.ref c_NoPerson) = some false)
    (neBlockedNoPlace : PySem.W.subIn K (.ref c_Blocked) (.ref c_NoPlace) = some false)
    (neBlockedStuck : PySem.W.subIn K (.ref c_Blocked) (.ref c_Stuck) = some false)
    (neBlockedTooMany : PySem.W.subIn K (.ref c_Blocked) (.ref c_TooMany) = some false)
    (neContradictionBadLine : PySem.W.subIn K (.ref c_Contradiction) (.ref c_BadLine) = some false)
    (neContradictionBadText : PySem.W.subIn K (.ref c_Contradiction) (.ref c_BadText) = some false)
    (neContradictionBlocked : PySem.W.subIn K (.ref c_Contradiction) (.ref c_Blocked) = some false)
    (neContradictionEarly : PySem.W.subIn K (.ref c_Contradiction) (.ref c_Early) = some false)
    (neContradictionFull : PySem.W.subIn K (.ref c_Contradiction) (.ref c_Full) = some false)
    (neContradictionHere : PySem.W.subIn K (.ref c_Contradiction) (.ref c_Here) = some false)
    (neContradictionMisfit : PySem.W.subIn K (.ref c_Contradiction) (.ref c_Misfit) = some false)
    (neContradictionNoInvitation : PySem.W.subIn K (.ref c_Contradiction) (.ref c_NoInvitation) = some false)
    (neContradictionNoNumber : PySem.W.subIn K (.ref c_Contradiction) (.ref c_NoNumber) = some false)
    (neContradictionNoOperation : PySem.W.subIn K (.ref c_Contradiction) (.ref c_NoOperation) = some false)
    (neContradictionNoPerson : PySem.W.subIn K (.ref c_Contradiction) (.ref c_NoPerson) = some false)
    (neContradictionNoPlace : PySem.W.subIn K (.ref c_Contradiction) (.ref c_NoPlace) = some false)
    (neContradictionStuck : PySem.W.subIn K (.ref c_Contradiction) (.ref c_Stuck) = some false)
    (neContradictionTooMany : PySem.W.subIn K (.ref c_Contradiction) (.ref c_TooMany) = some false)
    (neEarlyBadLine : PySem.W.subIn K (.ref c_Early) (.ref c_BadLine) = some false)
    (neEarlyBadText : PySem.W.subIn K (.ref c_Early) (.ref c_BadText) = some false)
    (neEarlyBlocked : PySem.W.subIn K (.ref c_Early) (.ref c_Blocked) = some false)
    (neEarlyContradiction : PySem.W.subIn K (.ref c_Early) (.ref c_Contradiction) = some false)
    (neEarlyFull : PySem.W.subIn K (.ref c_Early) (.ref c_Full) = some false)
    (neEarlyHere : PySem.W.subIn K (.ref c_Early) (.ref c_Here) = some false)
    (neEarlyMisfit : PySem.W.subIn K (.ref c_Early) (.ref c_Misfit) = some false)
    (neEarlyNoInvitation : PySem.W.subIn K (.ref c_Early) (.ref c_NoInvitation) = some false)
    (neEarlyNoNumber : PySem.W.subIn K (.ref c_Early) (.ref c_NoNumber) = some false)
    (neEarlyNoOperation : PySem.W.subIn K (.ref c_Early) (.ref c_NoOperation) = some false)
    (neEarlyNoPerson : PySem.W.subIn K (.ref c_Early) (.ref c_NoPerson) = some false)
    (neEarlyNoPlace : PySem.W.subIn K (.ref c_Early) (.ref c_NoPlace) = some false)
    (neEarlyStuck : PySem.W.subIn K (.ref c_Early) (.ref c_Stuck) = some false)
    (neEarlyTooMany : PySem.W.subIn K (.ref c_Early) (.ref c_TooMany) = some false)
    (neFullBadLine : PySem.W.subIn K (.ref c_Full) (.ref c_BadLine) = some false)
    (neFullBadText : PySem.W.subIn K (.ref c_Full) (.ref c_BadText) = some false)
    (neFullBlocked : PySem.W.subIn K (.ref c_Full) (.ref c_Blocked) = some false)
    (neFullContradiction : PySem.W.subIn K (.ref c_Full) (.ref c_Contradiction) = some false)
    (neFullEarly : PySem.W.subIn K (.ref c_Full) (.ref c_Early) = some false)
    (neFullHere : PySem.W.subIn K (.ref c_Full) (.ref c_Here) = some false)
    (neFullMisfit : PySem.W.subIn K (.ref c_Full) (.ref c_Misfit) = some false)
    (neFullNoInvitation : PySem.W.subIn K (.ref c_Full) (.ref c_NoInvitation) = some false)
    (neFullNoNumber : PySem.W.subIn K (.ref c_Full) (.ref c_NoNumber) = some false)
    (neFullNoOperation : PySem.W.subIn K (.ref c_Full) (.ref c_NoOperation) = some false)
    (neFullNoPerson : PySem.W.subIn K (.ref c_Full) (.ref c_NoPerson) = some false)
    (neFullNoPlace : PySem.W.subIn K (.ref c_Full) (.ref c_NoPlace) = some false)
    (neFullStuck : PySem.W.subIn K (.ref c_Full) (.ref c_Stuck) = some false)
    (neFullTooMany : PySem.W.subIn K (.ref c_Full) (.ref c_TooMany) = some false)
    (neHereBadLine : PySem.W.subIn K (.ref c_Here) (.ref c_BadLine) = some false)
    (neHereBadText : PySem.W.subIn K (.ref c_Here) (.ref c_BadText) = some false)
    (neHereBlocked : PySem.W.subIn K (.ref c_Here) (.ref c_Blocked) = some false)
    (neHereContradiction : PySem.W.subIn K (.ref c_Here) (.ref c_Contradiction) = some false)
    (neHereEarly : PySem.W.subIn K (.ref c_Here) (.ref c_Early) = some false)
    (neHereFull : PySem.W.subIn K (.ref c_Here) (.ref c_Full) = some false)
    (neHereMisfit : PySem.W.subIn K (.ref c_Here) (.ref c_Misfit) = some false)
    (neHereNoInvitation : PySem.W.subIn K (.ref c_Here) (.ref c_NoInvitation) = some false)
    (neHereNoNumber : PySem.W.subIn K (.ref c_Here) (.ref c_NoNumber) = some false)
    (neHereNoOperation : PySem.W.subIn K (.ref c_Here) (.ref c_NoOperation) = some false)
    (neHereNoPerson : PySem.W.subIn K (.ref c_Here) (.ref c_NoPerson) = some false)
    (neHereNoPlace : PySem.W.subIn K (.ref c_Here) (.ref c_NoPlace) = some false)
    (neHereStuck : PySem.W.subIn K (.ref c_Here) (.ref c_Stuck) = some false)
    (neHereTooMany : PySem.W.subIn K (.ref c_Here) (.ref c_TooMany) = some false)
    (neMisfitBadLine : PySem.W.subIn K (.ref c_Misfit) (.ref c_BadLine) = some false)
    (neMisfitBadText : PySem.W.subIn K (.ref c_Misfit) (.ref c_BadText) = some false)
    (neMisfitBlocked : PySem.W.subIn K (.ref c_Misfit) (.ref c_Blocked) = some false)
    (neMisfitContradiction : PySem.W.subIn K (.ref c_Misfit) (.ref c_Contradiction) = some false)
    (neMisfitEarly : PySem.W.subIn K (.ref c_Misfit) (.ref c_Early) = some false)
    (neMisfitFull : PySem.W.subIn K (.ref c_Misfit) (.ref c_Full) = some false)
    (neMisfitHere : PySem.W.subIn K (.ref c_Misfit) (.ref c_Here) = some false)
    (neMisfitNoInvitation : PySem.W.subIn K (.ref c_Misfit) (.ref c_NoInvitation) = some false)
    (neMisfitNoNumber : PySem.W.subIn K (.ref c_Misfit) (.ref c_NoNumber) = some false)
    (neMisfitNoOperation : PySem.W.subIn K (.ref c_Misfit) (.ref c_NoOperation) = some false)
    (neMisfitNoPerson : PySem.W.subIn K (.ref c_Misfit) (.ref c_NoPerson) = some false)
    (neMisfitNoPlace : PySem.W.subIn K (.ref c_Misfit) (.ref c_NoPlace) = some false)
    (neMisfitStuck : PySem.W.subIn K (.ref c_Misfit) (.ref c_Stuck) = some false)
    (neMisfitTooMany : PySem.W.subIn K (.ref c_Misfit) (.ref c_TooMany) = some false)
    (neNoInvitationBadLine : PySem.W.subIn K (.ref c_NoInvitation) (.ref c_BadLine) = some false)
    (neNoInvitationBadText : PySem.W.subIn K (.ref c_NoInvitation) (.ref c_BadText) = some false)
    (neNoInvitationBlocked : PySem.W.subIn K (.ref c_NoInvitation) (.ref c_Blocked) = some false)
    (neNoInvitationContradiction : PySem.W.subIn K (.ref c_NoInvitation) (.ref c_Contradiction) = some false)
    (neNoInvitationEarly : PySem.W.subIn K (.ref c_NoInvitation) (.ref c_Early) = some false)
    (neNoInvitationFull : PySem.W.subIn K (.ref c_NoInvitation) (.ref c_Full) = some false)
    (neNoInvitationHere : PySem.W.subIn K (.ref c_NoInvitation) (.ref c_Here) = some false)
    (neNoInvitationMisfit : PySem.W.subIn K (.ref c_NoInvitation) (.ref c_Misfit) = some false)
    (neNoInvitationNoNumber : PySem.W.subIn K (.ref c_NoInvitation) (.ref c_NoNumber) = some false)
    (neNoInvitationNoOperation : PySem.W.subIn K (.ref c_NoInvitation) (.ref c_NoOperation) = some false)
    (neNoInvitationNoPerson : PySem.W.subIn K (.ref c_NoInvitation) (.ref c_NoPerson) = some false)
    (neNoInvitationNoPlace : PySem.W.subIn K (.ref c_NoInvitation) (.ref c_NoPlace) = some false)
    (neNoInvitationStuck : PySem.W.subIn K (.ref c_NoInvitation) (.ref c_Stuck) = some false)
    (neNoInvitationTooMany : PySem.W.subIn K (.ref c_NoInvitation) (.ref c_TooMany) = some false)
    (neNoNumberBadLine : PySem.W.subIn K (.ref c_NoNumber) (.ref c_BadLine) = some false)
    (neNoNumberBadText : PySem.W.subIn K (.ref c_NoNumber) (.ref c_BadText) = some false)
    (neNoNumberBlocked : PySem.W.subIn K (.ref c_NoNumber) (.ref c_Blocked) = some false)
    (neNoNumberContradiction : PySem.W.subIn K (.ref c_NoNumber) (.ref c_Contradiction) = some false)
    (neNoNumberEarly : PySem.W.subIn K (.ref c_NoNumber) (.ref c_Early) = some false)
    (neNoNumberFull : PySem.W.subIn K (.ref c_NoNumber) (.ref c_Full) = some false)
    (neNoNumberHere : PySem.W.subIn K (.ref c_NoNumber) (.ref c_Here) = some false)
    (neNoNumberMisfit : PySem.W.subIn K (.ref c_NoNumber) (.ref c_Misfit) = some false)
    (neNoNumberNoInvitation : PySem.W.subIn K (.ref c_NoNumber) (.ref c_NoInvitation) = some false)
    (neNoNumberNoOperation : PySem.W.subIn K (.ref c_NoNumber) (.ref c_NoOperation) = some false)
    (neNoNumberNoPerson : PySem.W.subIn K (.ref c_NoNumber) (.ref c_NoPerson) = some false)
    (neNoNumberNoPlace : PySem.W.subIn K (.ref c_NoNumber) (.ref c_NoPlace) = some false)
    (neNoNumberStuck : PySem.W.subIn K (.ref c_NoNumber) (.ref c_Stuck) = some false)
    (neNoNumberTooMany : PySem.W.subIn K (.ref c_NoNumber) (.ref c_TooMany) = some false)
    (neNoOperationBadLine : PySem.W.subIn K (.ref c_NoOperation) (.ref c_BadLine) = some false)
    (neNoOperationBadText : PySem.W.subIn K (.ref c_NoOperation) (.ref c_BadText) = some false)
    (neNoOperationBlocked : PySem.W.subIn K (.ref c_NoOperation) (.ref c_Blocked) = some false)
    (neNoOperationContradiction : PySem.W.subIn K (.ref c_NoOperation) (.ref c_Contradiction) = some false)
    (neNoOperationEarly : PySem.W.subIn K (.ref c_NoOperation) (.ref c_Early) = some false)
    (neNoOperationFull : PySem.W.subIn K (.ref c_NoOperation) (.ref c_Full) = some false)
    (neNoOperationHere : PySem.W.subIn K (.ref c_NoOperation) (.ref c_Here) = some false)
    (neNoOperationMisfit : PySem.W.subIn K (.ref c_NoOperation) (.ref c_Misfit) = some false)
    (neNoOperationNoInvitation : PySem.W.subIn K (.ref c_NoOperation) (.ref c_NoInvitation) = some false)
    (neNoOperationNoNumber : PySem.W.subIn K (.ref c_NoOperation) (.ref c_NoNumber) = some false)
    (neNoOperationNoPerson : PySem.W.subIn K (.ref c_NoOperation) (.ref c_NoPerson) = some false)
    (neNoOperationNoPlace : PySem.W.subIn K (.ref c_NoOperation) (.ref c_NoPlace) = some false)
    (neNoOperationStuck : PySem.W.subIn K (.ref c_NoOperation) (.ref c_Stuck) = some false)
    (neNoOperationTooMany : PySem.W.subIn K (.ref c_NoOperation) (.ref c_TooMany) = some false)
    (neNoPersonBadLine : PySem.W.subIn K (.ref c_NoPerson) (.ref c_BadLine) = some false)
    (neNoPersonBadText : PySem.W.subIn K (.ref c_NoPerson) (.ref c_BadText) = some false)
    (neNoPersonBlocked : PySem.W.subIn K (.ref c_NoPerson) (.ref c_Blocked) = some false)
    (neNoPersonContradiction : PySem.W.subIn K (.ref c_NoPerson) (.ref c_Contradiction) = some false)
    (neNoPersonEarly : PySem.W.subIn K (.ref c_NoPerson) (.ref c_Early) = some false)
    (neNoPersonFull : PySem.W.subIn K (.ref c_NoPerson) (.ref c_Full) = some false)
    (neNoPersonHere : PySem.W.subIn K (.ref c_NoPerson) (.ref c_Here) = some false)
    (neNoPersonMisfit : PySem.W.subIn K (.ref c_NoPerson) (.ref c_Misfit) = some false)
    (neNoPersonNoInvitation : PySem.W.subIn K (.ref c_NoPerson) (.ref c_NoInvitation) = some false)
    (neNoPersonNoNumber : PySem.W.subIn K (.ref c_NoPerson) (.ref c_NoNumber) = some false)
    (neNoPersonNoOperation : PySem.W.subIn K (.ref c_NoPerson) (.ref c_NoOperation) = some false)
    (neNoPersonNoPlace : PySem.W.subIn K (.ref c_NoPerson) (.ref c_NoPlace) = some false)
    (neNoPersonStuck : PySem.W.subIn K (.ref c_NoPerson) (.ref c_Stuck) = some false)
    (neNoPersonTooMany : PySem.W.subIn K (.ref c_NoPerson) (.ref c_TooMany) = some false)
    (neNoPlaceBadLine : PySem.W.subIn K (.ref c_NoPlace) (.ref c_BadLine) = some false)
    (neNoPlaceBadText : PySem.W.subIn K (.ref c_NoPlace) (.ref c_BadText) = some false)
    (neNoPlaceBlocked : PySem.W.subIn K (.ref c_NoPlace) (.ref c_Blocked) = some false)
    (neNoPlaceContradiction : PySem.W.subIn K (.ref c_NoPlace) (.ref c_Contradiction) = some false)
    (neNoPlaceEarly : PySem.W.subIn K (.ref c_NoPlace) (.ref c_Early) = some false)
    (neNoPlaceFull : PySem.W.subIn K (.ref c_NoPlace) (.ref c_Full) = some false)
    (neNoPlaceHere : PySem.W.subIn K (.ref c_NoPlace) (.ref c_Here) = some false)
    (neNoPlaceMisfit : PySem.W.subIn K (.ref c_NoPlace) (.ref c_Misfit) = some false)
    (neNoPlaceNoInvitation : PySem.W.subIn K (.ref c_NoPlace) (.ref c_NoInvitation) = some false)
    (neNoPlaceNoNumber : PySem.W.subIn K (.ref c_NoPlace) (.ref c_NoNumber) = some false)
    (neNoPlaceNoOperation : PySem.W.subIn K (.ref c_NoPlace) (.ref c_NoOperation) = some false)
    (neNoPlaceNoPerson : PySem.W.subIn K (.ref c_NoPlace) (.ref c_NoPerson) = some false)
    (neNoPlaceStuck : PySem.W.subIn K (.ref c_NoPlace) (.ref c_Stuck) = some false)
    (neNoPlaceTooMany : PySem.W.subIn K (.ref c_NoPlace) (.ref c_TooMany) = some false)
    (neStuckBadLine : PySem.W.subIn K (.ref c_Stuck) (.ref c_BadLine) = some false)
    (neStuckBadText : PySem.W.subIn K (.ref c_Stuck) (.ref c_BadText) = some false)
    (neStuckBlocked : PySem.W.subIn K (.ref c_Stuck) (.ref c_Blocked) = some false)
    (neStuckContradiction : PySem.W.subIn K (.ref c_Stuck) (.ref c_Contradiction) = some false)
    (neStuckEarly : PySem.W.subIn K (.ref c_Stuck) (.ref c_Early) = some false)
    (neStuckFull : PySem.W.subIn K (.ref c_Stuck) (.ref c_Full) = some false)
    (neStuckHere : PySem.W.subIn K (.ref c_Stuck) (.ref c_Here) = some false)
    (neStuckMisfit : PySem.W.subIn K (.ref c_Stuck) (.ref c_Misfit) = some false)
    (neStuckNoInvitation : PySem.W.subIn K (.ref c_Stuck) (.ref c_NoInvitation) = some false)
    (neStuckNoNumber : PySem.W.subIn K (.ref c_Stuck) (.ref c_NoNumber) = some false)
    (neStuckNoOperation : PySem.W.subIn K (.ref c_Stuck) (.ref c_NoOperation) = some false)
    (neStuckNoPerson : PySem.W.subIn K (.ref c_Stuck) (.ref c_NoPerson) = some false)
    (neStuckNoPlace : PySem.W.subIn K (.ref c_Stuck) (.ref c_NoPlace) = some false)
    (neStuckTooMany : PySem.W.subIn K (.ref c_Stuck) (.ref c_TooMany) = some false)
    (neTooManyBadLine : PySem.W.subIn K (.ref c_TooMany) (.ref c_BadLine) = some false)
    (neTooManyBadText : PySem.W.subIn K (.ref c_TooMany) (.ref c_BadText) = some false)
    (neTooManyBlocked : PySem.W.subIn K (.ref c_TooMany) (.ref c_Blocked) = some false)
    (neTooManyContradiction : PySem.W.subIn K (.ref c_TooMany) (.ref c_Contradiction) = some false)
    (neTooManyEarly : PySem.W.subIn K (.ref c_TooMany) (.ref c_Early) = some false)
    (neTooManyFull : PySem.W.subIn K (.ref c_TooMany) (.ref c_Full) = some false)
    (neTooManyHere : PySem.W.subIn K (.ref c_TooMany) (.ref c_Here) = some false)
    (neTooManyMisfit : PySem.W.subIn K (.ref c_TooMany) (.ref c_Misfit) = some false)
    (neTooManyNoInvitation : PySem.W.subIn K (.ref c_TooMany) (.ref c_NoInvitation) = some false)
    (neTooManyNoNumber : PySem.W.subIn K (.ref c_TooMany) (.ref c_NoNumber) = some false)
    (neTooManyNoOperation : PySem.W.subIn K (.ref c_TooMany) (.ref c_NoOperation) = some false)
    (neTooManyNoPerson : PySem.W.subIn K (.ref c_TooMany) (.ref c_NoPerson) = some false)
    (neTooManyNoPlace : PySem.W.subIn K (.ref c_TooMany) (.ref c_NoPlace) = some false)
    (neTooManyStuck : PySem.W.subIn K (.ref c_TooMany) (.ref c_Stuck) = some false)
    (iKMOST : PySem.W.nsIn K mainGlobals "MOST" = some (some (.int 300 tkMOST)))
    (iKMOST_PEOPLE : PySem.W.nsIn K mainGlobals "MOST_PEOPLE" = some (some (.int 12 tkMOST_PEOPLE)))
    (z0 : PySem.W.nsIn K mainGlobals "len" = some none)
    (z1 : PySem.W.nsIn K mainGlobals "range" = some none)
    (z2 : PySem.W.nsIn K mainGlobals "list" = some none)
    (z3 : PySem.W.nsIn K mainGlobals "tuple" = some none)
    (z4 : PySem.W.nsIn K mainGlobals "sorted" = some none)
    (z5 : PySem.W.nsIn K mainGlobals "all" = some none)
    (z6 : PySem.W.nsIn K mainGlobals "any" = some none)
    (z7 : PySem.W.nsIn K mainGlobals "isinstance" = some none)
    (z8 : PySem.W.nsIn K mainGlobals "min" = some none)
    (z9 : PySem.W.nsIn K mainGlobals "max" = some none)
    (z10 : PySem.W.nsIn K mainGlobals "abs" = some none)
    (z11 : PySem.W.nsIn K mainGlobals "int" = some none)
    (z12 : PySem.W.nsIn K mainGlobals "str" = some none)
    (z13 : PySem.W.nsIn K mainGlobals "repr" = some none)
    (z14 : PySem.W.nsIn K mainGlobals "set" = some none)
    (z15 : PySem.W.nsIn K mainGlobals "sum" = some none)
    (z16 : PySem.W.nsIn K mainGlobals "enumerate" = some none)
    (z17 : PySem.W.nsIn K mainGlobals "zip" = some none)
    (z18 : PySem.W.nsIn K mainGlobals "bool" = some none)
    (z19 : PySem.W.nsIn K mainGlobals "dict" = some none)
    : ∃ fd : FuncData, (∀ (s : Shared) (v : Value), BindsTo s fd ⟨[v], []⟩ [("_law_script", v)]) ∧ ∀ base : Heap, K.In base → base.Ns mainGlobals mg → FnG l.prog w K mg base CX0 6 fa fd ["_law_script"] (spLaw K) := by
  have e := hfa.symm.trans (PySem.W.mg_of X G a7)
  cases e
  have B : Bl mg := ⟨PySem.W.mg_none_of X G z0, PySem.W.mg_none_of X G z1, PySem.W.mg_none_of X G z2, PySem.W.mg_none_of X G z3, PySem.W.mg_none_of X G z4, PySem.W.mg_none_of X G z5, PySem.W.mg_none_of X G z6, PySem.W.mg_none_of X G z7, PySem.W.mg_none_of X G z8, PySem.W.mg_none_of X G z9, PySem.W.mg_none_of X G z10, PySem.W.mg_none_of X G z11, PySem.W.mg_none_of X G z12, PySem.W.mg_none_of X G z13, PySem.W.mg_none_of X G z14, PySem.W.mg_none_of X G z15, PySem.W.mg_none_of X G z16, PySem.W.mg_none_of X G z17, PySem.W.mg_none_of X G z18, PySem.W.mg_none_of X G z19⟩
  have F0 := fun_mk (st := s_cell_at_l) l0 c0 k0
  have F1 := fun_mk (st := s_box_l) l1 c1 k1
  have F2 := fun_mk (st := s_take_l) l2 c2 k2
  have F3 := fun_mk (st := s_same_l) l3 c3 k3
  have F4 := fun_mk (st := s_flags_l) l4 c4 k4
  have F5 := fun_mk (st := s_one_right_l) l5 c5 k5
  have F6 := fun_mk (st := s_right_l) l6 c6 k6
  have F7 := fun_mk (st := s_law) l7 c7 k7
  have b0 := F0.binds (ps := ["_law_script", "_law_k"]) fun _ _ _ _ _ _ us hl => match us, hl with | [_, _], _ => rfl
  have g0 := PySem.W.mg_of X G a0
  have b1 := F1.binds (ps := ["_law_script", "_law_k"]) fun _ _ _ _ _ _ us hl => match us, hl with | [_, _], _ => rfl
  have g1 := PySem.W.mg_of X G a1
  have b2 := F2.binds (ps := ["_law_box_here", "_law_below"]) fun _ _ _ _ _ _ us hl => match us, hl with | [_, _], _ => rfl
  have g2 := PySem.W.mg_of X G a2
  have b3 := F3.binds (ps := ["_law_found", "_law_due"]) fun _ _ _ _ _ _ us hl => match us, hl with | [_, _], _ => rfl
  have g3 := PySem.W.mg_of X G a3
  have b4 := F4.binds (ps := ["_law_made"]) fun _ _ _ _ _ _ us hl => match us, hl with | [_], _ => rfl
  have g4 := PySem.W.mg_of X G a4
  have b5 := F5.binds (ps := ["_law_made", "_law_at"]) fun _ _ _ _ _ _ us hl => match us, hl with | [_, _], _ => rfl
  have g5 := PySem.W.mg_of X G a5
  have b6 := F6.binds (ps := ["_law_box_here"]) fun _ _ _ _ _ _ us hl => match us, hl with | [_], _ => rfl
  have g6 := PySem.W.mg_of X G a6
  have b7 := F7.binds (ps := ["_law_script"]) fun _ _ _ _ _ _ us hl => match us, hl with | [_], _ => rfl
  have g7 := PySem.W.mg_of X G a7
  have g_BadText := PySem.W.mg_of X G aCBadText
  have ox_BadText : Oxg K c_BadText "ValueError.__new__" [.type "ValueError", .type "Exception", .type "BaseException", .type "object"] := ⟨⟨_, _, _, _, _, _, _, _, _, _, _, _, _, _, lCBadText⟩, saBadText, beBadText, tcBadText, kcBadText⟩
  have FI_BadText := fun_mk (st := s_iBadText) lIBadText cIBadText kIBadText
  have bI_BadText := FI_BadText.binds (ps := ["self", "text"]) fun _ _ _ _ _ _ us hl => match us, hl with | [_, _], _ => rfl
  have em_BadText : ∀ base : Heap, ExcS l.prog w K mg base 1 "BadText" "text" c_BadText := fun base => ⟨"ValueError", "ValueError.__new__", "ValueError.__init__", [.type "ValueError", .type "Exception", .type "BaseException", .type "object"], fIBadText, _, ["self", "text"], bas_VE, ox_BadText, iCBadText, tIBadText, ini_BadText FI_BadText ox_BadText flBadText (PySem.W.mg_none_of X G zbValueError) vVValueError, bI_BadText, g_BadText⟩
  have ea_BadText : ∀ base : Heap, ExcA l.prog w K mg base 1 "BadText" "text" c_BadText FmT := fun base => ⟨"ValueError", "ValueError.__new__", "ValueError.__init__", [.type "ValueError", .type "Exception", .type "BaseException", .type "object"], fIBadText, _, ["self", "text"], FmS, bas_VE, ox_BadText, iCBadText, tIBadText, ini_BadText FI_BadText ox_BadText flBadText (PySem.W.mg_none_of X G zbValueError) vVValueError, pb_ini FI_BadText (fun _ _ _ _ _ _ _ _ => rfl), kb_ini FI_BadText (fun _ _ _ _ _ _ _ _ => rfl), g_BadText, fun F9 H9 v9 d9 e9 h9 f9 => fmT_of e9 h9 f9⟩
  have xc_BadText : XCls K c_BadText "ValueError" := ⟨cls_some lCBadText, tcBadText, gaBadText, ggBadText, beBadText, hdBadText, caBadText, spC, tkC, moBadText, meBadText, fun T hT => by
    simp only [List.mem_cons, List.not_mem_nil, or_false] at hT
    rcases hT with rfl | rfl | rfl | rfl | rfl | rfl | rfl
    · exact sValueErrorBadText
    · exact sLookupErrorBadText
    · exact sRuntimeErrorBadText
    · exact sOverflowErrorBadText
    · exact sKeyErrorBadText
    · exact sIndexErrorBadText
    · exact sNotImplementedErrorBadText⟩
  have g_BadLine := PySem.W.mg_of X G aCBadLine
  have ox_BadLine : Oxg K c_BadLine "ValueError.__new__" [.type "ValueError", .type "Exception", .type "BaseException", .type "object"] := ⟨⟨_, _, _, _, _, _, _, _, _, _, _, _, _, _, lCBadLine⟩, saBadLine, beBadLine, tcBadLine, kcBadLine⟩
  have FI_BadLine := fun_mk (st := s_iBadLine) lIBadLine cIBadLine kIBadLine
  have bI_BadLine := FI_BadLine.binds (ps := ["self", "number"]) fun _ _ _ _ _ _ us hl => match us, hl with | [_, _], _ => rfl
  have em_BadLine : ∀ base : Heap, ExcM l.prog w K mg base 1 "BadLine" "number" c_BadLine := fun base => ⟨"ValueError", "ValueError.__new__", "ValueError.__init__", [.type "ValueError", .type "Exception", .type "BaseException", .type "object"], fIBadLine, _, ["self", "number"], bas_VE, ox_BadLine, iCBadLine, tIBadLine, ini_BadLine FI_BadLine ox_BadLine flBadLine (PySem.W.mg_none_of X G zbValueError) vVValueError, bI_BadLine, g_BadLine⟩
  have ea_BadLine : ∀ base : Heap, ExcA l.prog w K mg base 1 "BadLine" "number" c_BadLine FmD := fun base => ⟨"ValueError", "ValueError.__new__", "ValueError.__init__", [.type "ValueError", .type "Exception", .type "BaseException", .type "object"], fIBadLine, _, ["self", "number"], (Fm K), bas_VE, ox_BadLine, iCBadLine, tIBadLine, ini_BadLine FI_BadLine ox_BadLine flBadLine (PySem.W.mg_none_of X G zbValueError) vVValueError, pb_ini FI_BadLine (fun _ _ _ _ _ _ _ _ => rfl), kb_ini FI_BadLine (fun _ _ _ _ _ _ _ _ => rfl), g_BadLine, fun F9 H9 v9 d9 e9 h9 f9 => fm_of e9 h9 f9⟩
  have xc_BadLine : XCls K c_BadLine "ValueError" := ⟨cls_some lCBadLine, tcBadLine, gaBadLine, ggBadLine, beBadLine, hdBadLine, caBadLine, spC, tkC, moBadLine, meBadLine, fun T hT => by
    simp only [List.mem_cons, List.not_mem_nil, or_false] at hT
    rcases hT with rfl | rfl | rfl | rfl | rfl | rfl | rfl
    · exact sValueErrorBadLine
    · exact sLookupErrorBadLine
    · exact sRuntimeErrorBadLine
    · exact sOverflowErrorBadLine
    · exact sKeyErrorBadLine
    · exact sIndexErrorBadLine
    · exact sNotImplementedErrorBadLine⟩
  have g_Contradiction := PySem.W.mg_of X G aCContradiction
  have ox_Contradiction : Oxg K c_Contradiction "ValueError.__new__" [.type "ValueError", .type "Exception", .type "BaseException", .type "object"] := ⟨⟨_, _, _, _, _, _, _, _, _, _, _, _, _, _, lCContradiction⟩, saContradiction, beContradiction, tcContradiction, kcContradiction⟩
  have FI_Contradiction := fun_mk (st := s_iContradiction) lIContradiction cIContradiction kIContradiction
  have bI_Contradiction := FI_Contradiction.binds (ps := ["self", "evidence"]) fun _ _ _ _ _ _ us hl => match us, hl with | [_, _], _ => rfl
  have em_Contradiction : ∀ base : Heap, ExcM l.prog w K mg base 1 "Contradiction" "evidence" c_Contradiction := fun base => ⟨"ValueError", "ValueError.__new__", "ValueError.__init__", [.type "ValueError", .type "Exception", .type "BaseException", .type "object"], fIContradiction, _, ["self", "evidence"], bas_VE, ox_Contradiction, iCContradiction, tIContradiction, ini_Contradiction FI_Contradiction ox_Contradiction flContradiction (PySem.W.mg_none_of X G zbValueError) vVValueError, bI_Contradiction, g_Contradiction⟩
  have ea_Contradiction : ∀ base : Heap, ExcA l.prog w K mg base 1 "Contradiction" "evidence" c_Contradiction FmD := fun base => ⟨"ValueError", "ValueError.__new__", "ValueError.__init__", [.type "ValueError", .type "Exception", .type "BaseException", .type "object"], fIContradiction, _, ["self", "evidence"], (Fm K), bas_VE, ox_Contradiction, iCContradiction, tIContradiction, ini_Contradiction FI_Contradiction ox_Contradiction flContradiction (PySem.W.mg_none_of X G zbValueError) vVValueError, pb_ini FI_Contradiction (fun _ _ _ _ _ _ _ _ => rfl), kb_ini FI_Contradiction (fun _ _ _ _ _ _ _ _ => rfl), g_Contradiction, fun F9 H9 v9 d9 e9 h9 f9 => fm_of e9 h9 f9⟩
  have xc_Contradiction : XCls K c_Contradiction "ValueError" := ⟨cls_some lCContradiction, tcContradiction, gaContradiction, ggContradiction, beContradiction, hdContradiction, caContradiction, spC, tkC, moContradiction, meContradiction, fun T hT => by
    simp only [List.mem_cons, List.not_mem_nil, or_false] at hT
    rcases hT with rfl | rfl | rfl | rfl | rfl | rfl | rfl
    · exact sValueErrorContradiction
    · exact sLookupErrorContradiction
    · exact sRuntimeErrorContradiction
    · exact sOverflowErrorContradiction
    · exact sKeyErrorContradiction
    · exact sIndexErrorContradiction
    · exact sNotImplementedErrorContradiction⟩
  have g_Stuck := PySem.W.mg_of X G aCStuck
  have ox_Stuck : Oxg K c_Stuck "ValueError.__new__" [.type "ValueError", .type "Exception", .type "BaseException", .type "object"] := ⟨⟨_, _, _, _, _, _, _, _, _, _, _, _, _, _, lCStuck⟩, saStuck, beStuck, tcStuck, kcStuck⟩
  have FI_Stuck := fun_mk (st := s_iStuck) lIStuck cIStuck kIStuck
  have bI_Stuck := FI_Stuck.binds (ps := ["self", "people"]) fun _ _ _ _ _ _ us hl => match us, hl with | [_, _], _ => rfl
  have em_Stuck : ∀ base : Heap, ExcM l.prog w K mg base 1 "Stuck" "people" c_Stuck := fun base => ⟨"ValueError", "ValueError.__new__", "ValueError.__init__", [.type "ValueError", .type "Exception", .type "BaseException", .type "object"], fIStuck, _, ["self", "people"], bas_VE, ox_Stuck, iCStuck, tIStuck, ini_Stuck FI_Stuck ox_Stuck flStuck (PySem.W.mg_none_of X G zbValueError) vVValueError, bI_Stuck, g_Stuck⟩
  have ea_Stuck : ∀ base : Heap, ExcA l.prog w K mg base 1 "Stuck" "people" c_Stuck FmD := fun base => ⟨"ValueError", "ValueError.__new__", "ValueError.__init__", [.type "ValueError", .type "Exception", .type "BaseException", .type "object"], fIStuck, _, ["self", "people"], (Fm K), bas_VE, ox_Stuck, iCStuck, tIStuck, ini_Stuck FI_Stuck ox_Stuck flStuck (PySem.W.mg_none_of X G zbValueError) vVValueError, pb_ini FI_Stuck (fun _ _ _ _ _ _ _ _ => rfl), kb_ini FI_Stuck (fun _ _ _ _ _ _ _ _ => rfl), g_Stuck, fun F9 H9 v9 d9 e9 h9 f9 => fm_of e9 h9 f9⟩
  have xc_Stuck : XCls K c_Stuck "ValueError" := ⟨cls_some lCStuck, tcStuck, gaStuck, ggStuck, beStuck, hdStuck, caStuck, spC, tkC, moStuck, meStuck, fun T hT => by
    simp only [List.mem_cons, List.not_mem_nil, or_false] at hT
    rcases hT with rfl | rfl | rfl | rfl | rfl | rfl | rfl
    · exact sValueErrorStuck
    · exact sLookupErrorStuck
    · exact sRuntimeErrorStuck
    · exact sOverflowErrorStuck
    · exact sKeyErrorStuck
    · exact sIndexErrorStuck
    · exact sNotImplementedErrorStuck⟩
  have g_Misfit := PySem.W.mg_of X G aCMisfit
  have ox_Misfit : Oxg K c_Misfit "ValueError.__new__" [.type "ValueError", .type "Exception", .type "BaseException", .type "object"] := ⟨⟨_, _, _, _, _, _, _, _, _, _, _, _, _, _, lCMisfit⟩, saMisfit, beMisfit, tcMisfit, kcMisfit⟩
  have FI_Misfit := fun_mk (st := s_iMisfit) lIMisfit cIMisfit kIMisfit
  have bI_Misfit := FI_Misfit.binds (ps := ["self", "place"]) fun _ _ _ _ _ _ us hl => match us, hl with | [_, _], _ => rfl
  have em_Misfit : ∀ base : Heap, ExcM l.prog w K mg base 1 "Misfit" "place" c_Misfit := fun base => ⟨"ValueError", "ValueError.__new__", "ValueError.__init__", [.type "ValueError", .type "Exception", .type "BaseException", .type "object"], fIMisfit, _, ["self", "place"], bas_VE, ox_Misfit, iCMisfit, tIMisfit, ini_Misfit FI_Misfit ox_Misfit flMisfit (PySem.W.mg_none_of X G zbValueError) vVValueError, bI_Misfit, g_Misfit⟩
  have ea_Misfit : ∀ base : Heap, ExcA l.prog w K mg base 1 "Misfit" "place" c_Misfit FmD := fun base => ⟨"ValueError", "ValueError.__new__", "ValueError.__init__", [.type "ValueError", .type "Exception", .type "BaseException", .type "object"], fIMisfit, _, ["self", "place"], (Fm K), bas_VE, ox_Misfit, iCMisfit, tIMisfit, ini_Misfit FI_Misfit ox_Misfit flMisfit (PySem.W.mg_none_of X G zbValueError) vVValueError, pb_ini FI_Misfit (fun _ _ _ _ _ _ _ _ => rfl), kb_ini FI_Misfit (fun _ _ _ _ _ _ _ _ => rfl), g_Misfit, fun F9 H9 v9 d9 e9 h9 f9 => fm_of e9 h9 f9⟩
  have xc_Misfit : XCls K c_Misfit "ValueError" := ⟨cls_some lCMisfit, tcMisfit, gaMisfit, ggMisfit, beMisfit, hdMisfit, caMisfit, spC, tkC, moMisfit, meMisfit, fun T hT => by
    simp only [List.mem_cons, List.not_mem_nil, or_false] at hT
    rcases hT with rfl | rfl | rfl | rfl | rfl | rfl | rfl
    · exact sValueErrorMisfit
    · exact sLookupErrorMisfit
    · exact sRuntimeErrorMisfit
    · exact sOverflowErrorMisfit
    · exact sKeyErrorMisfit
    · exact sIndexErrorMisfit
    · exact sNotImplementedErrorMisfit⟩
  have g_NoInvitation := PySem.W.mg_of X G aCNoInvitation
  have ox_NoInvitation : Oxg K c_NoInvitation "ValueError.__new__" [.type "ValueError", .type "Exception", .type "BaseException", .type "object"] := ⟨⟨_, _, _, _, _, _, _, _, _, _, _, _, _, _, lCNoInvitation⟩, saNoInvitation, beNoInvitation, tcNoInvitation, kcNoInvitation⟩
  have FI_NoInvitation := fun_mk (st := s_iNoInvitation) lINoInvitation cINoInvitation kINoInvitation
  have bI_NoInvitation := FI_NoInvitation.binds (ps := ["self", "people"]) fun _ _ _ _ _ _ us hl => match us, hl with | [_, _], _ => rfl
  have em_NoInvitation : ∀ base : Heap, ExcM l.prog w K mg base 1 "NoInvitation" "people" c_NoInvitation := fun base => ⟨"ValueError", "ValueError.__new__", "ValueError.__init__", [.type "ValueError", .type "Exception", .type "BaseException", .type "object"], fINoInvitation, _, ["self", "people"], bas_VE, ox_NoInvitation, iCNoInvitation, tINoInvitation, ini_NoInvitation FI_NoInvitation ox_NoInvitation flNoInvitation (PySem.W.mg_none_of X G zbValueError) vVValueError, bI_NoInvitation, g_NoInvitation⟩
  have ea_NoInvitation : ∀ base : Heap, ExcA l.prog w K mg base 1 "NoInvitation" "people" c_NoInvitation FmD := fun base => ⟨"ValueError", "ValueError.__new__", "ValueError.__init__", [.type "ValueError", .type "Exception", .type "BaseException", .type "object"], fINoInvitation, _, ["self", "people"], (Fm K), bas_VE, ox_NoInvitation, iCNoInvitation, tINoInvitation, ini_NoInvitation FI_NoInvitation ox_NoInvitation flNoInvitation (PySem.W.mg_none_of X G zbValueError) vVValueError, pb_ini FI_NoInvitation (fun _ _ _ _ _ _ _ _ => rfl), kb_ini FI_NoInvitation (fun _ _ _ _ _ _ _ _ => rfl), g_NoInvitation, fun F9 H9 v9 d9 e9 h9 f9 => fm_of e9 h9 f9⟩
  have xc_NoInvitation : XCls K c_NoInvitation "ValueError" := ⟨cls_some lCNoInvitation, tcNoInvitation, gaNoInvitation, ggNoInvitation, beNoInvitation, hdNoInvitation, caNoInvitation, spC, tkC, moNoInvitation, meNoInvitation, fun T hT => by
    simp only [List.mem_cons, List.not_mem_nil, or_false] at hT
    rcases hT with rfl | rfl | rfl | rfl | rfl | rfl | rfl
    · exact sValueErrorNoInvitation
    · exact sLookupErrorNoInvitation
    · exact sRuntimeErrorNoInvitation
    · exact sOverflowErrorNoInvitation
    · exact sKeyErrorNoInvitation
    · exact sIndexErrorNoInvitation
    · exact sNotImplementedErrorNoInvitation⟩
  have g_NoPerson := PySem.W.mg_of X G aCNoPerson
  have ox_NoPerson : Oxg K c_NoPerson "LookupError.__new__" [.type "LookupError", .type "Exception", .type "BaseException", .type "object"] := ⟨⟨_, _, _, _, _, _, _, _, _, _, _, _, _, _, lCNoPerson⟩, saNoPerson, beNoPerson, tcNoPerson, kcNoPerson⟩
  have FI_NoPerson := fun_mk (st := s_iNoPerson) lINoPerson cINoPerson kINoPerson
  have bI_NoPerson := FI_NoPerson.binds (ps := ["self", "person"]) fun _ _ _ _ _ _ us hl => match us, hl with | [_, _], _ => rfl
  have em_NoPerson : ∀ base : Heap, ExcM l.prog w K mg base 1 "NoPerson" "person" c_NoPerson := fun base => ⟨"LookupError", "LookupError.__new__", "LookupError.__init__", [.type "LookupError", .type "Exception", .type "BaseException", .type "object"], fINoPerson, _, ["self", "person"], bas_LE, ox_NoPerson, iCNoPerson, tINoPerson, ini_NoPerson FI_NoPerson ox_NoPerson flNoPerson (PySem.W.mg_none_of X G zbLookupError) vVLookupError, bI_NoPerson, g_NoPerson⟩
  have ea_NoPerson : ∀ base : Heap, ExcA l.prog w K mg base 1 "NoPerson" "person" c_NoPerson FmD := fun base => ⟨"LookupError", "LookupError.__new__", "LookupError.__init__", [.type "LookupError", .type "Exception", .type "BaseException", .type "object"], fINoPerson, _, ["self", "person"], (Fm K), bas_LE, ox_NoPerson, iCNoPerson, tINoPerson, ini_NoPerson FI_NoPerson ox_NoPerson flNoPerson (PySem.W.mg_none_of X G zbLookupError) vVLookupError, pb_ini FI_NoPerson (fun _ _ _ _ _ _ _ _ => rfl), kb_ini FI_NoPerson (fun _ _ _ _ _ _ _ _ => rfl), g_NoPerson, fun F9 H9 v9 d9 e9 h9 f9 => fm_of e9 h9 f9⟩
  have xc_NoPerson : XCls K c_NoPerson "LookupError" := ⟨cls_some lCNoPerson, tcNoPerson, gaNoPerson, ggNoPerson, beNoPerson, hdNoPerson, caNoPerson, spC, tkC, moNoPerson, meNoPerson, fun T hT => by
    simp only [List.mem_cons, List.not_mem_nil, or_false] at hT
    rcases hT with rfl | rfl | rfl | rfl | rfl | rfl | rfl
    · exact sValueErrorNoPerson
    · exact sLookupErrorNoPerson
    · exact sRuntimeErrorNoPerson
    · exact sOverflowErrorNoPerson
    · exact sKeyErrorNoPerson
    · exact sIndexErrorNoPerson
    · exact sNotImplementedErrorNoPerson⟩
  have g_NoPlace := PySem.W.mg_of X G aCNoPlace
  have ox_NoPlace : Oxg K c_NoPlace "LookupError.__new__" [.type "LookupError", .type "Exception", .type "BaseException", .type "object"] := ⟨⟨_, _, _, _, _, _, _, _, _, _, _, _, _, _, lCNoPlace⟩, saNoPlace, beNoPlace, tcNoPlace, kcNoPlace⟩
  have FI_NoPlace := fun_mk (st := s_iNoPlace) lINoPlace cINoPlace kINoPlace
  have bI_NoPlace := FI_NoPlace.binds (ps := ["self", "place"]) fun _ _ _ _ _ _ us hl => match us, hl with | [_, _], _ => rfl
  have em_NoPlace : ∀ base : Heap, ExcM l.prog w K mg base 1 "NoPlace" "place" c_NoPlace := fun base => ⟨"LookupError", "LookupError.__new__", "LookupError.__init__", [.type "LookupError", .type "Exception", .type "BaseException", .type "object"], fINoPlace, _, ["self", "place"], bas_LE, ox_NoPlace, iCNoPlace, tINoPlace, ini_NoPlace FI_NoPlace ox_NoPlace flNoPlace (PySem.W.mg_none_of X G zbLookupError) vVLookupError, bI_NoPlace, g_NoPlace⟩
  have ea_NoPlace : ∀ base : Heap, ExcA l.prog w K mg base 1 "NoPlace" "place" c_NoPlace FmD := fun base => ⟨"LookupError", "LookupError.__new__", "LookupError.__init__", [.type "LookupError", .type "Exception", .type "BaseException", .type "object"], fINoPlace, _, ["self", "place"], (Fm K), bas_LE, ox_NoPlace, iCNoPlace, tINoPlace, ini_NoPlace FI_NoPlace ox_NoPlace flNoPlace (PySem.W.mg_none_of X G zbLookupError) vVLookupError, pb_ini FI_NoPlace (fun _ _ _ _ _ _ _ _ => rfl), kb_ini FI_NoPlace (fun _ _ _ _ _ _ _ _ => rfl), g_NoPlace, fun F9 H9 v9 d9 e9 h9 f9 => fm_of e9 h9 f9⟩
  have xc_NoPlace : XCls K c_NoPlace "LookupError" := ⟨cls_some lCNoPlace, tcNoPlace, gaNoPlace, ggNoPlace, beNoPlace, hdNoPlace, caNoPlace, spC, tkC, moNoPlace, meNoPlace, fun T hT => by
    simp only [List.mem_cons, List.not_mem_nil, or_false] at hT
    rcases hT with rfl | rfl | rfl | rfl | rfl | rfl | rfl
    · exact sValueErrorNoPlace
    · exact sLookupErrorNoPlace
    · exact sRuntimeErrorNoPlace
    · exact sOverflowErrorNoPlace
    · exact sKeyErrorNoPlace
    · exact sIndexErrorNoPlace
    · exact sNotImplementedErrorNoPlace⟩
  have g_NoNumber := PySem.W.mg_of X G aCNoNumber
  have ox_NoNumber : Oxg K c_NoNumber "LookupError.__new__" [.type "LookupError", .type "Exception", .type "BaseException", .type "object"] := ⟨⟨_, _, _, _, _, _, _, _, _, _, _, _, _, _, lCNoNumber⟩, saNoNumber, beNoNumber, tcNoNumber, kcNoNumber⟩
  have FI_NoNumber := fun_mk (st := s_iNoNumber) lINoNumber cINoNumber kINoNumber
  have bI_NoNumber := FI_NoNumber.binds (ps := ["self", "number"]) fun _ _ _ _ _ _ us hl => match us, hl with | [_, _], _ => rfl
  have em_NoNumber : ∀ base : Heap, ExcM l.prog w K mg base 1 "NoNumber" "number" c_NoNumber := fun base => ⟨"LookupError", "LookupError.__new__", "LookupError.__init__", [.type "LookupError", .type "Exception", .type "BaseException", .type "object"], fINoNumber, _, ["self", "number"], bas_LE, ox_NoNumber, iCNoNumber, tINoNumber, ini_NoNumber FI_NoNumber ox_NoNumber flNoNumber (PySem.W.mg_none_of X G zbLookupError) vVLookupError, bI_NoNumber, g_NoNumber⟩
  have ea_NoNumber : ∀ base : Heap, ExcA l.prog w K mg base 1 "NoNumber" "number" c_NoNumber FmD := fun base => ⟨"LookupError", "LookupError.__new__", "LookupError.__init__", [.type "LookupError", .type "Exception", .type "BaseException", .type "object"], fINoNumber, _, ["self", "number"], (Fm K), bas_LE, ox_NoNumber, iCNoNumber, tINoNumber, ini_NoNumber FI_NoNumber ox_NoNumber flNoNumber (PySem.W.mg_none_of X G zbLookupError) vVLookupError, pb_ini FI_NoNumber (fun _ _ _ _ _ _ _ _ => rfl), kb_ini FI_NoNumber (fun _ _ _ _ _ _ _ _ => rfl), g_NoNumber, fun F9 H9 v9 d9 e9 h9 f9 => fm_of e9 h9 f9⟩
  have xc_NoNumber : XCls K c_NoNumber "LookupError" := ⟨cls_some lCNoNumber, tcNoNumber, gaNoNumber, ggNoNumber, beNoNumber, hdNoNumber, caNoNumber, spC, tkC, moNoNumber, meNoNumber, fun T hT => by
    simp only [List.mem_cons, List.not_mem_nil, or_false] at hT
    rcases hT with rfl | rfl | rfl | rfl | rfl | rfl | rfl
    · exact sValueErrorNoNumber
    · exact sLookupErrorNoNumber
    · exact sRuntimeErrorNoNumber
    · exact sOverflowErrorNoNumber
    · exact sKeyErrorNoNumber
    · exact sIndexErrorNoNumber
    · exact sNotImplementedErrorNoNumber⟩
  have g_NoOperation := PySem.W.mg_of X G aCNoOperation
  have ox_NoOperation : Oxg K c_NoOperation "LookupError.__new__" [.type "LookupError", .type "Exception", .type "BaseException", .type "object"] := ⟨⟨_, _, _, _, _, _, _, _, _, _, _, _, _, _, lCNoOperation⟩, saNoOperation, beNoOperation, tcNoOperation, kcNoOperation⟩
  have FI_NoOperation := fun_mk (st := s_iNoOperation) lINoOperation cINoOperation kINoOperation
  have bI_NoOperation := FI_NoOperation.binds (ps := ["self", "many"]) fun _ _ _ _ _ _ us hl => match us, hl with | [_, _], _ => rfl
  have em_NoOperation : ∀ base : Heap, ExcM l.prog w K mg base 1 "NoOperation" "many" c_NoOperation := fun base => ⟨"LookupError", "LookupError.__new__", "LookupError.__init__", [.type "LookupError", .type "Exception", .type "BaseException", .type "object"], fINoOperation, _, ["self", "many"], bas_LE, ox_NoOperation, iCNoOperation, tINoOperation, ini_NoOperation FI_NoOperation ox_NoOperation flNoOperation (PySem.W.mg_none_of X G zbLookupError) vVLookupError, bI_NoOperation, g_NoOperation⟩
  have ea_NoOperation : ∀ base : Heap, ExcA l.prog w K mg base 1 "NoOperation" "many" c_NoOperation FmD := fun base => ⟨"LookupError", "LookupError.__new__", "LookupError.__init__", [.type "LookupError", .type "Exception", .type "BaseException", .type "object"], fINoOperation, _, ["self", "many"], (Fm K), bas_LE, ox_NoOperation, iCNoOperation, tINoOperation, ini_NoOperation FI_NoOperation ox_NoOperation flNoOperation (PySem.W.mg_none_of X G zbLookupError) vVLookupError, pb_ini FI_NoOperation (fun _ _ _ _ _ _ _ _ => rfl), kb_ini FI_NoOperation (fun _ _ _ _ _ _ _ _ => rfl), g_NoOperation, fun F9 H9 v9 d9 e9 h9 f9 => fm_of e9 h9 f9⟩
  have xc_NoOperation : XCls K c_NoOperation "LookupError" := ⟨cls_some lCNoOperation, tcNoOperation, gaNoOperation, ggNoOperation, beNoOperation, hdNoOperation, caNoOperation, spC, tkC, moNoOperation, meNoOperation, fun T hT => by
    simp only [List.mem_cons, List.not_mem_nil, or_false] at hT
    rcases hT with rfl | rfl | rfl | rfl | rfl | rfl | rfl
    · exact sValueErrorNoOperation
    · exact sLookupErrorNoOperation
    · exact sRuntimeErrorNoOperation
    · exact sOverflowErrorNoOperation
    · exact sKeyErrorNoOperation
    · exact sIndexErrorNoOperation
    · exact sNotImplementedErrorNoOperation⟩
  have g_Blocked := PySem.W.mg_of X G aCBlocked
  have ox_Blocked : Oxg K c_Blocked "RuntimeError.__new__" [.type "RuntimeError", .type "Exception", .type "BaseException", .type "object"] := ⟨⟨_, _, _, _, _, _, _, _, _, _, _, _, _, _, lCBlocked⟩, saBlocked, beBlocked, tcBlocked, kcBlocked⟩
  have FI_Blocked := fun_mk (st := s_iBlocked) lIBlocked cIBlocked kIBlocked
  have bI_Blocked := FI_Blocked.binds (ps := ["self", "pair"]) fun _ _ _ _ _ _ us hl => match us, hl with | [_, _], _ => rfl
  have em_Blocked : ∀ base : Heap, ExcM l.prog w K mg base 1 "Blocked" "pair" c_Blocked := fun base => ⟨"RuntimeError", "RuntimeError.__new__", "RuntimeError.__init__", [.type "RuntimeError", .type "Exception", .type "BaseException", .type "object"], fIBlocked, _, ["self", "pair"], bas_RE, ox_Blocked, iCBlocked, tIBlocked, ini_Blocked FI_Blocked ox_Blocked flBlocked (PySem.W.mg_none_of X G zbRuntimeError) vVRuntimeError, bI_Blocked, g_Blocked⟩
  have ea_Blocked : ∀ base : Heap, ExcA l.prog w K mg base 1 "Blocked" "pair" c_Blocked FmD := fun base => ⟨"RuntimeError", "RuntimeError.__new__", "RuntimeError.__init__", [.type "RuntimeError", .type "Exception", .type "BaseException", .type "object"], fIBlocked, _, ["self", "pair"], (Fm K), bas_RE, ox_Blocked, iCBlocked, tIBlocked, ini_Blocked FI_Blocked ox_Blocked flBlocked (PySem.W.mg_none_of X G zbRuntimeError) vVRuntimeError, pb_ini FI_Blocked (fun _ _ _ _ _ _ _ _ => rfl), kb_ini FI_Blocked (fun _ _ _ _ _ _ _ _ => rfl), g_Blocked, fun F9 H9 v9 d9 e9 h9 f9 => fm_of e9 h9 f9⟩
  have xc_Blocked : XCls K c_Blocked "RuntimeError" := ⟨cls_some lCBlocked, tcBlocked, gaBlocked, ggBlocked, beBlocked, hdBlocked, caBlocked, spC, tkC, moBlocked, meBlocked, fun T hT => by
    simp only [List.mem_cons, List.not_mem_nil, or_false] at hT
    rcases hT with rfl | rfl | rfl | rfl | rfl | rfl | rfl
    · exact sValueErrorBlocked
    · exact sLookupErrorBlocked
    · exact sRuntimeErrorBlocked
    · exact sOverflowErrorBlocked
    · exact sKeyErrorBlocked
    · exact sIndexErrorBlocked
    · exact sNotImplementedErrorBlocked⟩
  have g_Early := PySem.W.mg_of X G aCEarly
  have ox_Early : Oxg K c_Early "RuntimeError.__new__" [.type "RuntimeError", .type "Exception", .type "BaseException", .type "object"] := ⟨⟨_, _, _, _, _, _, _, _, _, _, _, _, _, _, lCEarly⟩, saEarly, beEarly, tcEarly, kcEarly⟩
  have FI_Early := fun_mk (st := s_iEarly) lIEarly cIEarly kIEarly
  have bI_Early := FI_Early.binds (ps := ["self", "person"]) fun _ _ _ _ _ _ us hl => match us, hl with | [_, _], _ => rfl
  have em_Early : ∀ base : Heap, ExcM l.prog w K mg base 1 "Early" "person" c_Early := fun base => ⟨"RuntimeError", "RuntimeError.__new__", "RuntimeError.__init__", [.type "RuntimeError", .type "Exception", .type "BaseException", .type "object"], fIEarly, _, ["self", "person"], bas_RE, ox_Early, iCEarly, tIEarly, ini_Early FI_Early ox_Early flEarly (PySem.W.mg_none_of X G zbRuntimeError) vVRuntimeError, bI_Early, g_Early⟩
  have ea_Early : ∀ base : Heap, ExcA l.prog w K mg base 1 "Early" "person" c_Early FmD := fun base => ⟨"RuntimeError", "RuntimeError.__new__", "RuntimeError.__init__", [.type "RuntimeError", .type "Exception", .type "BaseException", .type "object"], fIEarly, _, ["self", "person"], (Fm K), bas_RE, ox_Early, iCEarly, tIEarly, ini_Early FI_Early ox_Early flEarly (PySem.W.mg_none_of X G zbRuntimeError) vVRuntimeError, pb_ini FI_Early (fun _ _ _ _ _ _ _ _ => rfl), kb_ini FI_Early (fun _ _ _ _ _ _ _ _ => rfl), g_Early, fun F9 H9 v9 d9 e9 h9 f9 => fm_of e9 h9 f9⟩
  have xc_Early : XCls K c_Early "RuntimeError" := ⟨cls_some lCEarly, tcEarly, gaEarly, ggEarly, beEarly, hdEarly, caEarly, spC, tkC, moEarly, meEarly, fun T hT => by
    simp only [List.mem_cons, List.not_mem_nil, or_false] at hT
    rcases hT with rfl | rfl | rfl | rfl | rfl | rfl | rfl
    · exact sValueErrorEarly
    · exact sLookupErrorEarly
    · exact sRuntimeErrorEarly
    · exact sOverflowErrorEarly
    · exact sKeyErrorEarly
    · exact sIndexErrorEarly
    · exact sNotImplementedErrorEarly⟩
  have g_Here := PySem.W.mg_of X G aCHere
  have ox_Here : Oxg K c_Here "RuntimeError.__new__" [.type "RuntimeError", .type "Exception", .type "BaseException", .type "object"] := ⟨⟨_, _, _, _, _, _, _, _, _, _, _, _, _, _, lCHere⟩, saHere, beHere, tcHere, kcHere⟩
  have FI_Here := fun_mk (st := s_iHere) lIHere cIHere kIHere
  have bI_Here := FI_Here.binds (ps := ["self", "person"]) fun _ _ _ _ _ _ us hl => match us, hl with | [_, _], _ => rfl
  have em_Here : ∀ base : Heap, ExcM l.prog w K mg base 1 "Here" "person" c_Here := fun base => ⟨"RuntimeError", "RuntimeError.__new__", "RuntimeError.__init__", [.type "RuntimeError", .type "Exception", .type "BaseException", .type "object"], fIHere, _, ["self", "person"], bas_RE, ox_Here, iCHere, tIHere, ini_Here FI_Here ox_Here flHere (PySem.W.mg_none_of X G zbRuntimeError) vVRuntimeError, bI_Here, g_Here⟩
  have ea_Here : ∀ base : Heap, ExcA l.prog w K mg base 1 "Here" "person" c_Here FmD := fun base => ⟨"RuntimeError", "RuntimeError.__new__", "RuntimeError.__init__", [.type "RuntimeError", .type "Exception", .type "BaseException", .type "object"], fIHere, _, ["self", "person"], (Fm K), bas_RE, ox_Here, iCHere, tIHere, ini_Here FI_Here ox_Here flHere (PySem.W.mg_none_of X G zbRuntimeError) vVRuntimeError, pb_ini FI_Here (fun _ _ _ _ _ _ _ _ => rfl), kb_ini FI_Here (fun _ _ _ _ _ _ _ _ => rfl), g_Here, fun F9 H9 v9 d9 e9 h9 f9 => fm_of e9 h9 f9⟩
  have xc_Here : XCls K c_Here "RuntimeError" := ⟨cls_some lCHere, tcHere, gaHere, ggHere, beHere, hdHere, caHere, spC, tkC, moHere, meHere, fun T hT => by
    simp only [List.mem_cons, List.not_mem_nil, or_false] at hT
    rcases hT with rfl | rfl | rfl | rfl | rfl | rfl | rfl
    · exact sValueErrorHere
    · exact sLookupErrorHere
    · exact sRuntimeErrorHere
    · exact sOverflowErrorHere
    · exact sKeyErrorHere
    · exact sIndexErrorHere
    · exact sNotImplementedErrorHere⟩
  have g_TooMany := PySem.W.mg_of X G aCTooMany
  have ox_TooMany : Oxg K c_TooMany "OverflowError.__new__" [.type "OverflowError", .type "ArithmeticError", .type "Exception", .type "BaseException", .type "object"] := ⟨⟨_, _, _, _, _, _, _, _, _, _, _, _, _, _, lCTooMany⟩, saTooMany, beTooMany, tcTooMany, kcTooMany⟩
  have FI_TooMany := fun_mk (st := s_iTooMany) lITooMany cITooMany kITooMany
  have bI_TooMany := FI_TooMany.binds (ps := ["self", "many"]) fun _ _ _ _ _ _ us hl => match us, hl with | [_, _], _ => rfl
  have em_TooMany : ∀ base : Heap, ExcM l.prog w K mg base 1 "TooMany" "many" c_TooMany := fun base => ⟨"OverflowError", "OverflowError.__new__", "OverflowError.__init__", [.type "OverflowError", .type "ArithmeticError", .type "Exception", .type "BaseException", .type "object"], fITooMany, _, ["self", "many"], bas_OE, ox_TooMany, iCTooMany, tITooMany, ini_TooMany FI_TooMany ox_TooMany flTooMany (PySem.W.mg_none_of X G zbOverflowError) vVOverflowError, bI_TooMany, g_TooMany⟩
  have ea_TooMany : ∀ base : Heap, ExcA l.prog w K mg base 1 "TooMany" "many" c_TooMany FmD := fun base => ⟨"OverflowError", "OverflowError.__new__", "OverflowError.__init__", [.type "OverflowError", .type "ArithmeticError", .type "Exception", .type "BaseException", .type "object"], fITooMany, _, ["self", "many"], (Fm K), bas_OE, ox_TooMany, iCTooMany, tITooMany, ini_TooMany FI_TooMany ox_TooMany flTooMany (PySem.W.mg_none_of X G zbOverflowError) vVOverflowError, pb_ini FI_TooMany (fun _ _ _ _ _ _ _ _ => rfl), kb_ini FI_TooMany (fun _ _ _ _ _ _ _ _ => rfl), g_TooMany, fun F9 H9 v9 d9 e9 h9 f9 => fm_of e9 h9 f9⟩
  have xc_TooMany : XCls K c_TooMany "OverflowError" := ⟨cls_some lCTooMany, tcTooMany, gaTooMany, ggTooMany, beTooMany, hdTooMany, caTooMany, spC, tkC, moTooMany, meTooMany, fun T hT => by
    simp only [List.mem_cons, List.not_mem_nil, or_false] at hT
    rcases hT with rfl | rfl | rfl | rfl | rfl | rfl | rfl
    · exact sValueErrorTooMany
    · exact sLookupErrorTooMany
    · exact sRuntimeErrorTooMany
    · exact sOverflowErrorTooMany
    · exact sKeyErrorTooMany
    · exact sIndexErrorTooMany
    · exact sNotImplementedErrorTooMany⟩
  have g_Full := PySem.W.mg_of X G aCFull
  have ox_Full : Oxg K c_Full "OverflowError.__new__" [.type "OverflowError", .type "ArithmeticError", .type "Exception", .type "BaseException", .type "object"] := ⟨⟨_, _, _, _, _, _, _, _, _, _, _, _, _, _, lCFull⟩, saFull, beFull, tcFull, kcFull⟩
  have FI_Full := fun_mk (st := s_iFull) lIFull cIFull kIFull
  have bI_Full := FI_Full.binds (ps := ["self", "many"]) fun _ _ _ _ _ _ us hl => match us, hl with | [_, _], _ => rfl
  have em_Full : ∀ base : Heap, ExcM l.prog w K mg base 1 "Full" "many" c_Full := fun base => ⟨"OverflowError", "OverflowError.__new__", "OverflowError.__init__", [.type "OverflowError", .type "ArithmeticError", .type "Exception", .type "BaseException", .type "object"], fIFull, _, ["self", "many"], bas_OE, ox_Full, iCFull, tIFull, ini_Full FI_Full ox_Full flFull (PySem.W.mg_none_of X G zbOverflowError) vVOverflowError, bI_Full, g_Full⟩
  have ea_Full : ∀ base : Heap, ExcA l.prog w K mg base 1 "Full" "many" c_Full FmD := fun base => ⟨"OverflowError", "OverflowError.__new__", "OverflowError.__init__", [.type "OverflowError", .type "ArithmeticError", .type "Exception", .type "BaseException", .type "object"], fIFull, _, ["self", "many"], (Fm K), bas_OE, ox_Full, iCFull, tIFull, ini_Full FI_Full ox_Full flFull (PySem.W.mg_none_of X G zbOverflowError) vVOverflowError, pb_ini FI_Full (fun _ _ _ _ _ _ _ _ => rfl), kb_ini FI_Full (fun _ _ _ _ _ _ _ _ => rfl), g_Full, fun F9 H9 v9 d9 e9 h9 f9 => fm_of e9 h9 f9⟩
  have xc_Full : XCls K c_Full "OverflowError" := ⟨cls_some lCFull, tcFull, gaFull, ggFull, beFull, hdFull, caFull, spC, tkC, moFull, meFull, fun T hT => by
    simp only [List.mem_cons, List.not_mem_nil, or_false] at hT
    rcases hT with rfl | rfl | rfl | rfl | rfl | rfl | rfl
    · exact sValueErrorFull
    · exact sLookupErrorFull
    · exact sRuntimeErrorFull
    · exact sOverflowErrorFull
    · exact sKeyErrorFull
    · exact sIndexErrorFull
    · exact sNotImplementedErrorFull⟩
  refine ⟨PySem.W.fnOf "law" "law" (defArgs s_law) (defBody s_law) (defScope s_law) .none kV7 dc7 pm7 an7 cd7 ct7, fun s v => .of_eq rfl, fun base _ _ => ?_⟩
  have O0 : FnG l.prog w K mg base CX0 1 f0 _ ["_law_script", "_law_k"] (spW K T_cell) := ok_cell_at_l F0 B
  have C1 : Cal l.prog w K mg base 1 "_law_cell_at" T_cell := cal_of O0 g0 F0.kp b0
  have O2 : FnG l.prog w K mg base CX0 2 f1 _ ["_law_script", "_law_k"] (spW K T_box) := ok_box_l F1 B C1
  have C3 : Cal l.prog w K mg base 2 "_law_box" T_box := cal_of O2 g1 F1.kp b1
  have O4 : FnG l.prog w K mg base CX0 1 f2 _ ["_law_box_here", "_law_below"] (spW K T_take) := ok_take_s F2 B
  have C5 : Cal l.prog w K mg base 1 "_law_take" T_take := cal_of O4 g2 F2.kp b2
  have O6 : FnG l.prog w K mg base CX0 2 f2 _ ["_law_box_here", "_law_below"] (spW K T_take9) := ok_take_l F2 B C5
  have C7 : Cal l.prog w K mg base 2 "_law_take" T_take9 := cal_of O6 g2 F2.kp b2
  have O8 : FnG l.prog w K mg base CX0 4 f3 _ ["_law_found", "_law_due"] (spW K (T_same 3)) := ok_same_l F3 B g3 b3 3
  have C9 : Cal l.prog w K mg base 4 "_law_same" (T_same 3) := cal_of O8 g3 F3.kp b3
  have O10 : FnG l.prog w K mg base CX0 1 f4 _ ["_law_made"] (spW K (T_flags15 K [c_BadLine, c_BadText, c_Blocked, c_Contradiction, c_Early, c_Full, c_Here, c_Misfit, c_NoInvitation, c_NoNumber, c_NoOperation, c_NoPerson, c_NoPlace, c_Stuck, c_TooMany])) := ok_flags_l F4 B g_BadLine g_BadText g_Blocked g_Contradiction g_Early g_Full g_Here g_Misfit g_NoInvitation g_NoNumber g_NoOperation g_NoPerson g_NoPlace g_Stuck g_TooMany
  have C11 : Cal l.prog w K mg base 1 "_law_flags" (T_flags15 K [c_BadLine, c_BadText, c_Blocked, c_Contradiction, c_Early, c_Full, c_Here, c_Misfit, c_NoInvitation, c_NoNumber, c_NoOperation, c_NoPerson, c_NoPlace, c_Stuck, c_TooMany]) := cal_of O10 g4 F4.kp b4
  have O12 : FnG l.prog w K mg base CX0 2 f5 _ ["_law_made", "_law_at"] (spW K (T_one15 K [c_BadLine, c_BadText, c_Blocked, c_Contradiction, c_Early, c_Full, c_Here, c_Misfit, c_NoInvitation, c_NoNumber, c_NoOperation, c_NoPerson, c_NoPlace, c_Stuck, c_TooMany])) := ok_one_right_l F5 B C11 (PySem.W.mg_none_of X G zbValueError) (PySem.W.mg_none_of X G zbLookupError) (PySem.W.mg_none_of X G zbRuntimeError) (PySem.W.mg_none_of X G zbOverflowError) (PySem.W.mg_none_of X G zbNotImplementedError) (PySem.W.mg_none_of X G zbKeyError) (PySem.W.mg_none_of X G zbIndexError)
  have C13 : Cal l.prog w K mg base 2 "_law_one_right" (T_one15 K [c_BadLine, c_BadText, c_Blocked, c_Contradiction, c_Early, c_Full, c_Here, c_Misfit, c_NoInvitation, c_NoNumber, c_NoOperation, c_NoPerson, c_NoPlace, c_Stuck, c_TooMany]) := cal_of O12 g5 F5.kp b5
  have O14 : FnG l.prog w K mg base CX0 5 f6 _ ["_law_box_here"] (spW K (T_right 10)) := ok_right_l F6 B C5 C7 (ea_BadText base) (ea_BadLine base) (ea_Contradiction base) (ea_Stuck base) (ea_Misfit base) (ea_NoInvitation base) (ea_NoPerson base) (ea_NoPlace base) (ea_NoNumber base) (ea_NoOperation base) (ea_Blocked base) (ea_Early base) (ea_Here base) (ea_TooMany base) (ea_Full base) xc_BadText flBadText xc_BadLine flBadLine xc_Contradiction flContradiction xc_Stuck flStuck xc_Misfit flMisfit xc_NoInvitation flNoInvitation xc_NoPerson flNoPerson xc_NoPlace flNoPlace xc_NoNumber flNoNumber xc_NoOperation flNoOperation xc_Blocked flBlocked xc_Early flEarly xc_Here flHere xc_TooMany flTooMany xc_Full flFull C9 neBadTextBadLine neBadTextBlocked neBadTextContradiction neBadTextEarly neBadTextFull neBadTextHere neBadTextMisfit neBadTextNoInvitation neBadTextNoNumber neBadTextNoOperation neBadTextNoPerson neBadTextNoPlace neBadTextStuck neBadTextTooMany neBadLineBadText neBadLineBlocked neBadLineContradiction neBadLineEarly neBadLineFull neBadLineHere neBadLineMisfit neBadLineNoInvitation neBadLineNoNumber neBadLineNoOperation neBadLineNoPerson neBadLineNoPlace neBadLineStuck neBadLineTooMany neContradictionBadLine neContradictionBadText neContradictionBlocked neContradictionEarly neContradictionFull neContradictionHere neContradictionMisfit neContradictionNoInvitation neContradictionNoNumber neContradictionNoOperation neContradictionNoPerson neContradictionNoPlace neContradictionStuck neContradictionTooMany neStuckBadLine neStuckBadText neStuckBlocked neStuckContradiction neStuckEarly neStuckFull neStuckHere neStuckMisfit neStuckNoInvitation neStuckNoNumber neStuckNoOperation neStuckNoPerson neStuckNoPlace neStuckTooMany neMisfitBadLine neMisfitBadText neMisfitBlocked neMisfitContradiction neMisfitEarly neMisfitFull neMisfitHere neMisfitNoInvitation neMisfitNoNumber neMisfitNoOperation neMisfitNoPerson neMisfitNoPlace neMisfitStuck neMisfitTooMany neNoInvitationBadLine neNoInvitationBadText neNoInvitationBlocked neNoInvitationContradiction neNoInvitationEarly neNoInvitationFull neNoInvitationHere neNoInvitationMisfit neNoInvitationNoNumber neNoInvitationNoOperation neNoInvitationNoPerson neNoInvitationNoPlace neNoInvitationStuck neNoInvitationTooMany neNoPersonBadLine neNoPersonBadText neNoPersonBlocked neNoPersonContradiction neNoPersonEarly neNoPersonFull neNoPersonHere neNoPersonMisfit neNoPersonNoInvitation neNoPersonNoNumber neNoPersonNoOperation neNoPersonNoPlace neNoPersonStuck neNoPersonTooMany neNoPlaceBadLine neNoPlaceBadText neNoPlaceBlocked neNoPlaceContradiction neNoPlaceEarly neNoPlaceFull neNoPlaceHere neNoPlaceMisfit neNoPlaceNoInvitation neNoPlaceNoNumber neNoPlaceNoOperation neNoPlaceNoPerson neNoPlaceStuck neNoPlaceTooMany neNoNumberBadLine neNoNumberBadText neNoNumberBlocked neNoNumberContradiction neNoNumberEarly neNoNumberFull neNoNumberHere neNoNumberMisfit neNoNumberNoInvitation neNoNumberNoOperation neNoNumberNoPerson neNoNumberNoPlace neNoNumberStuck neNoNumberTooMany neNoOperationBadLine neNoOperationBadText neNoOperationBlocked neNoOperationContradiction neNoOperationEarly neNoOperationFull neNoOperationHere neNoOperationMisfit neNoOperationNoInvitation neNoOperationNoNumber neNoOperationNoPerson neNoOperationNoPlace neNoOperationStuck neNoOperationTooMany neBlockedBadLine neBlockedBadText neBlockedContradiction neBlockedEarly neBlockedFull neBlockedHere neBlockedMisfit neBlockedNoInvitation neBlockedNoNumber neBlockedNoOperation neBlockedNoPerson neBlockedNoPlace neBlockedStuck neBlockedTooMany neEarlyBadLine neEarlyBadText neEarlyBlocked neEarlyContradiction neEarlyFull neEarlyHere neEarlyMisfit neEarlyNoInvitation neEarlyNoNumber neEarlyNoOperation neEarlyNoPerson neEarlyNoPlace neEarlyStuck neEarlyTooMany neHereBadLine neHereBadText neHereBlocked neHereContradiction neHereEarly neHereFull neHereMisfit neHereNoInvitation neHereNoNumber neHereNoOperation neHereNoPerson neHereNoPlace neHereStuck neHereTooMany neTooManyBadLine neTooManyBadText neTooManyBlocked neTooManyContradiction neTooManyEarly neTooManyFull neTooManyHere neTooManyMisfit neTooManyNoInvitation neTooManyNoNumber neTooManyNoOperation neTooManyNoPerson neTooManyNoPlace neTooManyStuck neFullBadLine neFullBadText neFullBlocked neFullContradiction neFullEarly neFullHere neFullMisfit neFullNoInvitation neFullNoNumber neFullNoOperation neFullNoPerson neFullNoPlace neFullStuck neFullTooMany C13 ⟨_, PySem.W.mg_of X G iKMOST⟩ ⟨_, PySem.W.mg_of X G iKMOST_PEOPLE⟩
  have C15 : Cal l.prog w K mg base 5 "_law_right" (T_right 10) := cal_of O14 g6 F6.kp b6
  exact FnG.imp (ok_law F7 B C3 C15) fun vs H Q E h => law_end h
end Lw
open PySem PySem.W PyProof.Rows
set_option maxHeartbeats 0 in
theorem PySem.Challenge.cw_enoughcame_k15_errors_by_hand_holds : PySem.Challenge.rw_enoughcame_k15_errors_by_hand.Holds := by
  w_on; o_law; k_head; (case hw => w_witness2)
  k_fill
  refine Ec.walk_g (l := PySem.Challenge.rw_enoughcame_k15_errors_by_hand) (n := 63) (k := 6) (x := "_law_script") (sp := fun w => Lw.spLaw _) rfl (by decide) rfl ⟨rfl, by decide, by decide⟩ (fun w h Y => PySem.W.kIn_of Y) ?F (fun _ _ a ns hl _ hS => ⟨a, ns, rfl, hS, hl, fun _ => rfl⟩)
  case F =>
    intro w mg fa h KX G hmg
    refine' Lw.all_mk KX G hmg ?a0 ?l0 ?c0 ?k0 ?a1 ?l1 ?c1 ?k1 ?a2 ?l2 ?c2 ?k2 ?a3 ?l3 ?c3 ?k3 ?a4 ?l4 ?c4 ?k4 ?a5 ?l5 ?c5 ?k5 ?a6 ?l6 ?c6 ?k6 ?a7 ?l7 ?c7 ?k7 ?aCBadText ?lCBadText ?saBadText ?beBadText ?tcBadText ?kcBadText ?iCBadText ?tIBadText ?lIBadText ?cIBadText ?kIBadText ?flBadText ?gaBadText ?ggBadText ?hdBadText ?caBadText ?moBadText ?meBadText ?sValueErrorBadText ?sLookupErrorBadText ?sRuntimeErrorBadText ?sOverflowErrorBadText ?sKeyErrorBadText ?sIndexErrorBadText ?sNotImplementedErrorBadText ?aCBadLine ?lCBadLine ?saBadLine ?beBadLine ?tcBadLine ?kcBadLine ?iCBadLine ?tIBadLine ?lIBadLine ?cIBadLine ?kIBadLine ?flBadLine ?gaBadLine ?ggBadLine ?hdBadLine ?caBadLine ?moBadLine ?meBadLine ?sValueErrorBadLine ?sLookupErrorBadLine ?sRuntimeErrorBadLine ?sOverflowErrorBadLine ?sKeyErrorBadLine ?sIndexErrorBadLine ?sNotImplementedErrorBadLine ?aCContradiction ?lCContradiction ?saContradiction ?beContradiction ?tcContradiction ?kcContradiction ?iCContradiction ?tIContradiction ?lIContradiction ?cIContradiction ?kIContradiction ?flContradiction ?gaContradiction ?ggContradiction ?hdContradiction ?caContradiction ?moContradiction ?meContradiction ?sValueErrorContradiction ?sLookupErrorContradiction ?sRuntimeErrorContradiction ?sOverflowErrorContradiction ?sKeyErrorContradiction ?sIndexErrorContradiction ?sNotImplementedErrorContradiction ?aCStuck ?lCStuck ?saStuck ?beStuck ?tcStuck ?kcStuck ?iCStuck ?tIStuck ?lIStuck ?cIStuck ?kIStuck ?flStuck ?gaStuck ?ggStuck ?hdStuck ?caStuck ?moStuck ?meStuck ?sValueErrorStuck ?sLookupErrorStuck ?sRuntimeErrorStuck ?sOverflowErrorStuck ?sKeyErrorStuck ?sIndexErrorStuck ?sNotImplementedErrorStuck ?aCMisfit ?lCMisfit ?saMisfit ?beMisfit ?tcMisfit ?kcMisfit ?iCMisfit ?tIMisfit ?lIMisfit ?cIMisfit ?kIMisfit ?flMisfit ?gaMisfit ?ggMisfit ?hdMisfit ?caMisfit ?moMisfit ?meMisfit ?sValueErrorMisfit ?sLookupErrorMisfit ?sRuntimeErrorMisfit ?sOverflowErrorMisfit ?sKeyErrorMisfit ?sIndexErrorMisfit ?sNotImplementedErrorMisfit ?aCNoInvitation ?lCNoInvitation ?saNoInvitation ?beNoInvitation ?tcNoInvitation ?kcNoInvitation ?iCNoInvitation ?tINoInvitation ?lINoInvitation ?cINoInvitation ?kINoInvitation ?flNoInvitation ?gaNoInvitation ?ggNoInvitation ?hdNoInvitation ?caNoInvitation ?moNoInvitation ?meNoInvitation ?sValueErrorNoInvitation ?sLookupErrorNoInvitation ?sRuntimeErrorNoInvitation ?sOverflowErrorNoInvitation ?sKeyErrorNoInvitation ?sIndexErrorNoInvitation ?sNotImplementedErrorNoInvitation ?aCNoPerson ?lCNoPerson ?saNoPerson ?beNoPerson ?tcNoPerson ?kcNoPerson ?iCNoPerson ?tINoPerson ?lINoPerson ?cINoPerson ?kINoPerson ?flNoPerson ?gaNoPerson ?ggNoPerson ?hdNoPerson ?caNoPerson ?moNoPerson ?meNoPerson ?sValueErrorNoPerson ?sLookupErrorNoPerson ?sRuntimeErrorNoPerson ?sOverflowErrorNoPerson ?sKeyErrorNoPerson ?sIndexErrorNoPerson ?sNotImplementedErrorNoPerson ?aCNoPlace ?lCNoPlace ?saNoPlace ?beNoPlace ?tcNoPlace ?kcNoPlace ?iCNoPlace ?tINoPlace ?lINoPlace ?cINoPlace ?kINoPlace ?flNoPlace ?gaNoPlace ?ggNoPlace ?hdNoPlace ?caNoPlace ?moNoPlace ?meNoPlace ?sValueErrorNoPlace ?sLookupErrorNoPlace ?sRuntimeErrorNoPlace ?sOverflowErrorNoPlace ?sKeyErrorNoPlace ?sIndexErrorNoPlace ?sNotImplementedErrorNoPlace ?aCNoNumber ?lCNoNumber ?saNoNumber ?beNoNumber ?tcNoNumber ?kcNoNumber ?iCNoNumber ?tINoNumber ?lINoNumber ?cINoNumber ?kINoNumber ?flNoNumber ?gaNoNumber ?ggNoNumber ?hdNoNumber ?caNoNumber ?moNoNumber ?meNoNumber ?sValueErrorNoNumber ?sLookupErrorNoNumber ?sRuntimeErrorNoNumber ?sOverflowErrorNoNumber ?sKeyErrorNoNumber ?sIndexErrorNoNumber ?sNotImplementedErrorNoNumber ?aCNoOperation ?lCNoOperation ?saNoOperation ?beNoOperation ?tcNoOperation ?kcNoOperation ?iCNoOperation ?tINoOperation ?lINoOperation ?cINoOperation ?kINoOperation ?flNoOperation ?gaNoOperation ?ggNoOperation ?hdNoOperation ?caNoOperation ?moNoOperation ?meNoOperation ?sValueErrorNoOperation ?sLookupErrorNoOperation ?sRuntimeErrorNoOperation ?sOverflowErrorNoOperation ?sKeyErrorNoOperation ?sIndexErrorNoOperation ?sNotImplementedErrorNoOperation ?aCBlocked ?lCBlocked ?saBlocked ?beBlocked ?tcBlocked ?kcBlocked ?iCBlocked ?tIBlocked ?lIBlocked ?cIBlocked ?kIBlocked ?flBlocked ?gaBlocked ?ggBlocked ?hdBlocked ?caBlocked ?moBlocked ?meBlocked ?sValueErrorBlocked ?sLookupErrorBlocked ?sRuntimeErrorBlocked ?sOverflowErrorBlocked ?sKeyErrorBlocked ?sIndexErrorBlocked ?sNotImplementedErrorBlocked ?aCEarly ?lCEarly ?saEarly ?beEarly ?tcEarly ?kcEarly ?iCEarly ?tIEarly ?lIEarly ?cIEarly ?kIEarly ?flEarly ?gaEarly ?ggEarly ?hdEarly ?caEarly ?moEarly ?meEarly ?sValueErrorEarly ?sLookupErrorEarly ?sRuntimeErrorEarly ?sOverflowErrorEarly ?sKeyErrorEarly ?sIndexErrorEarly ?sNotImplementedErrorEarly ?aCHere ?lCHere ?saHere ?beHere ?tcHere ?kcHere ?iCHere ?tIHere ?lIHere ?cIHere ?kIHere ?flHere ?gaHere ?ggHere ?hdHere ?caHere ?moHere ?meHere ?sValueErrorHere ?sLookupErrorHere ?sRuntimeErrorHere ?sOverflowErrorHere ?sKeyErrorHere ?sIndexErrorHere ?sNotImplementedErrorHere ?aCTooMany ?lCTooMany ?saTooMany ?beTooMany ?tcTooMany ?kcTooMany ?iCTooMany ?tITooMany ?lITooMany ?cITooMany ?kITooMany ?flTooMany ?gaTooMany ?ggTooMany ?hdTooMany ?caTooMany ?moTooMany ?meTooMany ?sValueErrorTooMany ?sLookupErrorTooMany ?sRuntimeErrorTooMany ?sOverflowErrorTooMany ?sKeyErrorTooMany ?sIndexErrorTooMany ?sNotImplementedErrorTooMany ?aCFull ?lCFull ?saFull ?beFull ?tcFull ?kcFull ?iCFull ?tIFull ?lIFull ?cIFull ?kIFull ?flFull ?gaFull ?ggFull ?hdFull ?caFull ?moFull ?meFull ?sValueErrorFull ?sLookupErrorFull ?sRuntimeErrorFull ?sOverflowErrorFull ?sKeyErrorFull ?sIndexErrorFull ?sNotImplementedErrorFull ?vVLookupError ?vVOverflowError ?vVRuntimeError ?vVValueError ?zbIndexError ?zbKeyError ?zbLookupError ?zbNotImplementedError ?zbOverflowError ?zbRuntimeError ?zbValueError ?spC ?tkC ?neBadLineBadText ?neBadLineBlocked ?neBadLineContradiction ?neBadLineEarly ?neBadLineFull ?neBadLineHere ?neBadLineMisfit ?neBadLineNoInvitation ?neBadLineNoNumber ?neBadLineNoOperation ?neBadLineNoPerson ?neBadLineNoPlace ?neBadLineStuck ?neBadLineTooMany ?neBadTextBadLine ?neBadTextBlocked ?neBadTextContradiction ?neBadTextEarly ?neBadTextFull ?neBadTextHere ?neBadTextMisfit ?neBadTextNoInvitation ?neBadTextNoNumber ?neBadTextNoOperation ?neBadTextNoPerson ?neBadTextNoPlace ?neBadTextStuck ?neBadTextTooMany ?neBlockedBadLine ?neBlockedBadText ?neBlockedContradiction ?neBlockedEarly ?neBlockedFull ?neBlockedHere ?neBlockedMisfit ?neBlockedNoInvitation ?neBlockedNoNumber ?neBlockedNoOperation ?neBlockedNoPerson ?neBlockedNoPlace ?neBlockedStuck ?neBlockedTooMany ?neContradictionBadLine ?neContradictionBadText ?neContradictionBlocked ?neContradictionEarly ?neContradictionFull ?neContradictionHere ?neContradictionMisfit ?neContradictionNoInvitation ?neContradictionNoNumber ?neContradictionNoOperation ?neContradictionNoPerson ?neContradictionNoPlace ?neContradictionStuck ?neContradictionTooMany ?neEarlyBadLine ?neEarlyBadText ?neEarlyBlocked ?neEarlyContradiction ?neEarlyFull ?neEarlyHere ?neEarlyMisfit ?neEarlyNoInvitation ?neEarlyNoNumber ?neEarlyNoOperation ?neEarlyNoPerson ?neEarlyNoPlace ?neEarlyStuck ?neEarlyTooMany ?neFullBadLine ?neFullBadText ?neFullBlocked ?neFullContradiction ?neFullEarly ?neFullHere ?neFullMisfit ?neFullNoInvitation ?neFullNoNumber ?neFullNoOperation ?neFullNoPerson ?neFullNoPlace ?neFullStuck ?neFullTooMany ?neHereBadLine ?neHereBadText ?neHereBlocked ?neHereContradiction ?neHereEarly ?neHereFull ?neHereMisfit ?neHereNoInvitation ?neHereNoNumber ?neHereNoOperation ?neHereNoPerson ?neHereNoPlace ?neHereStuck ?neHereTooMany ?neMisfitBadLine ?neMisfitBadText ?neMisfitBlocked ?neMisfitContradiction ?neMisfitEarly ?neMisfitFull ?neMisfitHere ?neMisfitNoInvitation ?neMisfitNoNumber ?neMisfitNoOperation ?neMisfitNoPerson ?neMisfitNoPlace ?neMisfitStuck ?neMisfitTooMany ?neNoInvitationBadLine ?neNoInvitationBadText ?neNoInvitationBlocked ?neNoInvitationContradiction ?neNoInvitationEarly ?neNoInvitationFull ?neNoInvitationHere ?neNoInvitationMisfit ?neNoInvitationNoNumber ?neNoInvitationNoOperation ?neNoInvitationNoPerson ?neNoInvitationNoPlace ?neNoInvitationStuck ?neNoInvitationTooMany ?neNoNumberBadLine ?neNoNumberBadText ?neNoNumberBlocked ?neNoNumberContradiction ?neNoNumberEarly ?neNoNumberFull ?neNoNumberHere ?neNoNumberMisfit ?neNoNumberNoInvitation ?neNoNumberNoOperation ?neNoNumberNoPerson ?neNoNumberNoPlace ?neNoNumberStuck ?neNoNumberTooMany ?neNoOperationBadLine ?neNoOperationBadText ?neNoOperationBlocked ?neNoOperationContradiction ?neNoOperationEarly ?neNoOperationFull ?neNoOperationHere ?neNoOperationMisfit ?neNoOperationNoInvitation ?neNoOperationNoNumber ?neNoOperationNoPerson ?neNoOperationNoPlace ?neNoOperationStuck ?neNoOperationTooMany ?neNoPersonBadLine ?neNoPersonBadText ?neNoPersonBlocked ?neNoPersonContradiction ?neNoPersonEarly ?neNoPersonFull ?neNoPersonHere ?neNoPersonMisfit ?neNoPersonNoInvitation ?neNoPersonNoNumber ?neNoPersonNoOperation ?neNoPersonNoPlace ?neNoPersonStuck ?neNoPersonTooMany ?neNoPlaceBadLine ?neNoPlaceBadText ?neNoPlaceBlocked ?neNoPlaceContradiction ?neNoPlaceEarly ?neNoPlaceFull ?neNoPlaceHere ?neNoPlaceMisfit ?neNoPlaceNoInvitation ?neNoPlaceNoNumber ?neNoPlaceNoOperation ?neNoPlaceNoPerson ?neNoPlaceStuck ?neNoPlaceTooMany ?neStuckBadLine ?neStuckBadText ?neStuckBlocked ?neStuckContradiction ?neStuckEarly ?neStuckFull ?neStuckHere ?neStuckMisfit ?neStuckNoInvitation ?neStuckNoNumber ?neStuckNoOperation ?neStuckNoPerson ?neStuckNoPlace ?neStuckTooMany ?neTooManyBadLine ?neTooManyBadText ?neTooManyBlocked ?neTooManyContradiction ?neTooManyEarly ?neTooManyFull ?neTooManyHere ?neTooManyMisfit ?neTooManyNoInvitation ?neTooManyNoNumber ?neTooManyNoOperation ?neTooManyNoPerson ?neTooManyNoPlace ?neTooManyStuck ?iKMOST ?iKMOST_PEOPLE ?z0 ?z1 ?z2 ?z3 ?z4 ?z5 ?z6 ?z7 ?z8 ?z9 ?z10 ?z11 ?z12 ?z13 ?z14 ?z15 ?z16 ?z17 ?z18 ?z19
    (case a0 => k_is)
    (case l0 => k_is)
    (case c0 => k_is)
    (case k0 => k_is)
    (case a1 => k_is)
    (case l1 => k_is)
    (case c1 => k_is)
    (case k1 => k_is)
    (case a2 => k_is)
    (case l2 => k_is)
    (case c2 => k_is)
    (case k2 => k_is)
    (case a3 => k_is)
    (case l3 => k_is)
    (case c3 => k_is)
    (case k3 => k_is)
    (case a4 => k_is)
    (case l4 => k_is)
    (case c4 => k_is)
    (case k4 => k_is)
    (case a5 => k_is)
    (case l5 => k_is)
    (case c5 => k_is)
    (case k5 => k_is)
    (case a6 => k_is)
    (case l6 => k_is)
    (case c6 => k_is)
    (case k6 => k_is)
    (case a7 => k_is)
    (case l7 => k_is)
    (case c7 => k_is)
    (case k7 => k_is)
    (case aCBadText => k_is)
    (case lCBadText => k_is)
    (case saBadText => k_is)
    (case beBadText => k_is)
    (case tcBadText => k_is)
    (case kcBadText => k_is)
    (case iCBadText => k_is)
    (case tIBadText => k_is)
    (case lIBadText => k_is)
    (case cIBadText => k_is)
    (case kIBadText => k_is)
    (case flBadText => k_is)
    (case gaBadText => k_is)
    (case ggBadText => k_is)
    (case hdBadText => k_is)
    (case caBadText => k_is)
    (case moBadText => k_is)
    (case meBadText => k_is)
    (case sValueErrorBadText => k_is)
    (case sLookupErrorBadText => k_is)
    (case sRuntimeErrorBadText => k_is)
    (case sOverflowErrorBadText => k_is)
    (case sKeyErrorBadText => k_is)
    (case sIndexErrorBadText => k_is)
    (case sNotImplementedErrorBadText => k_is)
    (case aCBadLine => k_is)
    (case lCBadLine => k_is)
    (case saBadLine => k_is)
    (case beBadLine => k_is)
    (case tcBadLine => k_is)
    (case kcBadLine => k_is)
    (case iCBadLine => k_is)
    (case tIBadLine => k_is)
    (case lIBadLine => k_is)
    (case cIBadLine => k_is)
    (case kIBadLine => k_is)
    (case flBadLine => k_is)
    (case gaBadLine => k_is)
    (case ggBadLine => k_is)
    (case hdBadLine => k_is)
    (case caBadLine => k_is)
    (case moBadLine => k_is)
    (case meBadLine => k_is)
    (case sValueErrorBadLine => k_is)
    (case sLookupErrorBadLine => k_is)
    (case sRuntimeErrorBadLine => k_is)
    (case sOverflowErrorBadLine => k_is)
    (case sKeyErrorBadLine => k_is)
    (case sIndexErrorBadLine => k_is)
    (case sNotImplementedErrorBadLine => k_is)
    (case aCContradiction => k_is)
    (case lCContradiction => k_is)
    (case saContradiction => k_is)
    (case beContradiction => k_is)
    (case tcContradiction => k_is)
    (case kcContradiction => k_is)
    (case iCContradiction => k_is)
    (case tIContradiction => k_is)
    (case lIContradiction => k_is)
    (case cIContradiction => k_is)
    (case kIContradiction => k_is)
    (case flContradiction => k_is)
    (case gaContradiction => k_is)
    (case ggContradiction => k_is)
    (case hdContradiction => k_is)
    (case caContradiction => k_is)
    (case moContradiction => k_is)
    (case meContradiction => k_is)
    (case sValueErrorContradiction => k_is)
    (case sLookupErrorContradiction => k_is)
    (case sRuntimeErrorContradiction => k_is)
    (case sOverflowErrorContradiction => k_is)
    (case sKeyErrorContradiction => k_is)
    (case sIndexErrorContradiction => k_is)
    (case sNotImplementedErrorContradiction => k_is)
    (case aCStuck => k_is)
    (case lCStuck => k_is)
    (case saStuck => k_is)
    (case beStuck => k_is)
    (case tcStuck => k_is)
    (case kcStuck => k_is)
    (case iCStuck => k_is)
    (case tIStuck => k_is)
    (case lIStuck => k_is)
    (case cIStuck => k_is)
    (case kIStuck => k_is)
    (case flStuck => k_is)
    (case gaStuck => k_is)
    (case ggStuck => k_is)
    (case hdStuck => k_is)
    (case caStuck => k_is)
    (case moStuck => k_is)
    (case meStuck => k_is)
    (case sValueErrorStuck => k_is)
    (case sLookupErrorStuck => k_is)
    (case sRuntimeErrorStuck => k_is)
    (case sOverflowErrorStuck => k_is)
    (case sKeyErrorStuck => k_is)
    (case sIndexErrorStuck => k_is)
    (case sNotImplementedErrorStuck => k_is)
    (case aCMisfit => k_is)
    (case lCMisfit => k_is)
    (case saMisfit => k_is)
    (case beMisfit => k_is)
    (case tcMisfit => k_is)
    (case kcMisfit => k_is)
    (case iCMisfit => k_is)
    (case tIMisfit => k_is)
    (case lIMisfit => k_is)
    (case cIMisfit => k_is)
    (case kIMisfit => k_is)
    (case flMisfit => k_is)
    (case gaMisfit => k_is)
    (case ggMisfit => k_is)
    (case hdMisfit => k_is)
    (case caMisfit => k_is)
    (case moMisfit => k_is)
    (case meMisfit => k_is)
    (case sValueErrorMisfit => k_is)
    (case sLookupErrorMisfit => k_is)
    (case sRuntimeErrorMisfit => k_is)
    (case sOverflowErrorMisfit => k_is)
    (case sKeyErrorMisfit => k_is)
    (case sIndexErrorMisfit => k_is)
    (case sNotImplementedErrorMisfit => k_is)
    (case aCNoInvitation => k_is)
    (case lCNoInvitation => k_is)
    (case saNoInvitation => k_is)
    (case beNoInvitation => k_is)
    (case tcNoInvitation => k_is)
    (case kcNoInvitation => k_is)
    (case iCNoInvitation => k_is)
    (case tINoInvitation => k_is)
    (case lINoInvitation => k_is)
    (case cINoInvitation => k_is)
    (case kINoInvitation => k_is)
    (case flNoInvitation => k_is)
    (case gaNoInvitation => k_is)
    (case ggNoInvitation => k_is)
    (case hdNoInvitation => k_is)
    (case caNoInvitation => k_is)
    (case moNoInvitation => k_is)
    (case meNoInvitation => k_is)
    (case sValueErrorNoInvitation => k_is)
    (case sLookupErrorNoInvitation => k_is)
    (case sRuntimeErrorNoInvitation => k_is)
    (case sOverflowErrorNoInvitation => k_is)
    (case sKeyErrorNoInvitation => k_is)
    (case sIndexErrorNoInvitation => k_is)
    (case sNotImplementedErrorNoInvitation => k_is)
    (case aCNoPerson => k_is)
    (case lCNoPerson => k_is)
    (case saNoPerson => k_is)
    (case beNoPerson => k_is)
    (case tcNoPerson => k_is)
    (case kcNoPerson => k_is)
    (case iCNoPerson => k_is)
    (case tINoPerson => k_is)
    (case lINoPerson => k_is)
    (case cINoPerson => k_is)
    (case kINoPerson => k_is)
    (case flNoPerson => k_is)
    (case gaNoPerson => k_is)
    (case ggNoPerson => k_is)
    (case hdNoPerson => k_is)
    (case caNoPerson => k_is)
    (case moNoPerson => k_is)
    (case meNoPerson => k_is)
    (case sValueErrorNoPerson => k_is)
    (case sLookupErrorNoPerson => k_is)
    (case sRuntimeErrorNoPerson => k_is)
    (case sOverflowErrorNoPerson => k_is)
    (case sKeyErrorNoPerson => k_is)
    (case sIndexErrorNoPerson => k_is)
    (case sNotImplementedErrorNoPerson => k_is)
    (case aCNoPlace => k_is)
    (case lCNoPlace => k_is)
    (case saNoPlace => k_is)
    (case beNoPlace => k_is)
    (case tcNoPlace => k_is)
    (case kcNoPlace => k_is)
    (case iCNoPlace => k_is)
    (case tINoPlace => k_is)
    (case lINoPlace => k_is)
    (case cINoPlace => k_is)
    (case kINoPlace => k_is)
    (case flNoPlace => k_is)
    (case gaNoPlace => k_is)
    (case ggNoPlace => k_is)
    (case hdNoPlace => k_is)
    (case caNoPlace => k_is)
    (case moNoPlace => k_is)
    (case meNoPlace => k_is)
    (case sValueErrorNoPlace => k_is)
    (case sLookupErrorNoPlace => k_is)
    (case sRuntimeErrorNoPlace => k_is)
    (case sOverflowErrorNoPlace => k_is)
    (case sKeyErrorNoPlace => k_is)
    (case sIndexErrorNoPlace => k_is)
    (case sNotImplementedErrorNoPlace => k_is)
    (case aCNoNumber => k_is)
    (case lCNoNumber => k_is)
    (case saNoNumber => k_is)
    (case beNoNumber => k_is)
    (case tcNoNumber => k_is)
    (case kcNoNumber => k_is)
    (case iCNoNumber => k_is)
    (case tINoNumber => k_is)
    (case lINoNumber => k_is)
    (case cINoNumber => k_is)
    (case kINoNumber => k_is)
    (case flNoNumber => k_is)
    (case gaNoNumber => k_is)
    (case ggNoNumber => k_is)
    (case hdNoNumber => k_is)
    (case caNoNumber => k_is)
    (case moNoNumber => k_is)
    (case meNoNumber => k_is)
    (case sValueErrorNoNumber => k_is)
    (case sLookupErrorNoNumber => k_is)
    (case sRuntimeErrorNoNumber => k_is)
    (case sOverflowErrorNoNumber => k_is)
    (case sKeyErrorNoNumber => k_is)
    (case sIndexErrorNoNumber => k_is)
    (case sNotImplementedErrorNoNumber => k_is)
    (case aCNoOperation => k_is)
    (case lCNoOperation => k_is)
    (case saNoOperation => k_is)
    (case beNoOperation => k_is)
    (case tcNoOperation => k_is)
    (case kcNoOperation => k_is)
    (case iCNoOperation => k_is)
    (case tINoOperation => k_is)
    (case lINoOperation => k_is)
    (case cINoOperation => k_is)
    (case kINoOperation => k_is)
    (case flNoOperation => k_is)
    (case gaNoOperation => k_is)
    (case ggNoOperation => k_is)
    (case hdNoOperation => k_is)
    (case caNoOperation => k_is)
    (case moNoOperation => k_is)
    (case meNoOperation => k_is)
    (case sValueErrorNoOperation => k_is)
    (case sLookupErrorNoOperation => k_is)
    (case sRuntimeErrorNoOperation => k_is)
    (case sOverflowErrorNoOperation => k_is)
    (case sKeyErrorNoOperation => k_is)
    (case sIndexErrorNoOperation => k_is)
    (case sNotImplementedErrorNoOperation => k_is)
    (case aCBlocked => k_is)
    (case lCBlocked => k_is)
    (case saBlocked => k_is)
    (case beBlocked => k_is)
    (case tcBlocked => k_is)
    (case kcBlocked => k_is)
    (case iCBlocked => k_is)
    (case tIBlocked => k_is)
    (case lIBlocked => k_is)
    (case cIBlocked => k_is)
    (case kIBlocked => k_is)
    (case flBlocked => k_is)
    (case gaBlocked => k_is)
    (case ggBlocked => k_is)
    (case hdBlocked => k_is)
    (case caBlocked => k_is)
    (case moBlocked => k_is)
    (case meBlocked => k_is)
    (case sValueErrorBlocked => k_is)
    (case sLookupErrorBlocked => k_is)
    (case sRuntimeErrorBlocked => k_is)
    (case sOverflowErrorBlocked => k_is)
    (case sKeyErrorBlocked => k_is)
    (case sIndexErrorBlocked => k_is)
    (case sNotImplementedErrorBlocked => k_is)
    (case aCEarly => k_is)
    (case lCEarly => k_is)
    (case saEarly => k_is)
    (case beEarly => k_is)
    (case tcEarly => k_is)
    (case kcEarly => k_is)
    (case iCEarly => k_is)
    (case tIEarly => k_is)
    (case lIEarly => k_is)
    (case cIEarly => k_is)
    (case kIEarly => k_is)
    (case flEarly => k_is)
    (case gaEarly => k_is)
    (case ggEarly => k_is)
    (case hdEarly => k_is)
    (case caEarly => k_is)
    (case moEarly => k_is)
    (case meEarly => k_is)
    (case sValueErrorEarly => k_is)
    (case sLookupErrorEarly => k_is)
    (case sRuntimeErrorEarly => k_is)
    (case sOverflowErrorEarly => k_is)
    (case sKeyErrorEarly => k_is)
    (case sIndexErrorEarly => k_is)
    (case sNotImplementedErrorEarly => k_is)
    (case aCHere => k_is)
    (case lCHere => k_is)
    (case saHere => k_is)
    (case beHere => k_is)
    (case tcHere => k_is)
    (case kcHere => k_is)
    (case iCHere => k_is)
    (case tIHere => k_is)
    (case lIHere => k_is)
    (case cIHere => k_is)
    (case kIHere => k_is)
    (case flHere => k_is)
    (case gaHere => k_is)
    (case ggHere => k_is)
    (case hdHere => k_is)
    (case caHere => k_is)
    (case moHere => k_is)
    (case meHere => k_is)
    (case sValueErrorHere => k_is)
    (case sLookupErrorHere => k_is)
    (case sRuntimeErrorHere => k_is)
    (case sOverflowErrorHere => k_is)
    (case sKeyErrorHere => k_is)
    (case sIndexErrorHere => k_is)
    (case sNotImplementedErrorHere => k_is)
    (case aCTooMany => k_is)
    (case lCTooMany => k_is)
    (case saTooMany => k_is)
    (case beTooMany => k_is)
    (case tcTooMany => k_is)
    (case kcTooMany => k_is)
    (case iCTooMany => k_is)
    (case tITooMany => k_is)
    (case lITooMany => k_is)
    (case cITooMany => k_is)
    (case kITooMany => k_is)
    (case flTooMany => k_is)
    (case gaTooMany => k_is)
    (case ggTooMany => k_is)
    (case hdTooMany => k_is)
    (case caTooMany => k_is)
    (case moTooMany => k_is)
    (case meTooMany => k_is)
    (case sValueErrorTooMany => k_is)
    (case sLookupErrorTooMany => k_is)
    (case sRuntimeErrorTooMany => k_is)
    (case sOverflowErrorTooMany => k_is)
    (case sKeyErrorTooMany => k_is)
    (case sIndexErrorTooMany => k_is)
    (case sNotImplementedErrorTooMany => k_is)
    (case aCFull => k_is)
    (case lCFull => k_is)
    (case saFull => k_is)
    (case beFull => k_is)
    (case tcFull => k_is)
    (case kcFull => k_is)
    (case iCFull => k_is)
    (case tIFull => k_is)
    (case lIFull => k_is)
    (case cIFull => k_is)
    (case kIFull => k_is)
    (case flFull => k_is)
    (case gaFull => k_is)
    (case ggFull => k_is)
    (case hdFull => k_is)
    (case caFull => k_is)
    (case moFull => k_is)
    (case meFull => k_is)
    (case sValueErrorFull => k_is)
    (case sLookupErrorFull => k_is)
    (case sRuntimeErrorFull => k_is)
    (case sOverflowErrorFull => k_is)
    (case sKeyErrorFull => k_is)
    (case sIndexErrorFull => k_is)
    (case sNotImplementedErrorFull => k_is)
    (case vVLookupError => k_is)
    (case vVOverflowError => k_is)
    (case vVRuntimeError => k_is)
    (case vVValueError => k_is)
    (case zbIndexError => k_is)
    (case zbKeyError => k_is)
    (case zbLookupError => k_is)
    (case zbNotImplementedError => k_is)
    (case zbOverflowError => k_is)
    (case zbRuntimeError => k_is)
    (case zbValueError => k_is)
    (case spC => k_is)
    (case tkC => k_is)
    (case neBadLineBadText => k_is)
    (case neBadLineBlocked => k_is)
    (case neBadLineContradiction => k_is)
    (case neBadLineEarly => k_is)
    (case neBadLineFull => k_is)
    (case neBadLineHere => k_is)
    (case neBadLineMisfit => k_is)
    (case neBadLineNoInvitation => k_is)
    (case neBadLineNoNumber => k_is)
    (case neBadLineNoOperation => k_is)
    (case neBadLineNoPerson => k_is)
    (case neBadLineNoPlace => k_is)
    (case neBadLineStuck => k_is)
    (case neBadLineTooMany => k_is)
    (case neBadTextBadLine => k_is)
    (case neBadTextBlocked => k_is)
    (case neBadTextContradiction => k_is)
    (case neBadTextEarly => k_is)
    (case neBadTextFull => k_is)
    (case neBadTextHere => k_is)
    (case neBadTextMisfit => k_is)
    (case neBadTextNoInvitation => k_is)
    (case neBadTextNoNumber => k_is)
    (case neBadTextNoOperation => k_is)
    (case neBadTextNoPerson => k_is)
    (case neBadTextNoPlace => k_is)
    (case neBadTextStuck => k_is)
    (case neBadTextTooMany => k_is)
    (case neBlockedBadLine => k_is)
    (case neBlockedBadText => k_is)
    (case neBlockedContradiction => k_is)
    (case neBlockedEarly => k_is)
    (case neBlockedFull => k_is)
    (case neBlockedHere => k_is)
    (case neBlockedMisfit => k_is)
    (case neBlockedNoInvitation => k_is)
    (case neBlockedNoNumber => k_is)
    (case neBlockedNoOperation => k_is)
    (case neBlockedNoPerson => k_is)
    (case neBlockedNoPlace => k_is)
    (case neBlockedStuck => k_is)
    (case neBlockedTooMany => k_is)
    (case neContradictionBadLine => k_is)
    (case neContradictionBadText => k_is)
    (case neContradictionBlocked => k_is)
    (case neContradictionEarly => k_is)
    (case neContradictionFull => k_is)
    (case neContradictionHere => k_is)
    (case neContradictionMisfit => k_is)
    (case neContradictionNoInvitation => k_is)
    (case neContradictionNoNumber => k_is)
    (case neContradictionNoOperation => k_is)
    (case neContradictionNoPerson => k_is)
    (case neContradictionNoPlace => k_is)
    (case neContradictionStuck => k_is)
    (case neContradictionTooMany => k_is)
    (case neEarlyBadLine => k_is)
    (case neEarlyBadText => k_is)
    (case neEarlyBlocked => k_is)
    (case neEarlyContradiction => k_is)
    (case neEarlyFull => k_is)
    (case neEarlyHere => k_is)
    (case neEarlyMisfit => k_is)
    (case neEarlyNoInvitation => k_is)
    (case neEarlyNoNumber => k_is)
    (case neEarlyNoOperation => k_is)
    (case neEarlyNoPerson => k_is)
    (case neEarlyNoPlace => k_is)
    (case neEarlyStuck => k_is)
    (case neEarlyTooMany => k_is)
    (case neFullBadLine => k_is)
    (case neFullBadText => k_is)
    (case neFullBlocked => k_is)
    (case neFullContradiction => k_is)
    (case neFullEarly => k_is)
    (case neFullHere => k_is)
    (case neFullMisfit => k_is)
    (case neFullNoInvitation => k_is)
    (case neFullNoNumber => k_is)
    (case neFullNoOperation => k_is)
    (case neFullNoPerson => k_is)
    (case neFullNoPlace => k_is)
    (case neFullStuck => k_is)
    (case neFullTooMany => k_is)
    (case neHereBadLine => k_is)
    (case neHereBadText => k_is)
    (case neHereBlocked => k_is)
    (case neHereContradiction => k_is)
    (case neHereEarly => k_is)
    (case neHereFull => k_is)
    (case neHereMisfit => k_is)
    (case neHereNoInvitation => k_is)
    (case neHereNoNumber => k_is)
    (case neHereNoOperation => k_is)
    (case neHereNoPerson => k_is)
    (case neHereNoPlace => k_is)
    (case neHereStuck => k_is)
    (case neHereTooMany => k_is)
    (case neMisfitBadLine => k_is)
    (case neMisfitBadText => k_is)
    (case neMisfitBlocked => k_is)
    (case neMisfitContradiction => k_is)
    (case neMisfitEarly => k_is)
    (case neMisfitFull => k_is)
    (case neMisfitHere => k_is)
    (case neMisfitNoInvitation => k_is)
    (case neMisfitNoNumber => k_is)
    (case neMisfitNoOperation => k_is)
    (case neMisfitNoPerson => k_is)
    (case neMisfitNoPlace => k_is)
    (case neMisfitStuck => k_is)
    (case neMisfitTooMany => k_is)
    (case neNoInvitationBadLine => k_is)
    (case neNoInvitationBadText => k_is)
    (case neNoInvitationBlocked => k_is)
    (case neNoInvitationContradiction => k_is)
    (case neNoInvitationEarly => k_is)
    (case neNoInvitationFull => k_is)
    (case neNoInvitationHere => k_is)
    (case neNoInvitationMisfit => k_is)
    (case neNoInvitationNoNumber => k_is)
    (case neNoInvitationNoOperation => k_is)
    (case neNoInvitationNoPerson => k_is)
    (case neNoInvitationNoPlace => k_is)
    (case neNoInvitationStuck => k_is)
    (case neNoInvitationTooMany => k_is)
    (case neNoNumberBadLine => k_is)
    (case neNoNumberBadText => k_is)
    (case neNoNumberBlocked => k_is)
    (case neNoNumberContradiction => k_is)
    (case neNoNumberEarly => k_is)
    (case neNoNumberFull => k_is)
    (case neNoNumberHere => k_is)
    (case neNoNumberMisfit => k_is)
    (case neNoNumberNoInvitation => k_is)
    (case neNoNumberNoOperation => k_is)
    (case neNoNumberNoPerson => k_is)
    (case neNoNumberNoPlace => k_is)
    (case neNoNumberStuck => k_is)
    (case neNoNumberTooMany => k_is)
    (case neNoOperationBadLine => k_is)
    (case neNoOperationBadText => k_is)
    (case neNoOperationBlocked => k_is)
    (case neNoOperationContradiction => k_is)
    (case neNoOperationEarly => k_is)
    (case neNoOperationFull => k_is)
    (case neNoOperationHere => k_is)
    (case neNoOperationMisfit => k_is)
    (case neNoOperationNoInvitation => k_is)
    (case neNoOperationNoNumber => k_is)
    (case neNoOperationNoPerson => k_is)
    (case neNoOperationNoPlace => k_is)
    (case neNoOperationStuck => k_is)
    (case neNoOperationTooMany => k_is)
    (case neNoPersonBadLine => k_is)
    (case neNoPersonBadText => k_is)
    (case neNoPersonBlocked => k_is)
    (case neNoPersonContradiction => k_is)
    (case neNoPersonEarly => k_is)
    (case neNoPersonFull => k_is)
    (case neNoPersonHere => k_is)
    (case neNoPersonMisfit => k_is)
    (case neNoPersonNoInvitation => k_is)
    (case neNoPersonNoNumber => k_is)
    (case neNoPersonNoOperation => k_is)
    (case neNoPersonNoPlace => k_is)
    (case neNoPersonStuck => k_is)
    (case neNoPersonTooMany => k_is)
    (case neNoPlaceBadLine => k_is)
    (case neNoPlaceBadText => k_is)
    (case neNoPlaceBlocked => k_is)
    (case neNoPlaceContradiction => k_is)
    (case neNoPlaceEarly => k_is)
    (case neNoPlaceFull => k_is)
    (case neNoPlaceHere => k_is)
    (case neNoPlaceMisfit => k_is)
    (case neNoPlaceNoInvitation => k_is)
    (case neNoPlaceNoNumber => k_is)
    (case neNoPlaceNoOperation => k_is)
    (case neNoPlaceNoPerson => k_is)
    (case neNoPlaceStuck => k_is)
    (case neNoPlaceTooMany => k_is)
    (case neStuckBadLine => k_is)
    (case neStuckBadText => k_is)
    (case neStuckBlocked => k_is)
    (case neStuckContradiction => k_is)
    (case neStuckEarly => k_is)
    (case neStuckFull => k_is)
    (case neStuckHere => k_is)
    (case neStuckMisfit => k_is)
    (case neStuckNoInvitation => k_is)
    (case neStuckNoNumber => k_is)
    (case neStuckNoOperation => k_is)
    (case neStuckNoPerson => k_is)
    (case neStuckNoPlace => k_is)
    (case neStuckTooMany => k_is)
    (case neTooManyBadLine => k_is)
    (case neTooManyBadText => k_is)
    (case neTooManyBlocked => k_is)
    (case neTooManyContradiction => k_is)
    (case neTooManyEarly => k_is)
    (case neTooManyFull => k_is)
    (case neTooManyHere => k_is)
    (case neTooManyMisfit => k_is)
    (case neTooManyNoInvitation => k_is)
    (case neTooManyNoNumber => k_is)
    (case neTooManyNoOperation => k_is)
    (case neTooManyNoPerson => k_is)
    (case neTooManyNoPlace => k_is)
    (case neTooManyStuck => k_is)
    (case iKMOST => k_is)
    (case iKMOST_PEOPLE => k_is)
    (case z0 => k_is)
    (case z1 => k_is)
    (case z2 => k_is)
    (case z3 => k_is)
    (case z4 => k_is)
    (case z5 => k_is)
    (case z6 => k_is)
    (case z7 => k_is)
    (case z8 => k_is)
    (case z9 => k_is)
    (case z10 => k_is)
    (case z11 => k_is)
    (case z12 => k_is)
    (case z13 => k_is)
    (case z14 => k_is)
    (case z15 => k_is)
    (case z16 => k_is)
    (case z17 => k_is)
    (case z18 => k_is)
    (case z19 => k_is)
