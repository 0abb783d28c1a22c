import PyProof.Rows.All
import Wide.All
import OpenK.AllK
import Wide.FinOn
import HandS.ForMost
import PyProof.ReprRoads
import HandS.ExcOwn
import KE.GoesEnum
import KE.GoesMore
import HandS.Zip
import HandS.TupAny
import HandS.TupMul
import HandS.Conv
import HandS.IsInst
import HandS.SortInts
import HandS.Ends
import HandS.TryOnly
import HandS.Deep
import HandS.TupLe
import HandS.Strs
import HandS.Style
import KE.DataMinMax
import KE.SortData
import HandS.SetFor
import HandS.TupSets
import HandS.Iter
import KE.KDictPairs
import HandS.ExcInit
import HandS.ExcIs
import HandS.ExcField
import HandS.FStr
import HandS.FStrTup
import KE.KExcInit
import KE.KTryMore
import PyProof.ExcBaseAll.LookupError
import PyProof.ExcBaseAll.OverflowError
import PyProof.ExcBaseAll.RuntimeError
import PyProof.ExcBaseAll.ValueError
import KE.KExcIs
import HandS.WordsExc
import PyProof.ReprLen
import PyProof.FitsInt
import HandS.DictTup
import HandS.TupLen
import KE.KDictDisplayH
import HandS.More
import PyProof.Rows.FactsT1
import PySem.Challenge.RW_enoughcame_k28_queries_in_turn
set_option Elab.async false
set_option linter.all false
set_option maxRecDepth 100000
set_option maxHeartbeats 4000000
namespace Ec
open PySem PySem.Spec PyProof.Rows L2
theorem same_t {K : PySem.W.Frag} {H H' : Hp} {a : Addr} {xs : List V} (e : Same H H') (h : SqT K H a xs) : SqT K H' a xs := by
  rcases h with (h | ⟨o, h⟩) | h
  · exact .inl (.inl (e _ _ h))
  · exact .inl (.inr ⟨o, e _ _ h⟩)
  · exact .inr h
theorem same_new {H : Hp} {p : Addr} {o : HO} (h : H p = none) : Same H (upd H p o) := fun b x e => by
  rw [upd_ne (ne_of_none e h)]
  exact e
mutual
inductive De (K : PySem.W.Frag) (F : Hp) : V → PyData → Prop
  | non : De K F .non .none
  | bl (b : Bool) : De K F (.bl b) (.bool b)
  | int (i : Int) : De K F (.int i) (.int i)
  | str (x : Str) : De K F (.str x) (.str x)
  | lst {a : Addr} {vs : List V} {ds : List PyData} (h : F a = some (.lst vs)) (g : DeAll K F vs ds) : De K F (.ref a) (.list ds)
  | tup {a : Addr} {vs : List V} {ds : List PyData} {o : Obj} (h : F a = some (.frz o (.tup vs))) (n : o.dict = none) (g : DeAll K F vs ds) : De K F (.ref a) (.tuple ds)
inductive DeAll (K : PySem.W.Frag) (F : Hp) : List V → List PyData → Prop
  | nil : DeAll K F [] []
  | cons {v : V} {vs : List V} {d : PyData} {ds : List PyData} (h : De K F v d) (g : DeAll K F vs ds) : DeAll K F (v :: vs) (d :: ds)
end
mutual
theorem De.dp {K : PySem.W.Frag} {F : Hp} : ∀ {d : PyData} {v : V}, De K F v d → Dp K F v d
  | .none, _, h => by cases h; exact .non
  | .bool b, _, h => by cases h; exact .bl b
  | .int i, _, h => by cases h; exact .int i
  | .str x, _, h => by cases h; exact .str x
  | .list ds, _, h => by
    cases h with
    | lst hs ha => exact .lst (.of hs) ha.dps
  | .tuple ds, _, h => by
    cases h with
    | tup hs hn ha => exact .tup (.inl (.inr ⟨_, hs⟩)) ha.dps
  | .dict _, _, h => by cases h
theorem DeAll.dps {K : PySem.W.Frag} {F : Hp} : ∀ {ds : List PyData} {vs : List V}, DeAll K F vs ds → DpAll K F vs ds
  | [], _, h => by cases h; exact .nil
  | d :: ds, _, h => by
    cases h with
    | cons h1 h2 => exact .cons h1.dp h2.dps
end
mutual
theorem dp_up {K : PySem.W.Frag} {H H' : Hp} (e : Same H H') : ∀ (d : PyData) (v : V), De K H v d → De K H' v d
  | .none, _, h => by cases h; exact .non
  | .bool b, _, h => by cases h; exact .bl b
  | .int i, _, h => by cases h; exact .int i
  | .str x, _, h => by cases h; exact .str x
  | .list ds, _, h => by
    cases h with
    | lst hs ha => exact .lst (e _ _ hs) (dps_up e ds _ ha)
  | .tuple ds, _, h => by
    cases h with
    | tup hs hn ha => exact .tup (e _ _ hs) hn (dps_up e ds _ ha)
  | .dict _, _, h => by cases h
theorem dps_up {K : PySem.W.Frag} {H H' : Hp} (e : Same H H') : ∀ (ds : List PyData) (vs : List V), DeAll K H vs ds → DeAll K H' vs ds
  | [], _, h => by cases h; exact .nil
  | d :: ds, _, h => by
    cases h with
    | cons h1 h2 => exact .cons (dp_up e d _ h1) (dps_up e ds _ h2)
end
theorem dps_len {K : PySem.W.Frag} {H : Hp} : ∀ {ds : List PyData} {vs : List V}, DeAll K H vs ds → vs.length = ds.length
  | [], _, h => by cases h; rfl
  | d :: ds, _, h => by
    cases h with
    | cons h1 h2 => simp only [List.length_cons, dps_len h2]
theorem dps_get {K : PySem.W.Frag} {H : Hp} : ∀ {ds : List PyData} {vs : List V} {i : Nat} {d : PyData}, DeAll K H vs ds → ds[i]? = some d → ∃ v, vs[i]? = some v ∧ De K H v d
  | [], _, _, _, _, e => by simp at e
  | d :: ds, _, 0, _, h, e => by
    cases h with
    | cons h1 h2 =>
      simp at e
      subst e
      exact ⟨_, rfl, h1⟩
  | d :: ds, _, i + 1, x, h, e => by
    cases h with
    | cons h1 h2 =>
      obtain ⟨v, e1, e2⟩ := dps_get (i := i) (d := x) h2 (by simpa using e)
      exact ⟨v, by simpa using e1, e2⟩
theorem dps_app {K : PySem.W.Frag} {H : Hp} : ∀ {ds es : List PyData} {vs ws : List V}, DeAll K H vs ds → DeAll K H ws es → DeAll K H (vs ++ ws) (ds ++ es)
  | [], _, _, _, h, g => by cases h; exact g
  | d :: ds, _, _, _, h, g => by
    cases h with
    | cons h1 h2 => exact .cons h1 (dps_app h2 g)
theorem dps_take {K : PySem.W.Frag} {H : Hp} : ∀ {ds : List PyData} {vs : List V} (n : Nat), DeAll K H vs ds → DeAll K H (vs.take n) (ds.take n)
  | _, _, 0, _ => by simpa using DeAll.nil
  | [], _, n + 1, h => by cases h; simpa using DeAll.nil
  | d :: ds, _, n + 1, h => by
    cases h with
    | cons h1 h2 => exact .cons h1 (dps_take n h2)
theorem dps_drop {K : PySem.W.Frag} {H : Hp} : ∀ {ds : List PyData} {vs : List V} (n : Nat), DeAll K H vs ds → DeAll K H (vs.drop n) (ds.drop n)
  | _, _, 0, h => h
  | [], _, n + 1, h => by cases h; simpa using DeAll.nil
  | d :: ds, _, n + 1, h => by
    cases h with
    | cons h1 h2 => exact dps_drop n h2
theorem dp_int {K : PySem.W.Frag} {H : Hp} {v : V} {i : Int} (h : De K H v (.int i)) : v = .int i := by cases h; rfl
theorem dp_bl {K : PySem.W.Frag} {H : Hp} {v : V} {b : Bool} (h : De K H v (.bool b)) : v = .bl b := by cases h; rfl
theorem dp_non {K : PySem.W.Frag} {H : Hp} {v : V} (h : De K H v .none) : v = .non := by cases h; rfl
theorem dp_str {K : PySem.W.Frag} {H : Hp} {v : V} {x : Str} (h : De K H v (.str x)) : v = .str x := by cases h; rfl
theorem dp_lst {K : PySem.W.Frag} {H : Hp} {v : V} {ds : List PyData} (h : De K H v (.list ds)) : ∃ a vs, v = .ref a ∧ SqL K H a vs ∧ DeAll K H vs ds := by
  cases h with
  | lst h1 h2 => exact ⟨_, _, rfl, .of h1, h2⟩
theorem dp_lstX {K : PySem.W.Frag} {H : Hp} {v : V} {ds : List PyData} (h : De K H v (.list ds)) : ∃ a vs, v = .ref a ∧ H a = some (.lst vs) ∧ DeAll K H vs ds := by
  cases h with
  | lst h1 h2 => exact ⟨_, _, rfl, h1, h2⟩
theorem dp_tupX {K : PySem.W.Frag} {H : Hp} {v : V} {ds : List PyData} (h : De K H v (.tuple ds)) : ∃ a vs o, v = .ref a ∧ H a = some (.frz o (.tup vs)) ∧ o.dict = none ∧ DeAll K H vs ds := by
  cases h with
  | tup h1 h2 h3 => exact ⟨_, _, _, rfl, h1, h2, h3⟩
theorem dp_tup {K : PySem.W.Frag} {H : Hp} {v : V} {ds : List PyData} (h : De K H v (.tuple ds)) : ∃ a vs, v = .ref a ∧ SqT K H a vs ∧ DeAll K H vs ds := by
  obtain ⟨a, vs, o, e, h1, _, h3⟩ := dp_tupX h
  exact ⟨a, vs, e, .inl (.inr ⟨o, h1⟩), h3⟩
abbrev intsD (ns : List Int) : List PyData := ns.map PyData.int
theorem dps_ints {K : PySem.W.Frag} {H : Hp} : ∀ {ns : List Int} {vs : List V}, DeAll K H vs (intsD ns) → vs = ns.map V.int
  | [], _, h => by cases h; rfl
  | n :: ns, _, h => by
    cases h with
    | cons h1 h2 =>
      rw [dp_int h1, dps_ints h2]
      rfl
theorem ints_dps {K : PySem.W.Frag} {H : Hp} : ∀ (ns : List Int), DeAll K H (ns.map V.int) (intsD ns)
  | [] => .nil
  | n :: ns => .cons (.int n) (ints_dps ns)
theorem dps_bls {K : PySem.W.Frag} {H : Hp} : ∀ {ns : List Bool} {vs : List V}, DeAll K H vs (ns.map PyData.bool) → vs = ns.map V.bl
  | [], _, h => by cases h; rfl
  | n :: ns, _, h => by
    cases h with
    | cons h1 h2 =>
      rw [dp_bl h1, dps_bls h2]
      rfl
inductive Cont where
  | l (ds : List PyData)
  | i (kvs : List (Int × PyData))
  | t (kvs : List (List Int × PyData))
  | o (C : Addr) (fs : List (Str × PyData))
instance : Coe (List PyData) Cont := ⟨Cont.l⟩
def hashI (k : List Int) : Int := reduceHash (Builtin.Tuple.tupleHashOf (k.map hashInt))
def DTO (a : Addr) (xs : List (List Int × Addr × Value)) : HO := .ext fun h => (a == sysModules) = false ∧ ∃ o es ep, h.get? a = some o ∧ o.ExactDict ∧ o.data = .dict es ep ∧ es.toList = xs.map (fun x => { hash := hashI x.1, key := .ref x.2.1, val := x.2.2 }) ∧ (xs.map (·.1)).Nodup
def DtE (K : PySem.W.Frag) (F : Hp) (x : List Int × Addr × Value) (p : List Int × PyData) : Prop := x.1 = p.1 ∧ (∃ o, F x.2.1 = some (.frz o (.tup (p.1.map V.int))) ∧ o.dict = none) ∧ ∃ w, RelV w x.2.2 ∧ De K F w p.2
def ZkOk (K : PySem.W.Frag) (F : Hp) (p : Addr) (kvs : List (List Int × PyData)) : Prop := ∃ (od : Obj) (xs : List (List Int × Addr × Value)), F p = some (.frz od (.frz od (DTO p xs))) ∧ Paired (DtE K F) xs kvs
theorem ZkOk.up {K : PySem.W.Frag} {F F' : Hp} {p : Addr} {kvs : List (List Int × PyData)} (e : Same F F') (h : ZkOk K F p kvs) : ZkOk K F' p kvs := by
  obtain ⟨od, xs, h1, h2⟩ := h
  exact ⟨od, xs, e _ _ h1, Paired.mapP h2 fun x p ⟨e1, ⟨o, e2, e3⟩, w, e4, e5⟩ => ⟨e1, ⟨o, e _ _ e2, e3⟩, w, e4, dp_up e _ _ e5⟩⟩
def ptr (p : Addr) : PyData := .dict [(.int p, .none)]
def zd (p : Addr) (kvs : List (List Int × PyData)) : PyData := .dict ((.int p, .str "z") :: kvs.map fun q => (.tuple (intsD q.1), q.2))
def ptr2 (a b : Addr) : PyData := .dict [(.int a, .int b)]
def exI (p C : Addr) (f : Str) (x : PyData) : PyData := .dict [(.str f, x), (.int p, .int C)]
def exv (a : Addr) (cls : Value) (d : Option Addr) : HO := .ext fun h => ∃ oe vs, h.get? a = some oe ∧ oe.cls = cls ∧ oe.dict = d ∧ oe.data = .fields vs
def isP : PyData → Bool
  | .dict _ => true
  | _ => false
inductive Dq (K : PySem.W.Frag) (F : Hp) : V → PyData → Prop
  | d {v : V} {x : PyData} (h : De K F v x) : Dq K F v x
  | p (a : Addr) : Dq K F (.ref a) (ptr a)
  | z {a : Addr} {kvs : List (List Int × PyData)} (h : ZkOk K F a kvs) : Dq K F (.ref a) (zd a kvs)
  | q {T a b : Addr} {o : Obj} (h : F T = some (.frz o (.tup [.ref a, .ref b]))) (n : o.dict = none) : Dq K F (.ref T) (ptr2 a b)
  | e {p C dd : Addr} {f : Str} {x : PyData} {w : V} (h : F p = some (exv p (.ref C) (some dd))) (g : F dd = some (.xd [(f, w)])) (o : De K F w x) : Dq K F (.ref p) (exI p C f x)
abbrev DqAll (K : PySem.W.Frag) (F : Hp) : List V → List PyData → Prop := Paired (Dq K F)
abbrev plS (ds : List PyData) : Prop := ∀ d ∈ ds, isP d = false
theorem Dq.up {K : PySem.W.Frag} {H H' : Hp} (e : Same H H') {v : V} {d : PyData} : Dq K H v d → Dq K H' v d
  | .d h => .d (dp_up e _ _ h)
  | .p a => .p a
  | .z h => .z (h.up e)
  | .q h n => .q (e _ _ h) n
  | .e h g o => .e (e _ _ h) (e _ _ g) (dp_up e _ _ o)
theorem dqs_up {K : PySem.W.Frag} {H H' : Hp} (e : Same H H') : ∀ (ds : List PyData) (vs : List V), DqAll K H vs ds → DqAll K H' vs ds
  | _, _, .nil => .nil
  | _, _, .cons h t => .cons (h.up e) (dqs_up e _ _ t)
theorem dqs_len {K : PySem.W.Frag} {H : Hp} : ∀ {ds : List PyData} {vs : List V}, DqAll K H vs ds → vs.length = ds.length
  | _, _, .nil => rfl
  | _, _, .cons _ t => by simp only [List.length_cons, dqs_len t]
theorem dqs_get {K : PySem.W.Frag} {H : Hp} : ∀ {ds : List PyData} {vs : List V} {i : Nat} {d : PyData}, DqAll K H vs ds → ds[i]? = some d → ∃ v, vs[i]? = some v ∧ Dq K H v d
  | _, _, _, _, .nil, e => by simp at e
  | _, _, 0, _, .cons h _, e => by
    simp at e
    subst e
    exact ⟨_, rfl, h⟩
  | _, _, i + 1, x, .cons _ t, e => by
    obtain ⟨v, e1, e2⟩ := dqs_get (i := i) (d := x) t (by simpa using e)
    exact ⟨v, by simpa using e1, e2⟩
theorem dqs_app {K : PySem.W.Frag} {H : Hp} : ∀ {ds es : List PyData} {vs ws : List V}, DqAll K H vs ds → DqAll K H ws es → DqAll K H (vs ++ ws) (ds ++ es)
  | _, _, _, _, .nil, g => g
  | _, _, _, _, .cons h t, g => .cons h (dqs_app t g)
theorem dqs_set {K : PySem.W.Frag} {H : Hp} {v : V} {d : PyData} (hv : Dq K H v d) : ∀ {ds : List PyData} {vs : List V} (n : Nat), DqAll K H vs ds → DqAll K H (vs.set n v) (ds.set n d)
  | _, _, _, .nil => .nil
  | _, _, 0, .cons _ t => .cons hv t
  | _, _, n + 1, .cons h t => .cons h (dqs_set hv n t)
theorem DqAll.of {K : PySem.W.Frag} {H : Hp} : ∀ {ds : List PyData} {vs : List V}, DeAll K H vs ds → DqAll K H vs ds
  | [], _, h => by
    cases h
    exact .nil
  | d :: ds, _, h => by
    cases h with
    | cons h1 h2 => exact .cons (.d h1) (DqAll.of h2)
theorem Dq.to {K : PySem.W.Frag} {H : Hp} {v : V} {d : PyData} (e : isP d = false) : Dq K H v d → De K H v d
  | .d h => h
  | .p a => by cases e
  | .z h => by cases e
  | .q _ _ => by cases e
  | .e _ _ _ => by cases e
theorem DqAll.to {K : PySem.W.Frag} {H : Hp} : ∀ {ds : List PyData} {vs : List V}, plS ds → DqAll K H vs ds → DeAll K H vs ds
  | _, _, _, .nil => .nil
  | _, _, e, .cons h t => .cons (h.to (e _ List.mem_cons_self)) (DqAll.to (fun d m => e d (List.mem_cons_of_mem _ m)) t)
theorem plS_map {α : Type} {l : List α} {f : α → PyData} (h : ∀ x, isP (f x) = false) : plS (l.map f) := fun d m => by
  obtain ⟨x, _, rfl⟩ := List.mem_map.mp m
  exact h x
theorem plS_app {as bs : List PyData} (h : plS as) (g : plS bs) : plS (as ++ bs) := fun d m => (List.mem_append.mp m).elim (h d) (g d)
theorem plS_nil : plS [] := fun _ h => by cases h
theorem plS_cons {a : PyData} {as : List PyData} (h : isP a = false) (g : plS as) : plS (a :: as) := fun d m => by
  rcases List.mem_cons.mp m with rfl | m
  · exact h
  · exact g d m
def FlE (K : PySem.W.Frag) (F : Hp) (x : Str × V) (p : Str × PyData) : Prop := x.1 = p.1 ∧ Dq K F x.2 p.2
theorem FlE.up {K : PySem.W.Frag} {F F' : Hp} (e : Same F F') {xs : List (Str × V)} {fs : List (Str × PyData)} (h : Paired (FlE K F) xs fs) : Paired (FlE K F') xs fs := Paired.mapP h fun x p ⟨a, b⟩ => ⟨a, b.up e⟩
def CelOk (K : PySem.W.Frag) (F H : Hp) (b : Addr) : Cont → Prop
  | .l ds => ∃ vs, H b = some (.lst vs) ∧ DqAll K F vs ds
  | .i kvs => ∃ ws : List V, DeAll K F ws (kvs.map Prod.snd) ∧ H b = some (.dK (List.zipWith (fun k w => (Sum.inl k.1, w)) kvs ws))
  | .t kvs => ∃ xs, H b = some (DTO b xs) ∧ Paired (DtE K F) xs kvs
  | .o C fs => ∃ (dx : Addr) (vs : List (Str × V)), H b = some (.ins C dx vs) ∧ Paired (FlE K F) vs fs
def LkOk (K : PySem.W.Frag) (F : Hp) (b : Addr) : Cont → Prop
  | .l _ => False
  | .i kvs => ∃ (od : Obj) (ws : List V), DeAll K F ws (kvs.map Prod.snd) ∧ F b = some (.frz od (.dK (List.zipWith (fun k w => (Sum.inl k.1, w)) kvs ws)))
  | .t kvs => ∃ (od : Obj) (xs : List (List Int × Addr × Value)), F b = some (.frz od (DTO b xs)) ∧ Paired (DtE K F) xs kvs
  | .o C fs => ∃ (od : Obj) (dx : Addr) (vs : List (Str × V)), F b = some (.frz od (.ins C dx vs)) ∧ Paired (FlE K F) vs fs
theorem LkOk.up {K : PySem.W.Frag} {F F' : Hp} {b : Addr} {c : Cont} (e : Same F F') (h : LkOk K F b c) : LkOk K F' b c := by
  cases c with
  | l ds => exact h
  | i kvs =>
    obtain ⟨od, ws, h1, h2⟩ := h
    exact ⟨od, ws, dps_up e _ _ h1, e _ _ h2⟩
  | t kvs =>
    obtain ⟨od, xs, h1, h2⟩ := h
    exact ⟨od, xs, e _ _ h1, Paired.mapP h2 fun x p ⟨e1, ⟨o, e2, e3⟩, w, e4, e5⟩ => ⟨e1, ⟨o, e _ _ e2, e3⟩, w, e4, dp_up e _ _ e5⟩⟩
  | o C fs =>
    obtain ⟨od, dx, vs, h1, h2⟩ := h
    exact ⟨od, dx, vs, e _ _ h1, FlE.up e h2⟩
inductive Vd where
  | d (x : PyData)
  | a (p : Addr)
  | w (x : PyData)
  | s (ns : List Int)
  | k (p : Addr) (c : Cont)
  | e (p C : Addr) (f : Str) (x : PyData)
  | z (p : Addr) (kvs : List (List Int × PyData))
  | q (a b : Addr)
  | m (p : Addr) (b : Bool) (ds : List PyData)
abbrev Vd.x (ds : List PyData) : Vd := .d (.tuple ds)
abbrev Cells := List (Addr × Cont)
abbrev Dl := List (Option Vd)
abbrev ks (μ : Cells) : List Addr := μ.map Prod.fst
def VOk (K : PySem.W.Frag) (F : Hp) : Vd → V → Prop
  | .d x, v => De K F v x
  | .a p, v => v = .ref p
  | .s ns, v => ∃ a, v = .ref a ∧ SqL K F a (ns.map V.int)
  | .w x, v => ∃ a vs ds, x = .tuple ds ∧ v = .ref a ∧ SqT K F a vs ∧ DeAll K F vs ds
  | .k p c, v => v = .ref p ∧ LkOk K F p c
  | .e p C f x, v => v = .ref p ∧ ∃ (dd : Addr) (w : V), F p = some (exv p (.ref C) (some dd)) ∧ F dd = some (.xd [(f, w)]) ∧ De K F w x
  | .z p kvs, v => v = .ref p ∧ ZkOk K F p kvs
  | .q a b, v => ∃ (T : Addr) (o : Obj), v = .ref T ∧ F T = some (.frz o (.tup [.ref a, .ref b])) ∧ o.dict = none
  | .m p b ds, v => v = .ref p ∧ ∃ vs, SqT K F p vs ∧ DqAll K F vs ds ∧ (b = true → ∃ o, F p = some (.frz o (.tup vs)) ∧ o.dict = none)
theorem VOk.up {K : PySem.W.Frag} {F F' : Hp} (e : Same F F') : ∀ {x : Vd} {v : V}, VOk K F x v → VOk K F' x v
  | .d x, _, h => dp_up e x _ h
  | .a _, _, h => h
  | .s ns, _, ⟨a, e1, e2⟩ => ⟨a, e1, e.seq e2⟩
  | .w x, _, ⟨a, vs, ds, e1, e2, e3, e4⟩ => ⟨a, vs, ds, e1, e2, same_t e e3, dps_up e _ _ e4⟩
  | .k p c, _, ⟨e1, e2⟩ => ⟨e1, e2.up e⟩
  | .e p C f x, _, ⟨e1, dd, w, e2, e3, e4⟩ => ⟨e1, dd, w, e _ _ e2, e _ _ e3, dp_up e _ _ e4⟩
  | .z p kvs, _, ⟨e1, e2⟩ => ⟨e1, e2.up e⟩
  | .q a b, _, ⟨T, o, e1, e2, e3⟩ => ⟨T, o, e1, e _ _ e2, e3⟩
  | .m p b ds, _, ⟨e1, vs, e2, e3, e4⟩ => ⟨e1, vs, same_t e e2, dqs_up e _ _ e3, fun hb => by
    obtain ⟨o, h1, h2⟩ := e4 hb
    exact ⟨o, e _ _ h1, h2⟩⟩
abbrev VAll (K : PySem.W.Frag) (F : Hp) : List Vd → List V → Prop := Paired (VOk K F)
theorem VAll.up {K : PySem.W.Frag} {F F' : Hp} (e : Same F F') : ∀ {xs : List Vd} {vs : List V}, VAll K F xs vs → VAll K F' xs vs
  | _, _, .nil => .nil
  | _, _, .cons h t => .cons (h.up e) (VAll.up e t)
def Own : HO → Prop
  | .tup _ => False
  | .frz _ _ => False
  | _ => True
theorem CelOk.obj {K : PySem.W.Frag} {F H : Hp} {b : Addr} {c : Cont} (h : CelOk K F H b c) : ∃ o, H b = some o ∧ Own o := by
  cases c with
  | l ds =>
    obtain ⟨vs, e, _⟩ := h
    exact ⟨_, e, trivial⟩
  | i kvs =>
    obtain ⟨ws, _, e⟩ := h
    exact ⟨_, e, trivial⟩
  | t kvs =>
    obtain ⟨xs, e, _⟩ := h
    exact ⟨_, e, trivial⟩
  | o C fs =>
    obtain ⟨dx, vs, e, _⟩ := h
    exact ⟨_, e, trivial⟩
theorem CelOk.ne {K : PySem.W.Frag} {F H : Hp} {b : Addr} {c : Cont} (h : CelOk K F H b c) : H b ≠ none := by
  obtain ⟨o, e, _⟩ := h.obj
  rw [e]
  exact fun z => by cases z
theorem CelOk.to {K : PySem.W.Frag} {F F' H H' : Hp} {b : Addr} {c : Cont} (h : CelOk K F H b c) (e : Same F F') (k : ∀ o, H b = some o → H' b = some o) : CelOk K F' H' b c := by
  cases c with
  | l ds =>
    obtain ⟨vs, h1, h2⟩ := h
    exact ⟨vs, k _ h1, dqs_up e _ _ h2⟩
  | i kvs =>
    obtain ⟨ws, h1, h2⟩ := h
    exact ⟨ws, dps_up e _ _ h1, k _ h2⟩
  | t kvs =>
    obtain ⟨xs, h1, h2⟩ := h
    exact ⟨xs, k _ h1, Paired.mapP h2 fun x p ⟨e1, ⟨o, e2, e3⟩, w, e4, e5⟩ => ⟨e1, ⟨o, e _ _ e2, e3⟩, w, e4, dp_up e _ _ e5⟩⟩
  | o C fs =>
    obtain ⟨dx, vs, h1, h2⟩ := h
    exact ⟨dx, vs, k _ h1, FlE.up e h2⟩
structure RpM (K : PySem.W.Frag) (F H : Hp) (μ : Cells) : Prop where
  ex : Same F H
  nd : (ks μ).Nodup
  cel : ∀ b c, (b, c) ∈ μ → F b = none ∧ CelOk K F H b c
structure Rp (K : PySem.W.Frag) (F H : Hp) (σ : L2.St) (δ : Dl) (μ : Cells) : Prop where
  m : RpM K F H μ
  len : σ.length = δ.length
  env : ∀ (i : Nat) (x : Vd), δ[i]? = some (some x) → ∃ v, σ[i]? = some (some v) ∧ VOk K F x v
structure Fw (bs bs' : List Addr) (F H F' H' : Hp) : Prop where
  f : Same F F'
  k : ∀ b o, H b = some o → b ∉ bs → H' b = some o
  c : ∀ b, F b = none → H b ≠ none → b ∉ bs → F' b = none
  s : ∀ b ∈ bs', b ∈ bs ∨ H b = none
theorem Fw.refl {bs : List Addr} {F H : Hp} : Fw bs bs F H F H := ⟨Same.refl F, fun _ _ e _ => e, fun _ e _ _ => e, fun _ h => .inl h⟩
theorem Fw.trans {b0 b1 b2 : List Addr} {F H F1 H1 F2 H2 : Hp} (x : Fw b0 b1 F H F1 H1) (y : Fw b1 b2 F1 H1 F2 H2) : Fw b0 b2 F H F2 H2 := by
  have out : ∀ b, H b ≠ none → b ∉ b0 → b ∉ b1 := fun b h n m => (x.s b m).elim n h
  refine ⟨x.f.trans y.f, fun b o e n => y.k b o (x.k b o e n) (out b (by rw [e]; exact fun z => by cases z) n), fun b e h n => ?_, fun b m => ?_⟩
  · refine y.c b (x.c b e h n) ?_ (out b h n)
    cases q : H b with
    | none => exact absurd q h
    | some o =>
      rw [x.k b o q n]
      exact fun z => by cases z
  · rcases y.s b m with h | h
    · exact x.s b h
    · cases q : H b with
      | none => exact .inr rfl
      | some o =>
        by_cases n : b ∈ b0
        · exact .inl n
        · rw [x.k b o q n] at h
          cases h
theorem RpM.up {K : PySem.W.Frag} {F H F' H' : Hp} {μ μr : Cells} {bs bs' : List Addr} (r : RpM K F H μr) (w : Fw bs bs' F H F' H') (n : ∀ b ∈ ks μr, b ∉ bs) : ∀ b c, (b, c) ∈ μr → F' b = none ∧ CelOk K F' H' b c := fun b c m => by
  obtain ⟨f, h⟩ := r.cel b c m
  have nb := n b (List.mem_map.mpr ⟨_, m, rfl⟩)
  exact ⟨w.c b f h.ne nb, h.to w.f fun o e => w.k b o e nb⟩
theorem Rp.to {K : PySem.W.Frag} {F H F' H' : Hp} {σ : L2.St} {δ : Dl} {μ μ' : Cells} (r : Rp K F H σ δ μ) (e : Same F F') (m : RpM K F' H' μ') : Rp K F' H' σ δ μ' :=
  ⟨m, r.len, fun i x h => by
    obtain ⟨v, h1, h2⟩ := r.env i x h
    exact ⟨v, h1, h2.up e⟩⟩
theorem Rp.put {K : PySem.W.Frag} {F H : Hp} {σ : L2.St} {δ : Dl} {μ : Cells} {x : Vd} {v : V} (r : Rp K F H σ δ μ) (i : Nat) (h : VOk K F x v) : Rp K F H (σ.set i (some v)) (δ.set i (some x)) μ := by
  refine ⟨r.m, by rw [List.length_set, List.length_set, r.len], fun j y e => ?_⟩
  by_cases hj : i = j
  · subst hj
    by_cases hl : i < δ.length
    · rw [List.getElem?_set_self hl] at e
      cases e
      exact ⟨v, List.getElem?_set_self (by rw [r.len]; exact hl), h⟩
    · rw [List.getElem?_eq_none (by rw [List.length_set]; omega)] at e
      cases e
  · rw [List.getElem?_set_ne hj] at e
    obtain ⟨u, h1, h2⟩ := r.env j y e
    exact ⟨u, by rw [List.getElem?_set_ne hj]; exact h1, h2⟩
theorem Rp.out {K : PySem.W.Frag} {F H : Hp} {σ : L2.St} {δ : Dl} {μ : Cells} (r : Rp K F H σ δ μ) (i : Nat) : Rp K F H (σ.set i none) (δ.set i none) μ := by
  refine ⟨r.m, by rw [List.length_set, List.length_set, r.len], fun j y e => ?_⟩
  by_cases hj : i = j
  · subst hj
    by_cases hl : i < δ.length
    · rw [List.getElem?_set_self hl] at e
      cases e
    · rw [List.getElem?_eq_none (by rw [List.length_set]; omega)] at e
      cases e
  · rw [List.getElem?_set_ne hj] at e
    obtain ⟨u, h1, h2⟩ := r.env j y e
    exact ⟨u, by rw [List.getElem?_set_ne hj]; exact h1, h2⟩
def wipeD (δ : Dl) : List Nat → Dl
  | [] => δ
  | v :: vs => (wipeD δ vs).set v none
theorem Rp.wiped {K : PySem.W.Frag} {F H : Hp} {σ : L2.St} {δ : Dl} {μ : Cells} (r : Rp K F H σ δ μ) : ∀ vs : List Nat, Rp K F H (wipe σ vs) (wipeD δ vs) μ
  | [] => r
  | v :: vs => (Rp.wiped r vs).out v
theorem RpM.new {K : PySem.W.Frag} {F H : Hp} {μ : Cells} {p : Addr} {o : HO} (r : RpM K F H μ) (np : H p = none) : RpM K (upd F p o) (upd H p o) μ ∧ Fw (ks μ) (ks μ) F H (upd F p o) (upd H p o) := by
  have fp : F p = none := r.ex.free np
  have ne : ∀ b, H b ≠ none → b ≠ p := fun b h z => h (z ▸ np)
  refine ⟨⟨fun b x e => ?_, r.nd, fun b c m => ?_⟩, same_new fp, fun b x e _ => ?_, fun b e h _ => ?_, fun b m => .inl m⟩
  · by_cases hb : b = p
    · subst hb
      rw [upd_same] at e ⊢
      exact e
    · rw [upd_ne hb] at e ⊢
      exact r.ex b x e
  · obtain ⟨f, h⟩ := r.cel b c m
    have nb : b ≠ p := ne b h.ne
    exact ⟨by rw [upd_ne nb]; exact f, h.to (same_new fp) fun o e => by rw [upd_ne nb]; exact e⟩
  · rw [upd_ne (ne b (by rw [e]; exact fun z => by cases z))]
    exact e
  · rw [upd_ne (ne b h)]
    exact e
theorem RpM.cellO {K : PySem.W.Frag} {F H : Hp} {μ : Cells} {p : Addr} {o : HO} {c : Cont} (r : RpM K F H μ) (np : H p = none) (h : CelOk K F (upd H p o) p c) : RpM K F (upd H p o) ((p, c) :: μ) ∧ Fw (ks μ) (ks ((p, c) :: μ)) F H F (upd H p o) := by
  have fp : F p = none := r.ex.free np
  have ne : ∀ b, H b ≠ none → b ≠ p := fun b h z => h (z ▸ np)
  have out : p ∉ ks μ := fun m => by
    obtain ⟨⟨b, es⟩, m1, m2⟩ := List.mem_map.mp m
    have m2' : b = p := m2
    exact (r.cel b es m1).2.ne (by rw [m2', np])
  refine ⟨⟨fun b x e => ?_, List.nodup_cons.mpr ⟨out, r.nd⟩, fun b es m => ?_⟩, Same.refl F, fun b x e _ => ?_, fun b e _ _ => e, fun b m => ?_⟩
  · rw [upd_ne (ne_of_none e fp)]
    exact r.ex b x e
  · rcases List.mem_cons.mp m with m | m
    · cases m
      exact ⟨fp, h⟩
    · obtain ⟨f, g⟩ := r.cel b es m
      exact ⟨f, g.to (Same.refl F) fun o e => by rw [upd_ne (ne b g.ne)]; exact e⟩
  · rw [upd_ne (ne b (by rw [e]; exact fun z => by cases z))]
    exact e
  · rcases List.mem_cons.mp m with m | m
    · exact .inr (m ▸ np)
    · exact .inl m
theorem RpM.cellQ {K : PySem.W.Frag} {F H : Hp} {μ : Cells} {p : Addr} {vs : List V} {ds : List PyData} (r : RpM K F H μ) (np : H p = none) (h : DqAll K F vs ds) : RpM K F (upd H p (.lst vs)) ((p, ds) :: μ) ∧ Fw (ks μ) (ks ((p, (ds : Cont)) :: μ)) F H F (upd H p (.lst vs)) :=
  r.cellO np ⟨vs, upd_same, h⟩
theorem RpM.cell {K : PySem.W.Frag} {F H : Hp} {μ : Cells} {p : Addr} {vs : List V} {ds : List PyData} (r : RpM K F H μ) (np : H p = none) (h : DeAll K F vs ds) : RpM K F (upd H p (.lst vs)) ((p, ds) :: μ) ∧ Fw (ks μ) (ks ((p, (ds : Cont)) :: μ)) F H F (upd H p (.lst vs)) := r.cellQ np (.of h)
theorem RpM.freeze {K : PySem.W.Frag} {F H : Hp} {μ : Cells} {p : Addr} {ds : List PyData} (r : RpM K F H ((p, ds) :: μ)) (pl : plS ds) : ∃ vs, H p = some (.lst vs) ∧ DeAll K (upd F p (.lst vs)) vs ds ∧ RpM K (upd F p (.lst vs)) H μ ∧ Same F (upd F p (.lst vs)) ∧ F p = none ∧ p ∉ ks μ := by
  obtain ⟨f, vs, e, h⟩ := r.cel p ds List.mem_cons_self
  obtain ⟨out, nd⟩ := List.nodup_cons.mp r.nd
  refine ⟨vs, e, dps_up (same_new f) _ _ (h.to pl), ⟨fun b x q => ?_, nd, fun b es m => ?_⟩, same_new f, f, out⟩
  · by_cases hb : b = p
    · subst hb
      rw [upd_same] at q
      rw [e]
      exact q
    · rw [upd_ne hb] at q
      exact r.ex b x q
  · obtain ⟨f', g⟩ := r.cel b es (List.mem_cons_of_mem _ m)
    have nb : b ≠ p := fun z => out (z ▸ List.mem_map.mpr ⟨_, m, rfl⟩)
    exact ⟨by rw [upd_ne nb]; exact f', g.to (same_new f) fun _ e => e⟩
end Ec
set_option Elab.async false
set_option linter.all false
set_option maxRecDepth 100000
set_option maxHeartbeats 4000000
namespace Ec
open PySem PySem.Spec PyProof.Rows L2
def cE (X : Cx) (e : Expr) : TE := fun σ H Q => ∀ pins s, Inv X pins σ H s → wpAny (model X.prog X.w) X.A (eval e X.env) (EP X pins σ Q) X.xe s
def cT (X : Cx) (e : Expr) : TT := fun σ H Q => ∀ pins s, Inv X pins σ H s → wpAny (model X.prog X.w) X.A (isTrue e X.env (eval e X.env)) (TP X pins σ Q) X.xe s
def cW (X : Cx) (e : Expr) : TT := fun σ H Q => ∀ (wh : Sem Value) pins s, Inv X pins σ H s → wpAny (model X.prog X.w) X.A (isTrue e X.env wh) (TP X pins σ Q) X.xe s
def cA (X : Cx) (es : List Expr) : TA := fun σ H Q => ∀ (pos : Pos) pins s, Inv X pins σ H s → wpAny (model X.prog X.w) X.A (spliced (backTo pos (starEach es X.env))) (AP X pins σ Q) X.xe s
def cS (X : Cx) (st : Stmt) : TS := fun D σ H => ∀ pins s, Inv X pins σ H s → wpAny (model X.prog X.w) X.A (exec st X.env) (SP X pins D) X.xe s
def cB (X : Cx) (st : List Stmt) : TS := fun D σ H => ∀ pins s, Inv X pins σ H s → wpAny (model X.prog X.w) X.A (execs st X.env) (SP X pins D) X.xe s
def cG (X : Cx) (tg : Expr) : TG := fun v σ H Q => ∀ pins s u, Inv X pins σ H s → RelV v u → wpAny (model X.prog X.w) X.A (assign tg X.env u) (fun _ s' => ∃ σ' H', Inv X pins σ' H' s' ∧ Q σ' H') X.xe s
def cGs (X : Cx) (ts : List Expr) : TGs := fun vs σ H Q => ∀ pins s us, Inv X pins σ H s → Vals vs us → wpAny (model X.prog X.w) X.A (assignInOrder ((assignEach ts X.env).map (·.2)) us) (fun _ s' => ∃ σ' H', Inv X pins σ' H' s' ∧ Q σ' H') X.xe s
def cI (X : Cx) (tg iter : Expr) : TI := fun σ H R => ∀ pins s, Inv X pins σ H s → wpAny (model X.prog X.w) X.A (eval iter X.env) (fun v s1 => wpAny (model X.prog X.w) X.A (pyIter v) (PIE X pins σ tg R) X.xe s1) X.xe s
section
variable {X : Cx}
theorem pcE (X : Cx) (e : Expr) : PE X e (cE X e) := ⟨fun pins s _ _ _ I h => h pins s I⟩
theorem pcT (X : Cx) (e : Expr) : PT X e (cT X e) := ⟨fun pins s _ _ _ I h => h pins s I⟩
theorem pcW (X : Cx) (e : Expr) : PW X e (cW X e) := ⟨fun wh pins s _ _ _ I h => h wh pins s I⟩
theorem pcA (X : Cx) (e : List Expr) : PA X e (cA X e) := ⟨fun pos pins s _ _ _ I h => h pos pins s I⟩
theorem pcS (X : Cx) (e : Stmt) : PS X e (cS X e) := ⟨fun pins s _ _ _ I h => h pins s I⟩
theorem pcB (X : Cx) (e : List Stmt) : PSs X e (cB X e) := ⟨fun pins s _ _ _ I h => h pins s I⟩
theorem pcG (X : Cx) (e : Expr) : PG X e (cG X e) := ⟨fun pins s _ _ _ u _ I r h => h pins s u I r⟩
theorem pcGs (X : Cx) (e : List Expr) : PGs X e (cGs X e) := ⟨fun pins s _ _ _ u _ I r h => h pins s u I r⟩
theorem pcI (X : Cx) (tg e : Expr) : PI X tg e (cI X tg e) := ⟨fun pins s _ _ _ I h => h pins s I⟩
theorem toE {e : Expr} {t : TE} (p : PE X e t) {σ H Q} (h : t σ H Q) : cE X e σ H Q := fun pins s I => p.run pins s σ H Q I h
theorem toT {e : Expr} {t : TT} (p : PT X e t) {σ H Q} (h : t σ H Q) : cT X e σ H Q := fun pins s I => p.run pins s σ H Q I h
theorem toW {e : Expr} {t : TT} (p : PW X e t) {σ H Q} (h : t σ H Q) : cW X e σ H Q := fun wh pins s I => p.run wh pins s σ H Q I h
theorem toA {e : List Expr} {t : TA} (p : PA X e t) {σ H Q} (h : t σ H Q) : cA X e σ H Q := fun pos pins s I => p.run pos pins s σ H Q I h
theorem toS {e : Stmt} {t : TS} (p : PS X e t) {D σ H} (h : t D σ H) : cS X e D σ H := fun pins s I => p.run pins s σ H D I h
theorem toB {e : List Stmt} {t : TS} (p : PSs X e t) {D σ H} (h : t D σ H) : cB X e D σ H := fun pins s I => p.run pins s σ H D I h
theorem toG {e : Expr} {t : TG} (p : PG X e t) {v σ H Q} (h : t v σ H Q) : cG X e v σ H Q := fun pins s u I r => p.run pins s σ H v u Q I r h
theorem toGs {e : List Expr} {t : TGs} (p : PGs X e t) {v σ H Q} (h : t v σ H Q) : cGs X e v σ H Q := fun pins s u I r => p.run pins s σ H v u Q I r h
theorem toI {tg e : Expr} {t : TI} (p : PI X tg e t) {σ H R} (h : t σ H R) : cI X tg e σ H R := fun pins s I => p.run pins s σ H R I h
def WE (X : Cx) (e : Expr) (δ : Dl) (μ : Cells) (Q : Vd → Cells → Prop) : Prop := ∀ F H σ, Rp X.K F H σ δ μ → ∀ QV : VK,
  (∀ v x F' H' μ', Fw (ks μ) (ks μ') F H F' H' → Rp X.K F' H' σ δ μ' → VOk X.K F' x v → Q x μ' → QV v H') → cE X e σ H QV
def WT (X : Cx) (e : Expr) (δ : Dl) (μ : Cells) (Q : Bool → Cells → Prop) : Prop := ∀ F H σ, Rp X.K F H σ δ μ → ∀ QV : Bool → Hp → Prop,
  (∀ b F' H' μ', Fw (ks μ) (ks μ') F H F' H' → Rp X.K F' H' σ δ μ' → Q b μ' → QV b H') → cT X e σ H QV
def WW (X : Cx) (e : Expr) (δ : Dl) (μ : Cells) (Q : Bool → Cells → Prop) : Prop := ∀ F H σ, Rp X.K F H σ δ μ → ∀ QV : Bool → Hp → Prop,
  (∀ b F' H' μ', Fw (ks μ) (ks μ') F H F' H' → Rp X.K F' H' σ δ μ' → Q b μ' → QV b H') → cW X e σ H QV
def WA (X : Cx) (es : List Expr) (δ : Dl) (μ : Cells) (Q : List Vd → Cells → Prop) : Prop := ∀ F H σ, Rp X.K F H σ δ μ → ∀ QV : List V → Hp → Prop,
  (∀ vs xs F' H' μ', Fw (ks μ) (ks μ') F H F' H' → Rp X.K F' H' σ δ μ' → VAll X.K F' xs vs → Q xs μ' → QV vs H') → cA X es σ H QV
structure Dn where
  nx : Dl → Cells → Prop
  rt : Vd → Cells → Prop
  bk : Dl → Cells → Prop := fun _ _ => False
  ct : Dl → Cells → Prop := fun _ _ => False
structure Bears (K : PySem.W.Frag) (F H : Hp) (μ : Cells) (D : Dn) (De : Ends) : Prop where
  nx : ∀ F' H' σ' δ' μ', Fw (ks μ) (ks μ') F H F' H' → Rp K F' H' σ' δ' μ' → D.nx δ' μ' → De.nx σ' H'
  rt : ∀ v x F' H' μ', Fw (ks μ) (ks μ') F H F' H' → RpM K F' H' μ' → VOk K F' x v → D.rt x μ' → De.rt v H'
  bk : ∀ F' H' σ' δ' μ', Fw (ks μ) (ks μ') F H F' H' → Rp K F' H' σ' δ' μ' → D.bk δ' μ' → De.bk σ' H'
  ct : ∀ F' H' σ' δ' μ', Fw (ks μ) (ks μ') F H F' H' → Rp K F' H' σ' δ' μ' → D.ct δ' μ' → De.ct σ' H'
theorem Bears.next {K : PySem.W.Frag} {F H F' H' : Hp} {μ μ' : Cells} {D : Dn} {De : Ends} (b : Bears K F H μ D De) (w : Fw (ks μ) (ks μ') F H F' H') : Bears K F' H' μ' D De :=
  ⟨fun _ _ _ _ _ w2 => b.nx _ _ _ _ _ (w.trans w2), fun _ _ _ _ _ w2 => b.rt _ _ _ _ _ (w.trans w2), fun _ _ _ _ _ w2 => b.bk _ _ _ _ _ (w.trans w2), fun _ _ _ _ _ w2 => b.ct _ _ _ _ _ (w.trans w2)⟩
def WS (X : Cx) (st : Stmt) (δ : Dl) (μ : Cells) (D : Dn) : Prop := ∀ F H σ, Rp X.K F H σ δ μ → ∀ De, Bears X.K F H μ D De → cS X st De σ H
def WB (X : Cx) (st : List Stmt) (δ : Dl) (μ : Cells) (D : Dn) : Prop := ∀ F H σ, Rp X.K F H σ δ μ → ∀ De, Bears X.K F H μ D De → cB X st De σ H
def itV (iter : Expr) : PyData → Vd := match iter with
  | .Call (.Name x _) _ _ _ => if x == "enumerate" || x == "zip" then .w else .d
  | .Call (.Attribute _ m _) _ _ _ => if m == "items" then .w else .d
  | _ => .d
structure Wk (K : PySem.W.Frag) (J : It) (F0 : Hp) (iv : PyData → Vd) (ds : List PyData) : Prop where
  go : ∀ i F H, i < ds.length → Same F0 F → Same F H → J.go i H
  yld : ∀ i F H x H' d, ds[i]? = some d → Same F0 F → Same F H → J.yld i H x H' → ∃ F', Same F F' ∧ Same F' H' ∧ Same H H' ∧ (∀ b, F b = none → H b ≠ none → F' b = none) ∧ VOk K F' (iv d) x
  stop : ∀ F H, Same F0 F → Same F H → J.stop ds.length H
def WI (X : Cx) (tg iter : Expr) (δ : Dl) (μ : Cells) (Q : List PyData → Cells → Prop) : Prop := ∀ F H σ, Rp X.K F H σ δ μ → ∀ R : It → Hp → Prop,
  (∀ J ds F' H' μ', Fw (ks μ) (ks μ') F H F' H' → Rp X.K F' H' σ δ μ' → Wk X.K J F' (itV iter) ds → Q ds μ' → R J H') → cI X tg iter σ H R
variable {δ : Dl} {μ : Cells} {e a b : Expr} {pos : Pos} {Q : Vd → Cells → Prop} {D : Dn}
theorem WE.mono {Q' : Vd → Cells → Prop} (h : WE X e δ μ Q) (k : ∀ x μ', Q x μ' → Q' x μ') : WE X e δ μ Q' := fun F H σ r QV c => h F H σ r QV fun v x F' H' μ' w r' o q => c v x F' H' μ' w r' o (k x μ' q)
theorem WT.mono {T T' : Bool → Cells → Prop} (h : WT X e δ μ T) (k : ∀ x μ', T x μ' → T' x μ') : WT X e δ μ T' := fun F H σ r QV c => h F H σ r QV fun v F' H' μ' w r' q => c v F' H' μ' w r' (k v μ' q)
theorem we_name (i : Nat) {x : Str} {y : Vd} (hN : X.N[i]? = some x) (hv : Vis X.env.scope x) (hδ : δ[i]? = some (some y)) (h : Q y μ) (hd : (x == ("__debug__" : Str)) = false := by decide) (hcd : (x == ("__classdict__" : Str)) = false := by decide) :
    WE X (.Name x pos) δ μ Q := fun F H σ r QV c => by
  obtain ⟨v, e1, e2⟩ := r.env i y hδ
  exact toE (pe_var hN hv hd hcd) ⟨v, e1, c v y F H μ Fw.refl r e2 h⟩
theorem we_int {i : Int} {j : Nat} (h : Q (.d (.int i)) μ) : WE X (.Constant (.int i) j pos) δ μ Q := fun F H σ r QV c => toE pe_int (c _ (.d (.int i)) F H μ Fw.refl r (.int i) h)
theorem we_bl {i : Bool} {j : Nat} (h : Q (.d (.bool i)) μ) : WE X (.Constant (.bool i) j pos) δ μ Q := fun F H σ r QV c => toE pe_bl (c _ (.d (.bool i)) F H μ Fw.refl r (.bl i) h)
theorem we_non {j : Nat} (h : Q (.d .none) μ) : WE X (.Constant .none j pos) δ μ Q := fun F H σ r QV c => toE pe_non (c _ (.d .none) F H μ Fw.refl r .non h)
theorem we_str {x : Str} {j : Nat} (h : Q (.d (.str x)) μ) : WE X (.Constant (.str x) j pos) δ μ Q := fun F H σ r QV c => toE pe_str (c _ (.d (.str x)) F H μ Fw.refl r (.str x) h)
def OpW (K : PySem.W.Frag) (r : R2) (x y : Vd) (μ : Cells) (Q : Vd → Cells → Prop) : Prop := ∀ F H v u, RpM K F H μ → VOk K F x v → VOk K F y u → ∀ QV : VK,
  (∀ z w F' H' μ', Fw (ks μ) (ks μ') F H F' H' → RpM K F' H' μ' → VOk K F' z w → Q z μ' → QV w H') → r v u H QV
def UnW (K : PySem.W.Frag) (r : V → Hp → VK → Prop) (x : Vd) (μ : Cells) (Q : Vd → Cells → Prop) : Prop := ∀ F H v, RpM K F H μ → VOk K F x v → ∀ QV : VK,
  (∀ z w F' H' μ', Fw (ks μ) (ks μ') F H F' H' → RpM K F' H' μ' → VOk K F' z w → Q z μ' → QV w H') → r v H QV
def CaW (K : PySem.W.Frag) (r : List V → Hp → VK → Prop) (xs : List Vd) (μ : Cells) (Q : Vd → Cells → Prop) : Prop := ∀ F H vs, RpM K F H μ → VAll K F xs vs → ∀ QV : VK,
  (∀ z w F' H' μ', Fw (ks μ) (ks μ') F H F' H' → RpM K F' H' μ' → VOk K F' z w → Q z μ' → QV w H') → r vs H QV
theorem two {r : R2} {e : Expr} (p : PE X e (tOp r (cE X a) (cE X b))) (h : WE X a δ μ fun x μ1 => WE X b δ μ1 fun y μ2 => OpW X.K r x y μ2 Q) : WE X e δ μ Q := fun F H σ R QV c =>
  toE p (h F H σ R _ fun v x F1 H1 μ1 w1 R1 o1 q1 => q1 F1 H1 σ R1 _ fun u y F2 H2 μ2 w2 R2 o2 q2 => q2 F2 H2 v u R2.m (o1.up w2.f) o2 _ fun z w F3 H3 μ3 w3 m3 o3 q3 =>
    c w z F3 H3 μ3 ((w1.trans w2).trans w3) (R2.to w3.f m3) o3 q3)
theorem we_bin {op : Operator} {r : R2} (ho : OpR X (binaryOp op) r) (h : WE X a δ μ fun x μ1 => WE X b δ μ1 fun y μ2 => OpW X.K r x y μ2 Q) : WE X (.BinOp a op b pos) δ μ Q := two (pe_op ho (pcE X a) (pcE X b)) h
theorem we_cmp {op : CmpOp} {r : R2} (ho : OpR X (compareOp op) r) (hm : behindInMarks op b = false) (h : WE X a δ μ fun x μ1 => WE X b δ μ1 fun y μ2 => OpW X.K r x y μ2 Q) : WE X (.Compare a [op] [b] pos) δ μ Q := two (pe_cmpR ho (pcE X a) (pcE X b) hm) h
theorem we_ix {r : R2} (ho : IxR X r) (hs : PlainIx b) (h : WE X a δ μ fun x μ1 => WE X b δ μ1 fun y μ2 => OpW X.K r x y μ2 Q) : WE X (.Subscript a b pos) δ μ Q := two (pe_ix ho (pcE X a) (pcE X b) hs) h
theorem we_un {op : UnaryOp} {r : V → Hp → VK → Prop} (ho : UnR X (unaryOp op) r) (h : WE X a δ μ fun x μ1 => UnW X.K r x μ1 Q) : WE X (.UnaryOp op a pos) δ μ Q := fun F H σ R QV c =>
  toE (pe_un ho (pcE X a)) (h F H σ R _ fun v x F1 H1 μ1 w1 R1 o1 q1 => q1 F1 H1 v R1.m o1 _ fun z w F3 H3 μ3 w3 m3 o3 q3 => c w z F3 H3 μ3 (w1.trans w3) (R1.to w3.f m3) o3 q3)
theorem wt_cmp {op : CmpOp} {r : R2} {T : Bool → Cells → Prop} (ho : OpR X (compareOp op) r) (hm : behindInMarks op b = false) (h : WE X a δ μ fun x μ1 => WE X b δ μ1 fun y μ2 => OpW X.K r x y μ2 fun z μ3 => ∃ k, z = .d (.bool k) ∧ T k μ3) :
    WT X (.Compare a [op] [b] pos) δ μ T := fun F H σ R QV c =>
  toT (pt_cmpR ho (pcE X a) (pcE X b) hm) (h F H σ R _ fun v x F1 H1 μ1 w1 R1 o1 q1 => q1 F1 H1 σ R1 _ fun u y F2 H2 μ2 w2 R2 o2 q2 => q2 F2 H2 v u R2.m (o1.up w2.f) o2 _ fun z w F3 H3 μ3 w3 m3 o3 q3 => by
    obtain ⟨k, rfl, q⟩ := q3
    exact ⟨k, dp_bl o3, c k F3 H3 μ3 ((w1.trans w2).trans w3) (R2.to w3.f m3) q⟩)
theorem wt_val {T : Bool → Cells → Prop} (h : WE X e δ μ fun z μ3 => ∃ k, z = .d (.bool k) ∧ T k μ3) (he : ∀ whole, isTrue e X.env whole = (do let v ← whole; standAt e.pos; holding [v] (truthy v)) := by intro _; rfl) : WT X e δ μ T := fun F H σ R QV c =>
  toT (pt_val (pcE X e) he) (h F H σ R _ fun v x F1 H1 μ1 w1 R1 o1 q1 => by
    obtain ⟨k, rfl, q⟩ := q1
    exact ⟨k, dp_bl o1, c k F1 H1 μ1 w1 R1 q⟩)
variable {T : Bool → Cells → Prop} {rest : List Expr}
theorem ww_and1 (h : WT X a δ μ T) : WW X (.BoolOp .And [a] pos) δ μ T := fun F H σ R QV c => toW (pw_and1 (pcT X a)) (h F H σ R QV c)
theorem ww_or1 (h : WT X a δ μ T) : WW X (.BoolOp .Or [a] pos) δ μ T := fun F H σ R QV c => toW (pw_or1 (pcT X a)) (h F H σ R QV c)
theorem ww_and (h : WT X a δ μ fun k μ1 => if k = true then WW X (.BoolOp .And (b :: rest) pos) δ μ1 T else T false μ1) : WW X (.BoolOp .And (a :: b :: rest) pos) δ μ T := fun F H σ R QV c =>
  toW (pw_and (pcT X a) (pcW X _)) (h F H σ R _ fun k F1 H1 μ1 w1 R1 q => by
    cases k with
    | true => exact (show WW X _ δ μ1 T from q) F1 H1 σ R1 QV fun k2 F2 H2 μ2 w2 R2 q2 => c k2 F2 H2 μ2 (w1.trans w2) R2 q2
    | false => exact c false F1 H1 μ1 w1 R1 q)
theorem ww_or (h : WT X a δ μ fun k μ1 => if k = true then T true μ1 else WW X (.BoolOp .Or (b :: rest) pos) δ μ1 T) : WW X (.BoolOp .Or (a :: b :: rest) pos) δ μ T := fun F H σ R QV c =>
  toW (pw_or (pcT X a) (pcW X _)) (h F H σ R _ fun k F1 H1 μ1 w1 R1 q => by
    cases k with
    | false => exact (show WW X _ δ μ1 T from q) F1 H1 σ R1 QV fun k2 F2 H2 μ2 w2 R2 q2 => c k2 F2 H2 μ2 (w1.trans w2) R2 q2
    | true => exact c true F1 H1 μ1 w1 R1 q)
theorem wt_w (h : WW X e δ μ T) : WT X e δ μ T := fun F H σ R QV c => toT (pcW X e).pt (h F H σ R QV c)
theorem wt_not (h : WT X a δ μ fun k μ1 => T (!k) μ1) : WT X (.UnaryOp .Not a pos) δ μ T := fun F H σ R QV c => toT (pt_not (pcT X a)) (h F H σ R _ fun k F1 H1 μ1 w1 R1 q => c (!k) F1 H1 μ1 w1 R1 q)
theorem we_one {op : BoolOp} (h : WE X a δ μ Q) : WE X (.BoolOp op [a] pos) δ μ Q := fun F H σ R QV c => toE (pe_one (pcE X a)) (h F H σ R QV c)
theorem we_and (h : WE X a δ μ fun z μ1 => ∃ k, z = .d (.bool k) ∧ if k = true then WE X (.BoolOp .And (b :: rest) pos) δ μ1 Q else Q (.d (.bool false)) μ1) : WE X (.BoolOp .And (a :: b :: rest) pos) δ μ Q := fun F H σ R QV c =>
  toE (pe_and (pcE X a) (pcE X _)) (h F H σ R _ fun v z F1 H1 μ1 w1 R1 o1 q => by
    obtain ⟨k, rfl, q⟩ := q
    refine ⟨k, dp_bl o1, ?_⟩
    cases k with
    | true => exact (show WE X _ δ μ1 Q from q) F1 H1 σ R1 QV fun k2 x2 F2 H2 μ2 w2 R2 o2 q2 => c k2 x2 F2 H2 μ2 (w1.trans w2) R2 o2 q2
    | false => exact c _ (.d (.bool false)) F1 H1 μ1 w1 R1 (.bl false) q)
theorem we_if {t : Expr} (h : WT X t δ μ fun k μ1 => if k = true then WE X a δ μ1 Q else WE X b δ μ1 Q) : WE X (.IfExp t a b pos) δ μ Q := fun F H σ R QV c =>
  toE (pe_ifExp (pcT X t) (pcE X a) (pcE X b)) (h F H σ R _ fun k F1 H1 μ1 w1 R1 q => by
    cases k with
    | true => exact (show WE X a δ μ1 Q from q) F1 H1 σ R1 QV fun k2 x2 F2 H2 μ2 w2 R2 o2 q2 => c k2 x2 F2 H2 μ2 (w1.trans w2) R2 o2 q2
    | false => exact (show WE X b δ μ1 Q from q) F1 H1 σ R1 QV fun k2 x2 F2 H2 μ2 w2 R2 o2 q2 => c k2 x2 F2 H2 μ2 (w1.trans w2) R2 o2 q2)
theorem wa_nil {QA : List Vd → Cells → Prop} (h : QA [] μ) : WA X [] δ μ QA := fun F H σ R QV c => toA pa_nil (c [] [] F H μ Fw.refl R .nil h)
theorem wa_cons {es : List Expr} {QA : List Vd → Cells → Prop} (h : WE X e δ μ fun x μ1 => WA X es δ μ1 fun xs μ2 => QA (x :: xs) μ2) (hs : starEach (e :: es) X.env = (false, eval e X.env) :: starEach es X.env := by rfl) : WA X (e :: es) δ μ QA := fun F H σ R QV c =>
  toA (pa_cons (pcE X e) (pcA X es) hs) (h F H σ R _ fun v x F1 H1 μ1 w1 R1 o1 q => q F1 H1 σ R1 _ fun vs xs F2 H2 μ2 w2 R2 o2 q2 => c (v :: vs) (x :: xs) F2 H2 μ2 (w1.trans w2) R2 (.cons (o1.up w2.f) o2) q2)
def dsOf : List Vd → Option (List PyData)
  | [] => some []
  | .d x :: r => (dsOf r).map (x :: ·)
  | .w _ :: _ => none
  | .s _ :: _ => none
  | .a _ :: _ => none
  | .k _ _ :: _ => none
  | .e _ _ _ _ :: _ => none
  | .z _ _ :: _ => none
  | .q _ _ :: _ => none
  | .m _ _ _ :: _ => none
theorem dps_of {K : PySem.W.Frag} {F : Hp} : ∀ {xs : List Vd} {ds : List PyData} {vs : List V}, dsOf xs = some ds → VAll K F xs vs → DeAll K F vs ds
  | [], _, _, e, h => by
    cases e
    cases h
    exact .nil
  | .d x :: r, _, _, e, h => by
    cases h with
    | cons h1 h2 =>
      unfold dsOf at e
      cases q : dsOf r with
      | none =>
        rw [q] at e
        cases e
      | some es =>
        rw [q] at e
        cases e
        exact .cons h1 (dps_of q h2)
  | .w _ :: _, _, _, e, _ => by cases e
  | .s _ :: _, _, _, e, _ => by cases e
  | .a _ :: _, _, _, e, _ => by cases e
  | .k _ _ :: _, _, _, e, _ => by cases e
  | .e _ _ _ _ :: _, _, _, e, _ => by cases e
  | .z _ _ :: _, _, _, e, _ => by cases e
  | .q _ _ :: _, _, _, e, _ => by cases e
  | .m _ _ _ :: _, _, _, e, _ => by cases e
def tTupX (t : TA) : TE := fun σ H Q => t σ H fun xs H1 => xs.length ≤ sizeLine ∧ ∀ p o, o.dict = none → H1 p = none → Q (.ref p) (upd H1 p (.frz o (.tup xs)))
theorem pe_tupX {es : List Expr} {k : Nat} {t : TA} (h : PA X es t) : PE X (.Tuple es k pos) (tTupX t) := ⟨fun pins s σ H Q I hq => by
  refine wpAny_Tuple_spliced (thn (h.run pos pins s σ H _ I hq) fun us s1 ⟨xs, H1, I1, r, z, q⟩ => ⟨by rw [← r.length]; exact z, ?_⟩)
  have nf : H1 s1.heap.objs.size = none := I1.hok.fresh (Nat.le_refl _)
  have I2 := I1.laid (t' := s1.toks) (o := .frz { cls := .type "tuple", data := .seq us.toArray } (.tup xs)) (fun b u e => Heap.get?_push_of_some _ e) (Nat.le_refl _) (show ObjOk X.prog X.w _ (s1.heap.push { cls := .type "tuple", data := .seq us.toArray }) _ _ from ⟨Heap.get?_push_size _ rfl, z, us, r, ⟨_, Heap.get?_push_size _ rfl, rfl, _, rfl⟩⟩)
  exact ⟨.ref s1.heap.objs.size, _, I2, rfl, q _ _ rfl nf⟩⟩
theorem we_tup {k : Nat} {es : List Expr} (h : WA X es δ μ fun xs μ1 => ∃ ds, dsOf xs = some ds ∧ ds.length ≤ 100000 ∧ Q (.d (.tuple ds)) μ1) : WE X (.Tuple es k pos) δ μ Q := fun F H σ R QV c =>
  toE (pe_tupX (pcA X es)) (h F H σ R _ fun vs xs F1 H1 μ1 w1 R1 o1 q => by
    obtain ⟨ds, e, hl, q⟩ := q
    have hd := dps_of e o1
    refine ⟨by rw [dps_len hd]; exact Nat.le_trans hl (by decide), fun p o ho np => ?_⟩
    obtain ⟨m, w⟩ := R1.m.new (o := .frz o (.tup vs)) np
    exact c _ (.d (.tuple ds)) _ _ μ1 (w1.trans w) (R1.to w.f m) (.tup upd_same ho (dps_up w.f _ _ hd)) q)
theorem we_lst {es : List Expr} (h : WA X es δ μ fun xs μ1 => ∃ ds, dsOf xs = some ds ∧ ds.length ≤ 100000 ∧ ∀ p, Q (.a p) ((p, ds) :: μ1)) : WE X (.List es pos) δ μ Q := fun F H σ R QV c =>
  toE (pe_lst (pcA X es)) (h F H σ R _ fun vs xs F1 H1 μ1 w1 R1 o1 q => by
    obtain ⟨ds, e, hl, q⟩ := q
    have hd := dps_of e o1
    refine ⟨by rw [dps_len hd]; exact Nat.le_trans hl (by decide), fun p np => ?_⟩
    obtain ⟨m, w⟩ := R1.m.cell np hd
    exact c _ (.a p) _ _ _ (w1.trans w) (R1.to w.f m) rfl (q p))
theorem we_fz (h : WE X e δ μ fun x μ1 => ∃ (p : Addr) (ds : List PyData) (μ2 : Cells), x = .a p ∧ μ1 = ((p, ds) :: μ2 : Cells) ∧ plS ds ∧ Q (.d (.list ds)) μ2) : WE X e δ μ Q := fun F H σ R QV c =>
  h F H σ R QV fun v x F1 H1 μ1 w1 R1 o1 q => by
    obtain ⟨p, ds, μ2, rfl, rfl, pl, q⟩ := q
    obtain ⟨vs, hp, hd, m, sf, fp, out⟩ := R1.m.freeze pl
    have ov : v = .ref p := o1
    subst ov
    refine c _ (.d (.list ds)) _ H1 μ2 ⟨w1.f.trans sf, w1.k, fun b f hb nb => ?_, fun b hb => w1.s b (List.mem_cons_of_mem _ hb)⟩ (R1.to sf m) (.lst upd_same hd) q
    rw [upd_ne]
    · exact w1.c b f hb nb
    · intro z
      subst z
      exact (w1.s b List.mem_cons_self).elim nb hb
end
end Ec
set_option Elab.async false
set_option linter.all false
set_option maxRecDepth 100000
set_option maxHeartbeats 4000000
namespace Ec
open PySem PySem.Spec PyProof.Rows L2
theorem perm_erase {α : Type} : ∀ {l : List α} {i : Nat} (h : i < l.length), l.Perm (l[i] :: l.eraseIdx i)
  | x :: r, 0, _ => List.Perm.refl _
  | x :: r, i + 1, h => ((perm_erase (l := r) (i := i) (Nat.lt_of_succ_lt_succ h)).cons x).trans (List.Perm.swap _ _ _)
theorem RpM.perm {K : PySem.W.Frag} {F H : Hp} {μ μ' : Cells} (r : RpM K F H μ) (p : μ.Perm μ') : RpM K F H μ' :=
  ⟨r.ex, (p.map Prod.fst).nodup_iff.mp r.nd, fun b ds m => r.cel b ds (p.mem_iff.mpr m)⟩
theorem Rp.perm {K : PySem.W.Frag} {F H : Hp} {σ : L2.St} {δ : Dl} {μ μ' : Cells} (r : Rp K F H σ δ μ) (p : μ.Perm μ') : Rp K F H σ δ μ' := ⟨r.m.perm p, r.len, r.env⟩
theorem Fw.sub {a a' b b' : List Addr} {F H F' H' : Hp} (w : Fw a a' F H F' H') (h : ∀ x ∈ a, x ∈ b) (h' : ∀ x ∈ b', x ∈ a' ∨ x ∈ b) : Fw b b' F H F' H' :=
  ⟨w.f, fun c o e n => w.k c o e fun z => n (h c z), fun c e q n => w.c c e q fun z => n (h c z), fun c m => by
    rcases h' c m with q | q
    · rcases w.s c q with z | z
      · exact .inl (h c z)
      · exact .inr z
    · exact .inl q⟩
theorem Fw.perm {K : PySem.W.Frag} {μ μ' μ2 : Cells} {F H F' H' : Hp} (w : Fw (ks μ) (ks μ') F H F' H') (p : μ'.Perm μ2) : Fw (ks μ) (ks μ2) F H F' H' :=
  w.sub (fun _ h => h) fun x m => .inl ((p.map Prod.fst).mem_iff.mpr m)
theorem ks_app (a b : Cells) : ks (a ++ b) = ks a ++ ks b := List.map_append
theorem RpM.left {K : PySem.W.Frag} {F H : Hp} {μ μr : Cells} (r : RpM K F H (μ ++ μr)) : RpM K F H μ :=
  ⟨r.ex, by have h := r.nd; rw [ks_app] at h; exact (List.nodup_append.mp h).1, fun b ds m => r.cel b ds (List.mem_append_left _ m)⟩
theorem RpM.frame {K : PySem.W.Frag} {F H F' H' : Hp} {μ μ' μr : Cells} (r : RpM K F H (μ ++ μr)) (w : Fw (ks μ) (ks μ') F H F' H') (r' : RpM K F' H' μ') : RpM K F' H' (μ' ++ μr) ∧ Fw (ks (μ ++ μr)) (ks (μ' ++ μr)) F H F' H' := by
  have nd := r.nd
  rw [ks_app] at nd
  obtain ⟨_, n2, dj⟩ := List.nodup_append.mp nd
  have inr : ∀ b ∈ ks μr, F b = none ∧ H b ≠ none ∧ b ∉ ks μ := fun b m => by
    obtain ⟨⟨c, ds⟩, m1, e⟩ := List.mem_map.mp m
    have e' : c = b := e
    subst e'
    obtain ⟨f, h⟩ := r.cel c ds (List.mem_append_right _ m1)
    exact ⟨f, h.ne, fun z => dj c z c m rfl⟩
  refine ⟨⟨r'.ex, ?_, fun b ds m => ?_⟩, w.sub (fun x m => ?_) fun x m => ?_⟩
  · rw [ks_app]
    refine List.nodup_append.mpr ⟨r'.nd, n2, fun x mx y my e => ?_⟩
    subst e
    obtain ⟨_, h2, h3⟩ := inr x my
    rcases w.s x mx with z | z
    · exact h3 z
    · exact h2 z
  · rcases List.mem_append.mp m with m | m
    · exact r'.cel b ds m
    · obtain ⟨f, g⟩ := r.cel b ds (List.mem_append_right _ m)
      obtain ⟨_, h2, h3⟩ := inr b (List.mem_map.mpr ⟨_, m, rfl⟩)
      exact ⟨w.c b f h2 h3, g.to w.f fun o e => w.k b o e h3⟩
  · rw [ks_app]
    exact List.mem_append_left _ m
  · rw [ks_app] at m ⊢
    rcases List.mem_append.mp m with m | m
    · exact .inl m
    · exact .inr (List.mem_append_right _ m)
theorem RpM.setO {K : PySem.W.Frag} {F H : Hp} {μ : Cells} {i : Nat} {b : Addr} {ds es : Cont} {o : HO} (r : RpM K F H μ) (hi : μ[i]? = some (b, (ds : Cont))) (h : CelOk K F (upd H b o) b es) :
    RpM K F (upd H b o) (μ.set i (b, es)) ∧ Fw (ks μ) (ks (μ.set i (b, es))) F H F (upd H b o) := by
  have hm : (b, ds) ∈ μ := List.mem_of_getElem? hi
  have hb : b ∈ ks μ := List.mem_map.mpr ⟨_, hm, rfl⟩
  obtain ⟨fb, _⟩ := r.cel b ds hm
  have hki : (ks μ)[i]? = some b := by
    show (μ.map Prod.fst)[i]? = some b
    rw [List.getElem?_map, hi]
    rfl
  have hil : i < μ.length := (List.getElem?_eq_some_iff.mp hi).1
  have ek : ks (μ.set i (b, es)) = ks μ := by
    show (μ.set i (b, es)).map Prod.fst = μ.map Prod.fst
    rw [List.map_set]
    refine List.ext_getElem? fun j => ?_
    by_cases hj : i = j
    · subst hj
      rw [List.getElem?_set_self (by rw [List.length_map]; exact hil)]
      exact hki.symm
    · rw [List.getElem?_set_ne hj]
  refine ⟨⟨fun c x q => ?_, by rw [ek]; exact r.nd, fun c fs q => ?_⟩, Same.refl F, fun c x q n => ?_, fun c q _ _ => q, fun c q => .inl (by rw [ek] at q; exact q)⟩
  · rw [upd_ne (ne_of_none q fb)]
    exact r.ex c x q
  · obtain ⟨j, hj⟩ := List.mem_iff_getElem?.mp q
    by_cases e : i = j
    · subst e
      rw [List.getElem?_set_self hil] at hj
      cases hj
      exact ⟨fb, h⟩
    · rw [List.getElem?_set_ne e] at hj
      obtain ⟨f, g⟩ := r.cel c fs (List.mem_of_getElem? hj)
      have nc : c ≠ b := fun z => by
        subst z
        have hkj : (ks μ)[j]? = some c := by
          show (μ.map Prod.fst)[j]? = some c
          rw [List.getElem?_map, hj]
          rfl
        exact e ((List.getElem?_inj (l := ks μ) (by show i < (μ.map Prod.fst).length; rw [List.length_map]; exact hil) r.nd).mp (hki.trans hkj.symm))
      exact ⟨f, g.to (Same.refl F) fun o e' => by rw [upd_ne nc]; exact e'⟩
  · rw [upd_ne fun z => n (by rw [z]; exact hb)]
    exact q
theorem RpM.setCQ {K : PySem.W.Frag} {F H : Hp} {μ : Cells} {i : Nat} {b : Addr} {ds es : List PyData} {vs : List V} (r : RpM K F H μ) (hi : μ[i]? = some (b, (ds : Cont))) (h : DqAll K F vs es) :
    RpM K F (upd H b (.lst vs)) (μ.set i (b, es)) ∧ Fw (ks μ) (ks (μ.set i (b, (es : Cont)))) F H F (upd H b (.lst vs)) := r.setO hi ⟨vs, upd_same, h⟩
section
variable {X : Cx} {δ : Dl} {μ : Cells} {e a b : Expr} {pos : Pos} {Q : Vd → Cells → Prop} {D : Dn} {st : Stmt} {rest : List Stmt}
theorem wb_nil (h : D.nx δ μ) : WB X [] δ μ D := fun F H σ R De b => toB pss_nil (b.nx F H σ δ μ Fw.refl R h)
theorem Bears.seq {K : PySem.W.Frag} {F H : Hp} {De : Ends} {t : TS} (b : Bears K F H μ D De) {N : Dl → Cells → Prop}
    (h : ∀ F' H' σ' δ' μ', Fw (ks μ) (ks μ') F H F' H' → Rp K F' H' σ' δ' μ' → N δ' μ' → t De σ' H') : Bears K F H μ { D with nx := N } { De with nx := t De } := ⟨h, b.rt, b.bk, b.ct⟩
theorem wb_cons (h : WS X st δ μ { D with nx := fun δ' μ' => WB X rest δ' μ' D }) : WB X (st :: rest) δ μ D := fun F H σ R De b =>
  toB (pss_cons (pcS X st) (pcB X rest)) (show cS X st { De with nx := cB X rest De } σ H from
    h F H σ R _ (b.seq fun F' H' σ' δ' μ' w R' q => q F' H' σ' R' De (b.next w)))
theorem wb_one (h : WS X st δ μ D) : WB X [st] δ μ D := fun F H σ R De b => toB (pss_one (pcS X st)) (h F H σ R De b)
theorem ws_brk (h : D.bk δ μ) : WS X (.Break pos) δ μ D := fun F H σ R De b => toS ps_break (b.bk F H σ δ μ Fw.refl R h)
theorem ws_expr (h : WE X e δ μ fun _ μ1 => D.nx δ μ1) (hs : swapsWith e none pos.line X.env = pure false := by rfl) : WS X (.Expr e pos) δ μ D := fun F H σ R De b =>
  toS (ps_expr (pcE X e) hs) (h F H σ R _ fun v x F1 H1 μ1 w1 R1 o1 q => b.nx F1 H1 σ δ μ1 w1 R1 q)
theorem ws_ret (h : WE X e δ μ D.rt) : WS X (.Return (some e) pos) δ μ D := fun F H σ R De b =>
  toS (ps_ret (pcE X e)) (h F H σ R _ fun v x F1 H1 μ1 w1 R1 o1 q => b.rt v x F1 H1 μ1 w1 R1.m o1 q)
theorem ws_if {c : Expr} {s1 s2 : List Stmt} (h : WT X c δ μ fun k μ1 => if k = true then WB X s1 δ μ1 D else WB X s2 δ μ1 D) : WS X (.If c s1 s2 pos) δ μ D := fun F H σ R De b =>
  toS (ps_if (pcT X c) (pcB X s1) (pcB X s2)) (h F H σ R _ fun k F1 H1 μ1 w1 R1 q => by
    cases k with
    | true => exact (show WB X s1 δ μ1 D from q) F1 H1 σ R1 De (b.next w1)
    | false => exact (show WB X s2 δ μ1 D from q) F1 H1 σ R1 De (b.next w1))
variable {is : List Nat} {G : Dl → Cells → Prop}
def Only (is : List Nat) (σ σ' : L2.St) : Prop := σ'.length = σ.length ∧ ∀ i, i ∉ is → σ'[i]? = σ[i]?
theorem Only.refl {σ : L2.St} : Only is σ σ := ⟨rfl, fun _ _ => rfl⟩
theorem Only.trans {σ σ1 σ2 : L2.St} (a : Only is σ σ1) (b : Only is σ1 σ2) : Only is σ σ2 := ⟨b.1.trans a.1, fun i h => (b.2 i h).trans (a.2 i h)⟩
theorem Only.set {σ : L2.St} {i : Nat} {x : Option V} (h : i ∈ is) : Only is σ (σ.set i x) := ⟨List.length_set, fun j hj => List.getElem?_set_ne fun z => hj (by rw [← z]; exact h)⟩
theorem wipe_get {σ : L2.St} {j : Nat} (hj : j < σ.length) : ∀ vs : List Nat, (wipe σ vs)[j]? = if j ∈ vs then some none else σ[j]?
  | [] => by simp [wipe]
  | v :: vs => by
    unfold wipe
    by_cases e : v = j
    · subst e
      rw [List.getElem?_set_self (by rw [wipe_length]; exact hj)]
      simp
    · rw [List.getElem?_set_ne e, wipe_get hj vs]
      have : (j ∈ v :: vs) ↔ j ∈ vs := by simp [Ne.symm e]
      simp only [this]
theorem Only.wipe {σ σ2 : L2.St} (h : Only is (L2.wipe σ is) σ2) : L2.wipe σ2 is = L2.wipe σ is := by
  refine List.ext_getElem? fun j => ?_
  have l2 : σ2.length = σ.length := h.1.trans (wipe_length σ is)
  by_cases hj : j < σ.length
  · rw [wipe_get (by rw [l2]; exact hj), wipe_get hj]
    split
    · rfl
    · rename_i hn
      rw [h.2 j hn, wipe_get hj, if_neg hn]
  · rw [List.getElem?_eq_none (by rw [wipe_length]; omega), List.getElem?_eq_none (by rw [wipe_length]; omega)]
def WGo (X : Cx) (is : List Nat) (tg : Expr) (x : Vd) (δ : Dl) (μ : Cells) (Q : Dl → Cells → Prop) : Prop := ∀ F H σ, Rp X.K F H σ δ μ → ∀ v, VOk X.K F x v → ∀ QV : L2.St → Hp → Prop,
  (∀ F' H' σ' δ' μ', Fw (ks μ) (ks μ') F H F' H' → Rp X.K F' H' σ' δ' μ' → Only is σ σ' → Q δ' μ' → QV σ' H') → cG X tg v σ H QV
def WGso (X : Cx) (is : List Nat) (ts : List Expr) (xs : List Vd) (δ : Dl) (μ : Cells) (Q : Dl → Cells → Prop) : Prop := ∀ F H σ, Rp X.K F H σ δ μ → ∀ vs, VAll X.K F xs vs → ∀ QV : L2.St → Hp → Prop,
  (∀ F' H' σ' δ' μ', Fw (ks μ) (ks μ') F H F' H' → Rp X.K F' H' σ' δ' μ' → Only is σ σ' → Q δ' μ' → QV σ' H') → cGs X ts vs σ H QV
theorem wg_name (i : Nat) {x : Str} {y : Vd} (hN : X.N.Nodup) (hi : X.N[i]? = some x) (hx : Loc X.env.scope x) (hf : X.fn x = true ∨ X.env.scope.names.lookup x = some .local) (hm : i ∈ is) (h : G (δ.set i (some y)) μ) :
    WGo X is (.Name x pos) y δ μ G := fun F H σ R v o QV c => toG (pg_name hN hi hx hf) (c F H _ _ μ Fw.refl (R.put i o) (Only.set hm) h)
theorem wgs_nil (h : G δ μ) : WGso X is [] [] δ μ G := fun F H σ R vs o QV c => by
  cases o
  exact toGs pgs_nil ⟨rfl, c F H σ δ μ Fw.refl R Only.refl h⟩
theorem wgs_cons {t : Expr} {ts : List Expr} {x : Vd} {xs : List Vd} (h : WGo X is t x δ μ fun δ1 μ1 => WGso X is ts xs δ1 μ1 G)
    (hs : (assignEach (t :: ts) X.env).map (·.2) = assign t X.env :: (assignEach ts X.env).map (·.2) := by rfl) : WGso X is (t :: ts) (x :: xs) δ μ G := fun F H σ R vs o QV c => by
  cases o with
  | cons o1 o2 =>
    exact toGs (pgs_cons (pcG X t) (pcGs X ts) hs) ⟨_, _, rfl, h F H σ R _ o1 _ fun F1 H1 σ1 δ1 μ1 w1 R1 y1 q => q F1 H1 σ1 R1 _ (VAll.up w1.f o2) QV fun F2 H2 σ2 δ2 μ2 w2 R2 y2 q2 => c F2 H2 σ2 δ2 μ2 (w1.trans w2) R2 (y1.trans y2) q2⟩
theorem vall_d {K : PySem.W.Frag} {F : Hp} : ∀ {ds : List PyData} {vs : List V}, DeAll K F vs ds → VAll K F (ds.map Vd.d) vs
  | [], _, h => by
    cases h
    exact .nil
  | d :: ds, _, h => by
    cases h with
    | cons h1 h2 => exact .cons h1 (vall_d h2)
theorem wg_tup {ts : List Expr} {k : Nat} {ds : List PyData} (hc : X.calm = true) (h : WGso X is ts (ds.map Vd.d) δ μ G) (hn : (assignEach ts X.env).length = ds.length := by rfl)
    (hst : (assignEach ts X.env).findIdx? (·.1) = none := by rfl) : WGo X is (.Tuple ts k pos) (.d (.tuple ds)) δ μ G := fun F H σ R v o QV c => by
  obtain ⟨a, vs, rfl, hs, hd⟩ := dp_tup o
  exact toG (pg_tup hc (pcGs X ts) hn hst) ⟨a, vs, rfl, same_t R.m.ex hs, dps_len hd, h F H σ R vs (vall_d hd) QV c⟩
theorem wg_tupW {ts : List Expr} {k : Nat} {ds : List PyData} (hc : X.calm = true) (h : WGso X is ts (ds.map Vd.d) δ μ G) (hn : (assignEach ts X.env).length = ds.length := by rfl)
    (hst : (assignEach ts X.env).findIdx? (·.1) = none := by rfl) : WGo X is (.Tuple ts k pos) (.w (.tuple ds)) δ μ G := fun F H σ R v o QV c => by
  obtain ⟨a, vs, ds', e0, rfl, hs, hd⟩ := o
  cases e0
  exact toG (pg_tup hc (pcGs X ts) hn hst) ⟨a, vs, rfl, same_t R.m.ex hs, dps_len hd, h F H σ R vs (vall_d hd) QV c⟩
theorem ws_asg {tg : Expr} (is : List Nat) (h : WE X e δ μ fun x μ1 => WGo X is tg x δ μ1 D.nx) (hs : swapsWithSole [tg] e pos.line X.env = pure false := by rfl) (hw : swappedStores [tg] e X.env = pure none := by rfl)
    (h1 : (assignEach [tg] X.env).map (·.2) = [assign tg X.env] := by rfl) : WS X (.Assign [tg] e pos) δ μ D := fun F H σ R De b =>
  toS (ps_asg (pcE X e) (pcG X tg) hs hw h1) (h F H σ R _ fun v x F1 H1 μ1 w1 R1 o1 q => q F1 H1 σ R1 v o1 _ fun F2 H2 σ2 δ2 μ2 w2 R2 _ q2 => b.nx F2 H2 σ2 δ2 μ2 (w1.trans w2) R2 q2)
theorem ws_set (i : Nat) {x : Str} {pos' : Pos} (hN : X.N.Nodup) (hi : X.N[i]? = some x) (hx : Loc X.env.scope x) (hf : X.fn x = true ∨ X.env.scope.names.lookup x = some .local) (h : WE X e δ μ fun y μ1 => D.nx (δ.set i (some y)) μ1)
    (hs : swapsWith e (some (.Name x pos')) pos.line X.env = pure false := by rfl) : WS X (.Assign [.Name x pos'] e pos) δ μ D := fun F H σ R De b =>
  toS (ps_set hN hi hx (pcE X e) hs hf) (h F H σ R _ fun v y F1 H1 μ1 w1 R1 o1 q => b.nx F1 H1 _ _ μ1 w1 (R1.put i o1) q)
theorem ws_par (i j : Nat) {x y : Str} {px py pt : Pos} {kt k2 : Nat} {pt2 : Pos} (hc : X.calm = true) (hN : X.N.Nodup) (hi : X.N[i]? = some x) (hj : X.N[j]? = some y) (hij : i ≠ j)
    (hx : X.env.scope.names.lookup x = some .local) (hy : X.env.scope.names.lookup y = some .local)
    (h : WE X a δ μ fun v μ1 => WE X b δ μ1 fun u μ2 => D.nx ((δ.set i (some v)).set j (some u)) μ2)
    (hw : swappedStores [.Tuple [.Name x px, .Name y py] kt pt] (.Tuple [a, b] k2 pt2) X.env = pure (some [x, y]))
    (hs : swapsWithSole [.Tuple [.Name x px, .Name y py] kt pt] (.Tuple [a, b] k2 pt2) pos.line X.env = pure false := by rfl)
    (q1 : starEach [a, b] X.env = (false, eval a X.env) :: starEach [b] X.env := by rfl) (q2 : starEach [b] X.env = (false, eval b X.env) :: starEach [] X.env := by rfl) :
    WS X (.Assign [.Tuple [.Name x px, .Name y py] kt pt] (.Tuple [a, b] k2 pt2) pos) δ μ D := fun F H σ R De bb =>
  toS (ps_par hc hN hi hj hij hx hy (pa_cons (pcE X a) (pa_cons (pcE X b) pa_nil q2) q1) hw hs) (h F H σ R _ fun v x F1 H1 μ1 w1 R1 o1 q => q F1 H1 σ R1 _ fun u y F2 H2 μ2 w2 R2 o2 q2 =>
    ⟨v, u, rfl, bb.nx F2 H2 _ _ μ2 (w1.trans w2) ((R2.put i (o1.up w2.f)).put j o2) q2⟩)
theorem ws_tups {ts es : List Expr} {kt k2 : Nat} {pt pt2 : Pos} (is : List Nat) (hc : X.calm = true) (h : WA X es δ μ fun xs μ1 => xs.length = es.length ∧ es.length ≤ 1000 ∧ WGso X is ts xs δ μ1 D.nx) (hn : (assignEach ts X.env).length = es.length := by rfl)
    (hst : (assignEach ts X.env).findIdx? (·.1) = none := by rfl)
    (hs : swapsWithSole [.Tuple ts kt pt] (.Tuple es k2 pt2) pos.line X.env = pure false := by rfl) (hw : swappedStores [.Tuple ts kt pt] (.Tuple es k2 pt2) X.env = pure none := by rfl)
    (h1 : (assignEach [.Tuple ts kt pt] X.env).map (·.2) = [assign (.Tuple ts kt pt) X.env] := by rfl) : WS X (.Assign [.Tuple ts kt pt] (.Tuple es k2 pt2) pos) δ μ D := fun F H σ R De bb =>
  toS (ps_asg (pe_tup (pcA X es)) (pg_tup (n := es.length) hc (pcGs X ts) hn hst) hs hw h1) (h F H σ R _ fun vs xs F1 H1 μ1 w1 R1 o1 q => by
    obtain ⟨ql, qz, q⟩ := q
    have lv : vs.length = es.length := (Paired.length o1).symm.trans ql
    refine ⟨by rw [lv]; exact Nat.le_trans qz (by decide), fun p np => ⟨p, vs, rfl, .of upd_same, lv, ?_⟩⟩
    have R2 : Rp X.K F1 (upd H1 p (.tup vs)) σ δ μ1 := ⟨⟨fun c o z => by
        rw [upd_ne (ne_of_none (R1.m.ex c o z) np)]
        exact R1.m.ex c o z, R1.m.nd, fun c ds m => by
        obtain ⟨f, g⟩ := R1.m.cel c ds m
        exact ⟨f, g.to (Same.refl _) fun o z => by rw [upd_ne (ne_of_none z np)]; exact z⟩⟩, R1.len, R1.env⟩
    have w2 : Fw (ks μ1) (ks μ1) F1 H1 F1 (upd H1 p (.tup vs)) := ⟨Same.refl _, fun c o z _ => by
        rw [upd_ne (ne_of_none z np)]
        exact z, fun c z _ _ => z, fun c m => .inl m⟩
    exact q F1 _ σ R2 vs o1 _ fun F3 H3 σ3 δ3 μ3 w3 R3 _ q3 => bb.nx F3 H3 σ3 δ3 μ3 ((w1.trans w2).trans w3) R3 q3)
theorem ws_aug (i : Nat) {x : Str} {y : Vd} {op : Operator} {r : R2} {pos' : Pos} (hN : X.N.Nodup) (hi : X.N[i]? = some x) (hx : Loc X.env.scope x) (hf : X.fn x = true ∨ X.env.scope.names.lookup x = some .local) (hδ : δ[i]? = some (some y)) (ho : OpR X (inplaceOp op) r)
    (h : WE X e δ μ fun u μ1 => OpW X.K r y u μ1 fun z μ2 => D.nx (δ.set i (some z)) μ2) : WS X (.AugAssign (.Name x pos') op e pos) δ μ D := fun F H σ R De b => by
  obtain ⟨v, e1, e2⟩ := R.env i y hδ
  have ho' : PIp X op (fun x y H Q => r x y H Q) := fun pins s σ H x y v u Q I rx ry h => ho pins s σ H x y v u Q I rx ry h
  exact toS (ps_aug hN hi hx (pcE X e) ho' hf) ⟨v, e1, h F H σ R _ fun u y2 F1 H1 μ1 w1 R1 o1 q => q F1 H1 v u R1.m (e2.up w1.f) o1 _ fun z w F2 H2 μ2 w2 m2 o2 q2 => b.nx F2 H2 _ _ μ2 (w1.trans w2) ((R1.to w2.f m2).put i o2) q2⟩
theorem Bears.frz {K : PySem.W.Frag} {F F' H : Hp} {De : Ends} {μ' : Cells} (b : Bears K F H μ D De) (w : Fw (ks μ) (ks μ') F H F' H) : Bears K F' H μ' D De := b.next w
theorem Rp.frz {K : PySem.W.Frag} {F H : Hp} {σ : L2.St} {p : Addr} {ds : List PyData} (R : Rp K F H σ δ ((p, ds) :: μ)) (pl : plS ds) (js : List Nat) (hj : ∀ j ∈ js, δ[j]? = some (some (.a p))) : ∃ F', Rp K F' H σ (js.foldl (fun d j => d.set j (some (.d (.list ds)))) δ) μ ∧ Fw (ks ((p, ds) :: μ)) (ks μ) F H F' H := by
  obtain ⟨vs, hp, hd, m, sf, fp, out⟩ := R.m.freeze pl
  refine ⟨_, ?_, ⟨sf, fun b o e _ => e, fun b e hb nb => ?_, fun b hb => .inl (List.mem_cons_of_mem _ hb)⟩⟩
  · have key : ∀ (js : List Nat) (d : Dl), Rp K (upd F p (.lst vs)) H σ d μ → (∀ j ∈ js, ∃ v, σ[j]? = some (some v) ∧ v = .ref p) → Rp K (upd F p (.lst vs)) H σ (js.foldl (fun d j => d.set j (some (.d (.list ds)))) d) μ := by
      intro js
      induction js with
      | nil => intro d r _; exact r
      | cons j r ih =>
        intro d rr hh
        refine ih _ ?_ fun k hk => hh k (List.mem_cons_of_mem _ hk)
        obtain ⟨v, e1, e2⟩ := hh j List.mem_cons_self
        have := rr.put (x := .d (.list ds)) (v := v) j (by rw [e2]; exact .lst upd_same hd)
        have es : σ.set j (some v) = σ := by
          refine List.ext_getElem? fun k => ?_
          by_cases hk : j = k
          · subst hk
            rw [e1, List.getElem?_set_self (List.getElem?_eq_some_iff.mp e1).1]
          · rw [List.getElem?_set_ne hk]
        rw [es] at this
        exact this
    exact key js δ (R.to sf m) fun j h => R.env j _ (hj j h)
  · rw [upd_ne]
    · exact e
    · intro z
      exact nb (z ▸ List.mem_cons_self)
theorem wb_frz {p : Addr} {ds : List PyData} {sts : List Stmt} (i : Nat) (js : List Nat) (hi : μ[i]? = some (p, (ds : Cont))) (hj : ∀ j ∈ js, δ[j]? = some (some (.a p))) (h : WB X sts (js.foldl (fun d j => d.set j (some (.d (.list ds)))) δ) (μ.eraseIdx i) D) (pl : plS ds := by repeat' first | exact plS_nil | exact plS_map (fun _ => rfl) | refine plS_app ?_ ?_ | refine plS_cons rfl ?_ | assumption) : WB X sts δ μ D := fun F H σ R De b => by
  have pm : μ.Perm ((p, ds) :: μ.eraseIdx i) := by
    obtain ⟨hl, e⟩ := List.getElem?_eq_some_iff.mp hi
    rw [← e]
    exact perm_erase hl
  obtain ⟨F', R', w⟩ := (R.perm pm).frz pl js hj
  have w' : Fw (ks μ) (ks (μ.eraseIdx i)) F H F' H := w.sub (fun x m => (pm.map Prod.fst).mem_iff.mpr m) fun x m => .inl m
  exact h F' H σ R' De (b.next w')
end
end Ec
set_option Elab.async false
set_option linter.all false
set_option maxRecDepth 100000
set_option maxHeartbeats 4000000
namespace Ec
open PySem PySem.Spec PyProof.Rows L2
section
variable {X : Cx} {δ : Dl} {μ : Cells} {e a b : Expr} {pos : Pos} {Q : Vd → Cells → Prop} {D : Dn}
theorem RpM.nil_up {K : PySem.W.Frag} {F H F' H' : Hp} {μ : Cells} (r : RpM K F H μ) (f : Same F F') (h : Same F' H') (k : Same H H') (c : ∀ b, F b = none → H b ≠ none → F' b = none) : RpM K F' H' μ ∧ Fw (ks μ) (ks μ) F H F' H' := by
  refine ⟨⟨h, r.nd, fun b ds m => ?_⟩, f, fun b o e _ => k b o e, fun b e q _ => c b e q, fun b m => .inl m⟩
  obtain ⟨f0, g⟩ := r.cel b ds m
  exact ⟨c b f0 g.ne, g.to f fun o e => k b o e⟩
theorem ws_forG {iv : PyData → Vd} {tg iter : Expr} {body : List Stmt} (is : List Nat) (hp : PassesOwn (model X.prog X.w) X.A X.env X.xe) (hc : X.calm = true)
    (h : WI X tg iter δ μ fun ds μ1 => ∃ I : Nat → Dl → Cells → Prop, I 0 δ μ1 ∧ (∀ i d δ' μ', ds[i]? = some d → I i δ' μ' → WGo X is tg (iv d) δ' μ' fun δ2 μ2 => WB X body δ2 μ2 { nx := I (i + 1), rt := D.rt, bk := D.nx, ct := I (i + 1) }) ∧ ∀ δ' μ', I ds.length δ' μ' → D.nx δ' μ')
    (hw : itV iter = iv)
    (hs : ∀ x, foldedSetIterable iter X.env x = pure x := by intro _; rfl) : WS X (.For tg iter body [] pos) δ μ D := fun F H σ R De b =>
  toS (ps_for hp hc (pcI X tg iter) (pcG X tg) (pcB X body) hs) (h F H σ R _ fun J ds F1 H1 μ1 w1 R1 wk q => by
    subst hw
    obtain ⟨I, h0, hturn, hend⟩ := q
    refine ⟨fun i m σ' H' => m = ds.length - i ∧ i ≤ ds.length ∧ ∃ F' δ' μ', Fw (ks μ1) (ks μ') F1 H1 F' H' ∧ Rp X.K F' H' σ' δ' μ' ∧ I i δ' μ', ⟨_, rfl, Nat.zero_le _, F1, δ, μ1, Fw.refl, R1, h0⟩, ?_⟩
    rintro i m σ' H' ⟨rfl, hi, F', δ', μ', w', R', hI⟩
    by_cases hlt : i < ds.length
    · refine .inr ⟨wk.go i F' H' hlt w'.f R'.m.ex, _, fun _ _ z => z, fun x H2 y => ?_⟩
      obtain ⟨F2, f1, f2, f3, f4, f5⟩ := wk.yld i F' H' x H2 _ (List.getElem?_eq_getElem hlt) w'.f R'.m.ex y
      obtain ⟨m2, w2⟩ := R'.m.nil_up f1 f2 f3 f4
      refine hturn i _ δ' μ' (List.getElem?_eq_getElem hlt) hI F2 H2 σ' (R'.to f1 m2) x f5 _ fun F3 H3 σ3 δ3 μ3 w3 R3 _ q3 => ?_
      have wa := (w'.trans w2).trans w3
      have back : ∀ F4 H4 σ4 δ4 μ4, Fw (ks μ3) (ks μ4) F3 H3 F4 H4 → Rp X.K F4 H4 σ4 δ4 μ4 → I (i + 1) δ4 μ4 → ∃ m', m' < ds.length - i ∧ (m' = ds.length - (i + 1) ∧ i + 1 ≤ ds.length ∧ ∃ F' δ' μ', Fw (ks μ1) (ks μ') F1 H1 F' H4 ∧ Rp X.K F' H4 σ4 δ' μ' ∧ I (i + 1) δ' μ') :=
        fun F4 H4 σ4 δ4 μ4 w4 R4 q4 => ⟨_, by omega, rfl, hlt, F4, δ4, μ4, wa.trans w4, R4, q4⟩
      have bb := (b.next w1).next wa
      exact q3 F3 H3 σ3 R3 _ ⟨back, bb.rt, bb.nx, back⟩
    · have e : i = ds.length := by omega
      subst e
      exact .inl ⟨wk.stop F' H' w'.f R'.m.ex, b.nx F' H' σ' δ' μ' (w1.trans w') R' (hend δ' μ' hI)⟩)
theorem ws_for {tg iter : Expr} {body : List Stmt} (is : List Nat) (hp : PassesOwn (model X.prog X.w) X.A X.env X.xe) (hc : X.calm = true)
    (h : WI X tg iter δ μ fun ds μ1 => ∃ I : Nat → Dl → Cells → Prop, I 0 δ μ1 ∧ (∀ i d δ' μ', ds[i]? = some d → I i δ' μ' → WGo X is tg (.d d) δ' μ' fun δ2 μ2 => WB X body δ2 μ2 { nx := I (i + 1), rt := D.rt, bk := D.nx, ct := I (i + 1) }) ∧ ∀ δ' μ', I ds.length δ' μ' → D.nx δ' μ')
    (hs : ∀ x, foldedSetIterable iter X.env x = pure x := by intro _; rfl) (hw : itV iter = Vd.d := by rfl) : WS X (.For tg iter body [] pos) δ μ D := ws_forG is hp hc h hw hs
theorem ws_forW {tg iter : Expr} {body : List Stmt} (is : List Nat) (hp : PassesOwn (model X.prog X.w) X.A X.env X.xe) (hc : X.calm = true)
    (h : WI X tg iter δ μ fun ds μ1 => ∃ I : Nat → Dl → Cells → Prop, I 0 δ μ1 ∧ (∀ i d δ' μ', ds[i]? = some d → I i δ' μ' → WGo X is tg (.w d) δ' μ' fun δ2 μ2 => WB X body δ2 μ2 { nx := I (i + 1), rt := D.rt, bk := D.nx, ct := I (i + 1) }) ∧ ∀ δ' μ', I ds.length δ' μ' → D.nx δ' μ')
    (hs : ∀ x, foldedSetIterable iter X.env x = pure x := by intro _; rfl) (hw : itV iter = Vd.w := by rfl) : WS X (.For tg iter body [] pos) δ μ D := ws_forG is hp hc h hw hs
theorem ws_while {c : Expr} {body : List Stmt} (hp : PassesOwn (model X.prog X.w) X.A X.env X.xe) (I : Nat → Dl → Cells → Prop) (h0 : ∃ m, I m δ μ)
    (h : ∀ m δ' μ', I m δ' μ' → WT X c δ' μ' fun k μ1 => if k = true then WB X body δ' μ1 { nx := fun δ2 μ2 => ∃ m', m' < m ∧ I m' δ2 μ2, rt := D.rt, bk := D.nx, ct := fun δ2 μ2 => ∃ m', m' < m ∧ I m' δ2 μ2 } else D.nx δ' μ1) : WS X (.While c body [] pos) δ μ D := fun F H σ R De b =>
  toS (ps_while hp (pcT X c) (pcB X body)) (by
    obtain ⟨m0, h0⟩ := h0
    refine ⟨fun m σ' H' => ∃ F' δ' μ', Fw (ks μ) (ks μ') F H F' H' ∧ Rp X.K F' H' σ' δ' μ' ∧ I m δ' μ', ⟨m0, F, δ, μ, Fw.refl, R, h0⟩, ?_⟩
    rintro m σ' H' ⟨F', δ', μ', w', R', hI⟩
    refine h m δ' μ' hI F' H' σ' R' _ fun k F1 H1 μ1 w1 R1 q => ?_
    have bb := (b.next w').next w1
    cases k with
    | true =>
      have back : ∀ F4 H4 σ4 δ4 μ4, Fw (ks μ1) (ks μ4) F1 H1 F4 H4 → Rp X.K F4 H4 σ4 δ4 μ4 → (∃ m', m' < m ∧ I m' δ4 μ4) → ∃ m', m' < m ∧ ∃ F' δ' μ', Fw (ks μ) (ks μ') F H F' H4 ∧ Rp X.K F' H4 σ4 δ' μ' ∧ I m' δ' μ' :=
        fun F4 H4 σ4 δ4 μ4 w4 R4 ⟨m', hm, q4⟩ => ⟨m', hm, F4, δ4, μ4, (w'.trans w1).trans w4, R4, q4⟩
      exact ⟨_, fun _ _ z => z, (show WB X body δ' μ1 _ from q) F1 H1 σ' R1 _ ⟨back, bb.rt, bb.nx, back⟩⟩
    | false => exact bb.nx F1 H1 σ' δ' μ1 Fw.refl R1 q)
def Blk (X : Cx) (scope : Scope) (Φ : Cx → Prop) : Prop := ∀ (s : Shared) (H : Hp) (C : Addr) (cl : List (Str × Addr)) (fp : List Addr), Φ (X.blk s H scope (compEnvC scope cl C X.env) fp)
def WTs (X : Cx) (ifs : List Expr) (δ : Dl) (μ : Cells) (Q : Bool → Cells → Prop) : Prop := match ifs with
  | [] => Q true μ
  | [c] => WT X c δ μ Q
  | _ => False
def gB (X : Cx) (scope : Scope) (tg : Expr) : TG := fun v σ H Q => Blk X scope fun Y => cG Y tg v σ H Q
def tB (X : Cx) (scope : Scope) (ifs : List Expr) : TT := fun σ H Q => match ifs with | [] => Q true H | [c] => Blk X scope fun Y => cT Y c σ H Q | _ => False
def eB (X : Cx) (scope : Scope) (elt : Expr) : TE := fun σ H Q => Blk X scope fun Y => cE Y elt σ H Q
theorem pgB (scope : Scope) (tg : Expr) (s : Shared) (H : Hp) (C : Addr) (cl : List (Str × Addr)) (fp : List Addr) : PG (X.blk s H scope (compEnvC scope cl C X.env) fp) tg (gB X scope tg) := ⟨fun pins s1 σ1 H1 v u Q1 I r hh => hh s H C cl fp pins s1 u I r⟩
theorem ptB (scope : Scope) (ifs : List Expr) (s : Shared) (H : Hp) (C : Addr) (cl : List (Str × Addr)) (fp : List Addr) : PTs (X.blk s H scope (compEnvC scope cl C X.env) fp) ifs (tB X scope ifs) := match ifs with
  | [] => pts_nil
  | [c] => pts_one ⟨fun pins s1 σ1 H1 Q1 I hh => hh s H C cl fp pins s1 I⟩
  | _ :: _ :: _ => ⟨fun _ _ _ _ _ _ hh => hh.elim⟩
theorem peB (scope : Scope) (elt : Expr) (s : Shared) (H : Hp) (C : Addr) (cl : List (Str × Addr)) (fp : List Addr) : PE (X.blk s H scope (compEnvC scope cl C X.env) fp) elt (eB X scope elt) := ⟨fun pins s1 σ1 H1 Q1 I hh => hh s H C cl fp pins s1 I⟩
def toC : Vd → PyData
  | .d x => x
  | .a p => ptr p
  | .w x => x
  | .s ns => .list (intsD ns)
  | .k p _ => ptr p
  | .e p C f x => exI p C f x
  | .z p kvs => zd p kvs
  | .q a b => ptr2 a b
  | .m p _ _ => ptr p
theorem VOk.toC {K : PySem.W.Frag} {F : Hp} : ∀ {x : Vd} {v : V}, (∀ d, x ≠ .w d ∧ ∀ ns, x ≠ .s ns) → VOk K F x v → Dq K F v (toC x)
  | .d _, _, _, h => .d h
  | .a p, _, _, h => by
    rw [show _ = V.ref p from h]
    exact .p p
  | .w d, _, n, _ => absurd rfl (n d).1
  | .s ns, _, n, _ => absurd rfl ((n .none).2 ns)
  | .k p _, _, _, h => by
    rw [h.1]
    exact .p p
  | .e p C f x, _, _, h => by
    obtain ⟨rfl, dd, w, h1, h2, h3⟩ := h
    exact .e h1 h2 h3
  | .z p kvs, _, _, h => by
    rw [h.1]
    exact .z h.2
  | .q a b, _, _, h => by
    obtain ⟨T, o, rfl, h1, h2⟩ := h
    exact .q h1 h2
  | .m p b ds, _, _, h => by
    rw [h.1]
    exact .p p
def LcPg (iv : PyData → Vd) (X : Cx) (scope : Scope) (own : List (Str × Nat)) (elt tg iter : Expr) (ifs : List Expr) (δ : Dl) (μ : Cells) (Q : Vd → Cells → Prop) : Prop :=
  WI X tg iter δ μ fun ds μ1 => ∃ I : Nat → List PyData → Cells → Prop, I 0 [] μ1 ∧ ds.length ≤ 100000 ∧ (∀ i acc μ', I i acc μ' → acc.length ≤ i) ∧
      (∀ i d acc μ', ds[i]? = some d → I i acc μ' → Blk X scope fun Y => WGo Y (own.map (·.2)) tg (iv d) (wipeD δ (own.map (·.2))) μ' fun δ2 μ2 => Blk X scope fun Y => WTs Y ifs δ2 μ2 fun k μ3 =>
        if k = true then Blk X scope fun Y => WE Y elt δ2 μ3 fun y μ4 => ∃ yd, y = .d yd ∧ I (i + 1) (acc ++ [yd]) μ4 else I (i + 1) acc μ3) ∧
      ∀ acc μ', I ds.length acc μ' → ∀ p, Q (.a p) ((p, acc) :: μ')
def LcQg (iv : PyData → Vd) (X : Cx) (scope : Scope) (own : List (Str × Nat)) (elt tg iter : Expr) (ifs : List Expr) (δ : Dl) (μ : Cells) (Q : Vd → Cells → Prop) : Prop :=
  WI X tg iter δ μ fun ds μ1 => ∃ I : Nat → List PyData → Cells → Prop, I 0 [] μ1 ∧ ds.length ≤ 100000 ∧ (∀ i acc μ', I i acc μ' → acc.length ≤ i) ∧
      (∀ i d acc μ', ds[i]? = some d → I i acc μ' → Blk X scope fun Y => WGo Y (own.map (·.2)) tg (iv d) (wipeD δ (own.map (·.2))) μ' fun δ2 μ2 => Blk X scope fun Y => WTs Y ifs δ2 μ2 fun k μ3 =>
        if k = true then Blk X scope fun Y => WE Y elt δ2 μ3 fun y μ4 => (∀ z, y ≠ .w z ∧ ∀ ns, y ≠ .s ns) ∧ I (i + 1) (acc ++ [toC y]) μ4 else I (i + 1) acc μ3) ∧
      ∀ acc μ', I ds.length acc μ' → ∀ p, Q (.a p) ((p, acc) :: μ')
abbrev LcP := LcPg Vd.d
abbrev LcQ := LcQg Vd.d
theorem LcPg.q {iv : PyData → Vd} {elt tg iter : Expr} {ifs : List Expr} {scope : Scope} {own : List (Str × Nat)} (h : LcPg iv X scope own elt tg iter ifs δ μ Q) : LcQg iv X scope own elt tg iter ifs δ μ Q := fun F H σ R RV c =>
  h F H σ R RV fun J ds F1 H1 μ1 w1 R1 wk q => c J ds F1 H1 μ1 w1 R1 wk (by
    obtain ⟨I, h0, hz, hacc, hturn, hend⟩ := q
    refine ⟨I, h0, hz, hacc, fun i d acc μ' hd hI s0 H0 C0 cl0 fp0 F3 H3 σ3 R3 v o3 QV c3 => hturn i d acc μ' hd hI s0 H0 C0 cl0 fp0 F3 H3 σ3 R3 v o3 QV fun F' H' σ' δ' μ' w' R' y' q' => c3 F' H' σ' δ' μ' w' R' y' ?_, hend⟩
    intro s1 H1 C1 cl1 fp1
    have q1 := q' s1 H1 C1 cl1 fp1
    have up : ∀ k μ3, (if k = true then Blk X scope fun Y => WE Y elt δ' μ3 fun y μ4 => ∃ yd, y = .d yd ∧ I (i + 1) (acc ++ [yd]) μ4 else I (i + 1) acc μ3) → if k = true then Blk X scope fun Y => WE Y elt δ' μ3 fun y μ4 => (∀ z, y ≠ .w z ∧ ∀ ns, y ≠ .s ns) ∧ I (i + 1) (acc ++ [toC y]) μ4 else I (i + 1) acc μ3 := fun k μ3 z => by
      cases k with
      | false => exact z
      | true =>
        intro s2 H2 C2 cl2 fp2
        refine (z s2 H2 C2 cl2 fp2).mono fun y μ4 q => ?_
        obtain ⟨yd, rfl, q⟩ := q
        exact ⟨(fun z => ⟨(fun e => by cases e), fun ns e => by cases e⟩), q⟩
    match ifs, q1 with
    | [], q1 => exact up true _ q1
    | [cnd], q1 => exact WT.mono (e := cnd) q1 fun k μ3 z => up k μ3 z
    | _ :: _ :: _, q1 => exact q1.elim)
theorem lc_read {iv : PyData → Vd} {elt tg iter : Expr} {ifs : List Expr} {scope : Scope} {own : List (Str × Nat)} (h : LcQg iv X scope own elt tg iter ifs δ μ Q) (hw : itV iter = iv) {F H : Hp} {σ : L2.St} (R : Rp X.K F H σ δ μ) {QV : VK}
    (c : ∀ v x F' H' μ', Fw (ks μ) (ks μ') F H F' H' → Rp X.K F' H' σ δ μ' → VOk X.K F' x v → Q x μ' → QV v H') : tLc (cI X tg iter) (gB X scope tg) (tB X scope ifs) (eB X scope elt) (own.map (·.2)) σ H QV := by
  subst hw
  refine h F H σ R _ fun J ds F1 H1 μ1 w1 R1 wk q => ?_
  obtain ⟨I, h0, hz, hacc, hturn, hend⟩ := q
  intro L nL
  obtain ⟨m0, w0⟩ := R1.m.cell (ds := []) (vs := []) nL .nil
  have pm : ∀ (μ' : Cells) (acc : List PyData), ((L, Cont.l acc) :: μ').Perm (μ' ++ [(L, Cont.l acc)]) := fun μ' acc => (List.perm_append_singleton (L, Cont.l acc) μ').symm
  refine ⟨fun i m H' => m = ds.length - i ∧ i ≤ ds.length ∧ ∃ F' μ' acc, Fw (ks μ1) (ks (μ' ++ [(L, Cont.l acc)])) F1 H1 F' H' ∧ Rp X.K F' H' σ δ (μ' ++ [(L, Cont.l acc)]) ∧ I i acc μ',
    ⟨_, rfl, Nat.zero_le _, F1, μ1, [], w0.perm (K := X.K) (pm μ1 []), (R1.to w0.f m0).perm (pm μ1 []), h0⟩, ?_⟩
  rintro i m H' ⟨rfl, hi, F', μ', acc, w', R', hI⟩
  by_cases hlt : i < ds.length
  · refine .inr ⟨wk.go i F' H' hlt w'.f R'.m.ex, _, fun _ z => z, fun x H2 y => ?_⟩
    obtain ⟨F2, f1, f2, f3, f4, f5⟩ := wk.yld i F' H' x H2 _ (List.getElem?_eq_getElem hlt) w'.f R'.m.ex y
    obtain ⟨m2, w2⟩ := R'.m.nil_up f1 f2 f3 f4
    have R2 : Rp X.K F2 H2 σ δ (μ' ++ [(L, Cont.l acc)]) := R'.to f1 m2
    have R2l : Rp X.K F2 H2 σ δ μ' := ⟨R2.m.left, R2.len, R2.env⟩
    intro s0 H0 C0 cl0 fp0
    refine hturn i _ acc μ' (List.getElem?_eq_getElem hlt) hI s0 H0 C0 cl0 fp0 F2 H2 _ (R2l.wiped (own.map (·.2))) x f5 _ fun F3 H3 σ3 δ3 μ3 w3 R3 y3 q3 => ⟨y3.wipe, ?_⟩
    obtain ⟨m3, w3'⟩ := R2.m.frame w3 R3.m
    have go : ∀ k F4 H4 μ4, Fw (ks μ3) (ks μ4) F3 H3 F4 H4 → Rp X.K F4 H4 σ3 δ3 μ4 → (if k = true then Blk X scope fun Y => WE Y elt δ3 μ4 fun y μ5 => (∀ z, y ≠ .w z ∧ ∀ ns, y ≠ .s ns) ∧ I (i + 1) (acc ++ [toC y]) μ5 else I (i + 1) acc μ4) →
        if k = true then (Blk X scope fun Y => cE Y elt σ3 H4 fun y H5 => ∃ acc, H5 L = some (.lst acc) ∧ acc.length < sizeLine ∧ (fun H' => ∃ m', m' < ds.length - i ∧ (m' = ds.length - (i + 1) ∧ i + 1 ≤ ds.length ∧ ∃ F' μ' acc, Fw (ks μ1) (ks (μ' ++ [(L, Cont.l acc)])) F1 H1 F' H' ∧ Rp X.K F' H' σ δ (μ' ++ [(L, Cont.l acc)]) ∧ I (i + 1) acc μ')) (upd H5 L (.lst (acc ++ [y])))) else
          (fun H' => ∃ m', m' < ds.length - i ∧ (m' = ds.length - (i + 1) ∧ i + 1 ≤ ds.length ∧ ∃ F' μ' acc, Fw (ks μ1) (ks (μ' ++ [(L, Cont.l acc)])) F1 H1 F' H' ∧ Rp X.K F' H' σ δ (μ' ++ [(L, Cont.l acc)]) ∧ I (i + 1) acc μ')) H4 := by
      intro k F4 H4 μ4 w4 R4 q4
      obtain ⟨m4, w4'⟩ := m3.frame w4 R4.m
      cases k with
      | false => exact ⟨_, by omega, rfl, hlt, F4, μ4, acc, ((w'.trans w2).trans w3').trans w4', (R2.to (w3.f.trans w4.f) m4), q4⟩
      | true =>
        intro s5 H5' C5 cl5 fp5
        refine q4 s5 H5' C5 cl5 fp5 F4 H4 σ3 R4 _ fun v yv F5 H5 μ5 w5 R5 o5 q5' => ?_
        obtain ⟨nw5, q5⟩ := q5'
        obtain ⟨m5, w5'⟩ := m4.frame w5 R5.m
        obtain ⟨fL, vs, hL, gL⟩ := m5.cel L (.l acc) (List.mem_append_right _ List.mem_cons_self)
        have il : (μ5 ++ [(L, Cont.l acc)])[μ5.length]? = some (L, Cont.l acc) := by simp
        obtain ⟨m6, w6⟩ := m5.setCQ (es := acc ++ [toC yv]) il (dqs_app gL (.cons (VOk.toC nw5 o5) .nil))
        have es : (μ5 ++ [(L, Cont.l acc)]).set μ5.length (L, Cont.l (acc ++ [toC yv])) = μ5 ++ [(L, Cont.l (acc ++ [toC yv]))] := by
          rw [List.set_append_right _ _ (Nat.le_refl _), Nat.sub_self]
          rfl
        rw [es] at m6 w6
        refine ⟨vs, hL, ?_, _, by omega, rfl, hlt, F5, μ5, acc ++ [toC yv], ((((w'.trans w2).trans w3').trans w4').trans w5').trans w6, R2.to ((w3.f.trans w4.f).trans w5.f) m6, q5⟩
        rw [dqs_len gL]
        exact Nat.lt_of_le_of_lt (Nat.le_trans (hacc i acc μ' hI) (Nat.le_trans hi hz)) (by decide)
    match ifs, q3 with
    | [], q3 => exact go true F3 H3 μ3 Fw.refl R3 (q3 s0 H0 C0 cl0 fp0)
    | [cnd], q3 => exact fun s4 H4' C4 cl4 fp4 => q3 s4 H4' C4 cl4 fp4 F3 H3 σ3 R3 _ fun k F4 H4 μ4 w4 R4 q4 => go k F4 H4 μ4 w4 R4 q4
    | _ :: _ :: _, q3 => exact (q3 s0 H0 C0 cl0 fp0).elim
  · have e : i = ds.length := by omega
    subst e
    refine .inl ⟨wk.stop F' H' w'.f R'.m.ex, ?_⟩
    have pm' := (pm μ' acc).symm
    exact c _ (.a L) F' H' _ (w1.trans (w'.perm (K := X.K) pm')) (R'.perm pm') rfl (hend acc μ' hI L)
theorem we_lcQ {elt tg iter : Expr} {ifs : List Expr} {scope : Scope} (own : List (Str × Nat)) (hc : X.calm = true) (hN : X.N.Nodup) (ok : BlkOk X.N X.env.scope scope own) (h : LcQ X scope own elt tg iter ifs δ μ Q)
    (hs : ∀ x, foldedSetIterable iter X.env x = pure x := by intro _; rfl) (hw : itV iter = Vd.d := by rfl) : WE X (.ListComp elt [⟨tg, iter, ifs, 0⟩] scope pos) δ μ Q := fun F H σ R QV c =>
  toE (pe_lc hc hN (pcI X tg iter) ok (pgB scope tg) (ptB scope ifs) (peB scope elt) hs) (lc_read h hw R c)
theorem we_lc {elt tg iter : Expr} {ifs : List Expr} {scope : Scope} (own : List (Str × Nat)) (hc : X.calm = true) (hN : X.N.Nodup) (ok : BlkOk X.N X.env.scope scope own) (h : LcP X scope own elt tg iter ifs δ μ Q)
    (hs : ∀ x, foldedSetIterable iter X.env x = pure x := by intro _; rfl) (hw : itV iter = Vd.d := by rfl) : WE X (.ListComp elt [⟨tg, iter, ifs, 0⟩] scope pos) δ μ Q := we_lcQ own hc hN ok h.q hs hw
theorem ws_setLcQ (i : Nat) {y : Str} {py spos : Pos} {elt tg iter : Expr} {ifs : List Expr} {scope : Scope} (own : List (Str × Nat)) (hc : X.calm = true) (hN : X.N.Nodup) (hy : X.N[i]? = some y) (hyl : X.env.scope.names.lookup y = some .local)
    (hsw : swapsWith (.ListComp elt [⟨tg, iter, ifs, 0⟩] scope pos) (some (.Name y py)) spos.line X.env = pure true) (ok : BlkOk X.N X.env.scope scope own) (h : LcQ X scope own elt tg iter ifs δ μ fun v μ1 => D.nx (δ.set i (some v)) μ1)
    (hs : ∀ x, foldedSetIterable iter X.env x = pure x := by intro _; rfl) (hw : itV iter = Vd.d := by rfl) : WS X (.Assign [.Name y py] (.ListComp elt [⟨tg, iter, ifs, 0⟩] scope pos) spos) δ μ D := fun F H σ R De b =>
  toS (ps_setLc hc hN hy hyl hsw (pcI X tg iter) ok (pgB scope tg) (ptB scope ifs) (peB scope elt) hs) (lc_read h hw R fun v x F1 H1 μ1 w1 R1 o1 q => b.nx F1 H1 _ _ μ1 w1 (R1.put i o1) q)
theorem ws_setLc (i : Nat) {y : Str} {py spos : Pos} {elt tg iter : Expr} {ifs : List Expr} {scope : Scope} (own : List (Str × Nat)) (hc : X.calm = true) (hN : X.N.Nodup) (hy : X.N[i]? = some y) (hyl : X.env.scope.names.lookup y = some .local)
    (hsw : swapsWith (.ListComp elt [⟨tg, iter, ifs, 0⟩] scope pos) (some (.Name y py)) spos.line X.env = pure true) (ok : BlkOk X.N X.env.scope scope own) (h : LcP X scope own elt tg iter ifs δ μ fun v μ1 => D.nx (δ.set i (some v)) μ1)
    (hs : ∀ x, foldedSetIterable iter X.env x = pure x := by intro _; rfl) (hw : itV iter = Vd.d := by rfl) : WS X (.Assign [.Name y py] (.ListComp elt [⟨tg, iter, ifs, 0⟩] scope pos) spos) δ μ D := ws_setLcQ i own hc hN hy hyl hsw ok h.q hs hw
theorem we_lcQW {elt tg iter : Expr} {ifs : List Expr} {scope : Scope} (own : List (Str × Nat)) (hc : X.calm = true) (hN : X.N.Nodup) (ok : BlkOk X.N X.env.scope scope own) (h : LcQg Vd.w X scope own elt tg iter ifs δ μ Q)
    (hs : ∀ x, foldedSetIterable iter X.env x = pure x := by intro _; rfl) (hw : itV iter = Vd.w := by rfl) : WE X (.ListComp elt [⟨tg, iter, ifs, 0⟩] scope pos) δ μ Q := fun F H σ R QV c =>
  toE (pe_lc hc hN (pcI X tg iter) ok (pgB scope tg) (ptB scope ifs) (peB scope elt) hs) (lc_read h hw R c)
theorem ws_setLcQW (i : Nat) {y : Str} {py spos : Pos} {elt tg iter : Expr} {ifs : List Expr} {scope : Scope} (own : List (Str × Nat)) (hc : X.calm = true) (hN : X.N.Nodup) (hy : X.N[i]? = some y) (hyl : X.env.scope.names.lookup y = some .local)
    (hsw : swapsWith (.ListComp elt [⟨tg, iter, ifs, 0⟩] scope pos) (some (.Name y py)) spos.line X.env = pure true) (ok : BlkOk X.N X.env.scope scope own) (h : LcQg Vd.w X scope own elt tg iter ifs δ μ fun v μ1 => D.nx (δ.set i (some v)) μ1)
    (hs : ∀ x, foldedSetIterable iter X.env x = pure x := by intro _; rfl) (hw : itV iter = Vd.w := by rfl) : WS X (.Assign [.Name y py] (.ListComp elt [⟨tg, iter, ifs, 0⟩] scope pos) spos) δ μ D := fun F H σ R De b =>
  toS (ps_setLc hc hN hy hyl hsw (pcI X tg iter) ok (pgB scope tg) (ptB scope ifs) (peB scope elt) hs) (lc_read h hw R fun v x F1 H1 μ1 w1 R1 o1 q => b.nx F1 H1 _ _ μ1 w1 (R1.put i o1) q)
theorem we_lcW {elt tg iter : Expr} {ifs : List Expr} {scope : Scope} (own : List (Str × Nat)) (hc : X.calm = true) (hN : X.N.Nodup) (ok : BlkOk X.N X.env.scope scope own) (h : LcPg Vd.w X scope own elt tg iter ifs δ μ Q)
    (hs : ∀ x, foldedSetIterable iter X.env x = pure x := by intro _; rfl) (hw : itV iter = Vd.w := by rfl) : WE X (.ListComp elt [⟨tg, iter, ifs, 0⟩] scope pos) δ μ Q := we_lcQW own hc hN ok h.q hs hw
theorem ws_setLcW (i : Nat) {y : Str} {py spos : Pos} {elt tg iter : Expr} {ifs : List Expr} {scope : Scope} (own : List (Str × Nat)) (hc : X.calm = true) (hN : X.N.Nodup) (hy : X.N[i]? = some y) (hyl : X.env.scope.names.lookup y = some .local)
    (hsw : swapsWith (.ListComp elt [⟨tg, iter, ifs, 0⟩] scope pos) (some (.Name y py)) spos.line X.env = pure true) (ok : BlkOk X.N X.env.scope scope own) (h : LcPg Vd.w X scope own elt tg iter ifs δ μ fun v μ1 => D.nx (δ.set i (some v)) μ1)
    (hs : ∀ x, foldedSetIterable iter X.env x = pure x := by intro _; rfl) (hw : itV iter = Vd.w := by rfl) : WS X (.Assign [.Name y py] (.ListComp elt [⟨tg, iter, ifs, 0⟩] scope pos) spos) δ μ D := ws_setLcQW i own hc hN hy hyl hsw ok h.q hs hw
end
end Ec
set_option Elab.async false
set_option linter.all false
set_option maxRecDepth 100000
set_option maxHeartbeats 4000000
namespace Ec
open PySem PySem.Spec PyProof.Rows L2
structure FnG (P : Program) (w : World) (K : PySem.W.Frag) (mg : Str → Option Value) (base : Heap) (CX : CXT) (k : Nat) (f : Addr) (fd : FuncData) (ps : List Str) (sp : Sp) : Prop where
  len : ∀ vs H Q E, sp vs H Q E → vs.length = ps.length
  run : ∀ (A : Around) (outer : List Env) (s : Shared) (H : Hp) (args : Args) (us : List Value) (vs : List V) (Q : VK) (E : XK), Room k A → A.guards = some [] → Env0 P w K mg base A outer s H → BindsTo s fd args (ps.zip us) → Vals vs us → sp vs H Q E →
    codeAny (model P w) A (.call (.ref f) args) (CR CX outer P w H s Q E) s
section
variable {P : Program} {w : World} {K : PySem.W.Frag} {mg : Str → Option Value} {base : Heap} {CX : CXT} {j k : Nat} {f : Addr} {fd : FuncData} {ps : List Str} {sp sp' : Sp}
theorem FnG.of (F : FnOk P w K mg base CX k f fd ps sp) : FnG P w K mg base CX k f fd ps sp := ⟨F.len, fun A outer s H args us vs Q E hr _ => F.run A outer s H args us vs Q E hr⟩
theorem FnG.mono (F : FnG P w K mg base CX j f fd ps sp) (h : j ≤ k) : FnG P w K mg base CX k f fd ps sp := ⟨F.len, fun A outer s H args us vs Q E hr => F.run A outer s H args us vs Q E (hr.mono h)⟩
theorem FnG.imp (F : FnG P w K mg base CX k f fd ps sp) (h : ∀ vs H Q E, sp' vs H Q E → sp vs H Q E) : FnG P w K mg base CX k f fd ps sp' :=
  ⟨fun vs H Q E q => F.len vs H Q E (h _ _ _ _ q), fun A outer s H args us vs Q E hr hg he hb hv hs => F.run A outer s H args us vs Q E hr hg he hb hv (h _ _ _ _ hs)⟩
theorem FnG.body {N : List Str} {x qual : Str} {st : Stmt} (F : Fun K x qual st f fd) (S : FnScope N ps (defScope st)) (len : ∀ vs H Q E, sp vs H Q E → vs.length = ps.length)
    (hbody : ∀ (cdv : Value) (A : Around) (outer : List Env) (s : Shared) (H : Hp) (vs : List V) (Q : VK) (E : XK), Room k (A.deeper (envOfC qual (defScope st) s.heap.objs.size f cdv)) → A.guards = some [] → sp vs H Q E →
      ∃ t, PSs (cxOf CX P w K mg base N qual (defScope st) f cdv A outer s H E) (defBody st) t ∧ t { nx := fun _ H' => Q .non H', rt := Q } (start N vs) H) : FnG P w K mg base CX (k + 1) f fd ps sp := by
  obtain ⟨oc, od, kV, doc, pm, an, cdv, ct, osl, rfl, lk, hcd⟩ := F.ex
  refine ⟨len, fun A outer s H args us vs Q E hr hg e0 hb r hsp => ?_⟩
  have up : ∀ {b : Addr} {o : Obj}, base.get? b = some o → s.heap.get? b = some o := fun e => (e0.bs _ _ e).1
  have loc : ∀ y ∈ ps.zip us, (defScope st).names.lookup y.1 = some .local ∨ ((defScope st).names.lookup y.1 = some .cell ∧ ((cellsFrom (s.heap.objs.size + 1) (defScope st).names []).lookup y.1).isSome = true) := fun y hy =>
    (S.par y.1 (List.of_mem_zip (a := y.1) (b := y.2) hy).1).imp_right fun q => ⟨q, PySem.W.cellsFrom_some _ _ _ (.inl q)⟩
  refine codeAny_call_function hr.depth (e0.mod.kin.keeps (fun _ _ => up) _ _ lk) rfl S.co S.gen rfl (PySem.W.codeRec_of (e0.mod.kin.keeps fun _ _ => up) hcd) (hb _ _ _ _ (wpAny_newFunctionEnv_cells S.kind loc fun env he s1 x => ?_))
  subst he
  obtain ⟨t, ht, hq⟩ := hbody cdv A outer s H vs Q E (hr.deeper _) hg hsp
  refine ⟨(e0.mod.nolimit.keeps fun _ _ => up).keeps x.toInCall.keep, codeAny_func ?_⟩
  refine wpAny_mono (ht.run [] s1 (start N vs) H _ (inv_start S hr.hd e0 (len _ _ _ _ hsp) r x) hq) (fun fl s' hs => ?_) fun e s' hs => hs
  match fl, hs with
  | .ret u, ⟨v, σ', H', J, rv, q⟩ => exact ⟨v, H', J.os, J.bare, J.base, J.hok, rv, q⟩
  | .next, ⟨σ', H', J, q⟩ => exact ⟨V.non, H', J.os, J.bare, J.base, J.hok, rfl, q⟩
  | .brk, ⟨_, _, _, q⟩ => exact q.elim
  | .cont, ⟨_, _, _, q⟩ => exact q.elim
end
section
variable {X : Cx} {CX : CXT} {k : Nat} {f : Addr} {fd : FuncData} {ps ks : List Str} {sp : Sp} {x : Str} {p pos : Pos} {e : Expr} {es : List Expr} {kws : List Keyword} {t tk : TA} {g : List Value → List Value → List Value} {gV : List V → List V → List V}
theorem run_g {pins : List (Addr × Obj)} {σ : L2.St} {H : Hp} {s : Shared} {Q : VK} {E : XK} {us ws : List Value} {kn : List (Str × Value)} {vs : List V} (F : FnG X.prog X.w X.K X.mg X.base CX k f fd ps sp) (hr : Room k X.A) (hgd : X.A.guards = some []) (hb : BindsTo s fd ⟨us, kn⟩ (ps.zip ws)) (hx : PassesAt CX X σ E)
    (I : Inv X pins σ H s) (r : Vals vs ws) (h : sp vs H Q E) : wpAny (model X.prog X.w) X.A (call (.ref f) us kn) (EP X pins σ Q) X.xe s := by
  refine wpAny_call (codeAny_mono (F.run X.A X.stack s H ⟨us, kn⟩ ws vs Q E hr hgd I.env0 hb r h) fun q s' hq => ?_)
  match q, hq with
  | .error e, hq => exact hx pins H s e s' I hq
  | .ok (.ret u), hq => exact I.after hq
  | .ok .next, hq => exact hq.elim
  | .ok .brk, hq => exact hq.elim
  | .ok .cont, hq => exact hq.elim
theorem pe_callSg {E : L2.St → XK} (F : FnG X.prog X.w X.K X.mg X.base CX k f fd ps sp) (hr : Room k X.A) (hgd : X.A.guards = some []) (hg : Gl X x) (hm : X.mg x = some (.ref f)) (hk : PySem.W.keepIn X.K (.ref f) = true) (hb : Binds X.K fd ps []) (hx : ∀ σ, PassesAt CX X σ (E σ))
    (ha : PA X (e :: es) t) (hdb : (x == ("__debug__" : Str)) = false := by decide) (he : starEach (e :: es) X.env = (false, eval e X.env) :: starEach es X.env := by rfl) (hpl : (backTo pos (starEach es X.env)).any (·.1) = false := by rfl) :
    PE X (.Call (.Name x p) (e :: es) [] pos) (tCallS sp E t) := ⟨fun pins s σ H Q I h =>
  wpAny_Call_Name_kw (ld_glob I hg hm (PySem.W.callWith_K (h₀ := X.base) I.ok.mod.kin hk (thn (ha.run pos pins s σ H _ I h) fun us s1 ⟨vs, H1, I1, r, q⟩ => ⟨I1.kIn, by
    have b := hb s1 us I1.kIn (by rw [List.append_nil, ← r.length]; exact F.len _ _ _ _ q)
    rw [List.append_nil] at b
    exact run_g F hr hgd b (hx σ) I1 r q⟩) he hpl) hdb)⟩
theorem pe_callg {E : XK} (F : FnG X.prog X.w X.K X.mg X.base CX k f fd ps sp) (hr : Room k X.A) (hgd : X.A.guards = some []) (hg : Gl X x) (hm : X.mg x = some (.ref f)) (hk : PySem.W.keepIn X.K (.ref f) = true) (hb : Binds X.K fd ps []) (hx : Passes CX X E)
    (ha : PA X (e :: es) t) (hdb : (x == ("__debug__" : Str)) = false := by decide) (he : starEach (e :: es) X.env = (false, eval e X.env) :: starEach es X.env := by rfl) (hpl : (backTo pos (starEach es X.env)).any (·.1) = false := by rfl) :
    PE X (.Call (.Name x p) (e :: es) [] pos) (fun σ H Q => t σ H fun vs H1 => sp vs H1 Q E) := pe_callSg (E := fun _ => E) F hr hgd hg hm hk hb (fun σ pins H s e s' I h => hx pins σ H s e s' I h) ha hdb he hpl
theorem call_reprD (hgd : X.A.guards = some []) (hu : X.A.units + 64 < cLine) : CallR X (.builtin "repr") (fun xs H Q => ∃ v d, xs = [v] ∧ Dp X.K H v d ∧ d.showable = true ∧ d.hasDict = false ∧ d.depth ≤ 60 ∧ (∃ l, d = .list l ∨ d = .tuple l) ∧ d.shown.length ≤ sizeLine ∧ Q (.str d.shown) H) := by
  intro pins s σ H xs us Q I r h
  obtain ⟨v, d, rfl, hd, h1, h2, h3, ⟨l, h4⟩, h5, q⟩ := h
  cases r with
  | cons rv rn =>
    cases rn
    obtain ⟨as, hr⟩ := Dp.reads I d v _ hd rv
    have key : ∀ {u : Value}, Reads s.heap u d as → ∃ a, u = .ref a := fun {u} z => by
      rcases h4 with rfl | rfl
      · cases z with
        | list _ _ _ _ => exact ⟨_, rfl⟩
      · cases z with
        | tuple _ _ _ _ => exact ⟨_, rfl⟩
    obtain ⟨a, rfl⟩ := key hr
    exact repr_of_reads' hr h1 (fun e => by rw [h2] at e; cases e) hgd (by omega) (fun _ _ e => e) (fun h' u tk hk => ⟨.str d.shown, H, I.kept hk, ⟨u, rfl⟩, q⟩) h5
end
end Ec
set_option Elab.async false
set_option linter.all false
set_option maxRecDepth 100000
set_option maxHeartbeats 4000000
namespace Ec
open PySem PySem.Spec PyProof.Rows L2 RZ
theorem wk_list {K : PySem.W.Frag} {F0 : Hp} {a : Addr} {vs : List V} {ds : List PyData} (h : SqL K F0 a vs) (hd : DeAll K F0 vs ds) : Wk K (Itl K a) F0 Vd.d ds where
  go := fun i F H hi f1 f2 => ⟨vs, vs[i]'(by rw [dps_len hd]; exact hi), f2.seq (f1.seq h), List.getElem?_eq_getElem _⟩
  yld := fun i F H x H' d hi f1 f2 y => by
    obtain ⟨rfl, y⟩ := y
    obtain ⟨v, e1, e2⟩ := dps_get hd hi
    have : v = x := Option.some.inj (e1.symm.trans (y vs (f2.seq (f1.seq h))))
    subst this
    exact ⟨F, Same.refl F, f2, Same.refl _, fun _ z _ => z, dp_up f1 _ _ e2⟩
  stop := fun F H f1 f2 => ⟨vs, f2.seq (f1.seq h), Nat.le_of_eq (dps_len hd)⟩
theorem wk_tup {K : PySem.W.Frag} {F0 : Hp} {a : Addr} {vs : List V} {ds : List PyData} (h : SqT K F0 a vs) (hd : DeAll K F0 vs ds) : Wk K (Itt K a) F0 Vd.d ds where
  go := fun i F H hi f1 f2 => ⟨vs, vs[i]'(by rw [dps_len hd]; exact hi), same_t f2 (same_t f1 h), List.getElem?_eq_getElem _⟩
  yld := fun i F H x H' d hi f1 f2 y => by
    obtain ⟨rfl, y⟩ := y
    obtain ⟨v, e1, e2⟩ := dps_get hd hi
    have : v = x := Option.some.inj (e1.symm.trans (y vs (same_t f2 (same_t f1 h))))
    subst this
    exact ⟨F, Same.refl F, f2, Same.refl _, fun _ z _ => z, dp_up f1 _ _ e2⟩
  stop := fun F H f1 f2 => ⟨vs, same_t f2 (same_t f1 h), Nat.le_of_eq (dps_len hd)⟩
def rangeD (lo : Int) (n : Nat) : List PyData := (List.range n).map fun (i : Nat) => .int (lo + (i : Int))
theorem rangeD_len (lo : Int) (n : Nat) : (rangeD lo n).length = n := by simp [rangeD]
theorem rangeD_get {lo : Int} {n i : Nat} (h : i < n) : (rangeD lo n)[i]? = some (.int (lo + i)) := by
  unfold rangeD
  rw [List.getElem?_map, List.getElem?_range h]
  rfl
theorem wk_range {K : PySem.W.Frag} {F0 : Hp} (lo : Int) (n : Nat) : Wk K (Itr lo n) F0 Vd.d (rangeD lo n) where
  go := fun i F H hi f1 f2 => by rw [rangeD_len] at hi; exact hi
  yld := fun i F H x H' d hi f1 f2 y => by
    obtain ⟨rfl, rfl⟩ := y
    have hl := (List.getElem?_eq_some_iff.mp hi).1
    rw [rangeD_len] at hl
    rw [rangeD_get hl] at hi
    cases hi
    exact ⟨F, Same.refl F, f2, Same.refl _, fun _ z _ => z, .int _⟩
  stop := fun F H f1 f2 => by rw [rangeD_len]; exact Nat.le_refl n
theorem pair_new {K : PySem.W.Frag} {F H : Hp} {T : Addr} {x y : V} {d e : PyData} (f2 : Same F H) (nT : H T = none) (hx : De K F x d) (hy : De K F y e) :
    ∃ F', Same F F' ∧ Same F' (upd H T (.tup [x, y])) ∧ Same H (upd H T (.tup [x, y])) ∧ (∀ b, F b = none → H b ≠ none → F' b = none) ∧ VOk K F' (.w (.tuple [d, e])) (.ref T) := by
  have fT : F T = none := f2.free nT
  refine ⟨upd F T (.tup [x, y]), same_new fT, fun b o z => ?_, same_new nT, fun b z q => ?_, ⟨T, _, _, rfl, rfl, .of upd_same, dps_up (same_new fT) _ _ (.cons hx (.cons hy .nil))⟩⟩
  · by_cases hb : b = T
    · subst hb
      rw [upd_same] at z ⊢
      exact z
    · rw [upd_ne hb] at z ⊢
      exact f2 b o z
  · rw [upd_ne]
    · exact z
    · intro w
      exact q (w ▸ nT)
def enumD (ds : List PyData) : List PyData := ds.mapIdx fun (i : Nat) d => .tuple [.int (i : Int), d]
theorem enumD_len (ds : List PyData) : (enumD ds).length = ds.length := by simp [enumD]
theorem enumD_get {ds : List PyData} {i : Nat} {x : PyData} (h : (enumD ds)[i]? = some x) : ∃ d, ds[i]? = some d ∧ x = .tuple [.int (i : Int), d] := by
  unfold enumD at h
  rw [List.getElem?_mapIdx] at h
  cases q : ds[i]? with
  | none =>
    rw [q] at h
    cases h
  | some d =>
    rw [q] at h
    cases h
    exact ⟨d, rfl, rfl⟩
theorem wk_enum {K : PySem.W.Frag} {F0 : Hp} {a : Addr} {vs : List V} {ds : List PyData} (h : SqL K F0 a vs) (hd : DeAll K F0 vs ds) : Wk K (Ite K a) F0 Vd.w (enumD ds) where
  go := fun i F H hi f1 f2 => ⟨vs, vs[i]'(by rw [dps_len hd]; rw [enumD_len] at hi; exact hi), f2.seq (f1.seq h), List.getElem?_eq_getElem _⟩
  yld := fun i F H x H' d hi f1 f2 y => by
    obtain ⟨T, x0, rfl, nT, rfl, y⟩ := y
    obtain ⟨d0, e0, rfl⟩ := enumD_get hi
    obtain ⟨v, e1, e2⟩ := dps_get hd e0
    have : v = x0 := Option.some.inj (e1.symm.trans (y vs (f2.seq (f1.seq h))))
    subst this
    exact pair_new f2 nT (.int _) (dp_up f1 _ _ e2)
  stop := fun F H f1 f2 => ⟨vs, f2.seq (f1.seq h), by rw [enumD_len]; exact Nat.le_of_eq (dps_len hd)⟩
def ItEt (K : PySem.W.Frag) (a : Addr) : It :=
  ⟨fun i H => ∃ (ys : List V) (y : V), SqT K H a ys ∧ ys[i]? = some y, fun i H v H' => ∃ T y, v = .ref T ∧ H T = none ∧ H' = upd H T (.tup [.int (i : Nat), y]) ∧ ∀ ys, SqT K H a ys → ys[i]? = some y, fun i H => ∃ ys : List V, SqT K H a ys ∧ i = ys.length⟩
theorem wk_enumT {K : PySem.W.Frag} {F0 : Hp} {a : Addr} {vs : List V} {ds : List PyData} (h : SqT K F0 a vs) (hd : DeAll K F0 vs ds) : Wk K (ItEt K a) F0 Vd.w (enumD ds) where
  go := fun i F H hi f1 f2 => ⟨vs, vs[i]'(by rw [dps_len hd]; rw [enumD_len] at hi; exact hi), same_t f2 (same_t f1 h), List.getElem?_eq_getElem _⟩
  yld := fun i F H x H' d hi f1 f2 y => by
    obtain ⟨T, x0, rfl, nT, rfl, y⟩ := y
    obtain ⟨d0, e0, rfl⟩ := enumD_get hi
    obtain ⟨v, e1, e2⟩ := dps_get hd e0
    have : v = x0 := Option.some.inj (e1.symm.trans (y vs (same_t f2 (same_t f1 h))))
    subst this
    exact pair_new f2 nT (.int _) (dp_up f1 _ _ e2)
  stop := fun F H f1 f2 => ⟨vs, same_t f2 (same_t f1 h), by rw [enumD_len]; exact (dps_len hd).symm⟩
theorem turn_enumT {P : Program} {w : World} {K : PySem.W.Frag} {elts : List Expr} {kk : Nat} {tpos : Pos} (a e it : Addr) :
    Turn P w K (.Tuple elts kk tpos) (ItEt K a) [e, it] e (fun i h => (∃ old, IsEnum h e it ((i : Nat) : Int) old) ∧ h.IsTupleIter it a i ∧ e ≠ it ∧ e ≠ a ∧ it ≠ a) where
  mem := List.mem_cons_self
  obj := fun i h st b hb => by
    obtain ⟨⟨old, he⟩, ⟨o, ho, hc, hd⟩, _⟩ := st
    rcases List.mem_cons.mp hb with z | z
    · exact ⟨_, z ▸ he, fun v q => by cases q⟩
    · have z' : b = it := by simpa using z
      exact ⟨o, z' ▸ ho, fun v q => by rw [hd] at q; cases q⟩
  keep := fun i h h' st k => by
    obtain ⟨⟨old, he⟩, hi, ne⟩ := st
    exact ⟨⟨old, k e List.mem_cons_self _ he⟩, hi.at fun o q => k it (by simp) o q, ne⟩
  item := by
    intro X hP hw hK hc i pins s σ H E I hf st hg
    subst hP hw hK
    obtain ⟨⟨old, he⟩, hit, hne, ha1, ha2⟩ := st
    obtain ⟨ys, y, hq, hy⟩ := hg
    obtain ⟨its, rv, p, hz⟩ := I.tuple hq
    obtain ⟨u, hu, ru⟩ := rv.get hy
    have hel : e < s.heap.objs.size := Heap.lt_size he
    have hil : it < s.heap.objs.size := by
      obtain ⟨_, q, _⟩ := hit
      exact Heap.lt_size q
    have hlen : i < its.toArray.size := by
      have := (List.getElem?_eq_some_iff.mp hu).1
      simpa using this
    refine wpAny_pyNext_enum_itemC (Draws.tuple (A := X.A.in1) (show X.A.in1.handled = none from I.ok.hd hc) it a (Ne.symm ha2) its.toArray) he ⟨hit, p⟩ hlen hne (by simp [hne, ha1]) fun x h' tk hx ho hst hT hsz hk => ?_
    have xu : x = u := by
      have h1 : its[i]? = some x := by simpa using hx
      exact Option.some.inj (h1.symm.trans hu)
    subst xu
    refine ⟨_, rfl, wpAny_letOwnedTupleGo_enum (s := { s with heap := h', toks := tk + 1 }) ho fun h'' he' sb => ?_⟩
    have hT2 : h''.get? s.heap.objs.size = some { cls := .type "tuple", data := .seq #[.int i tk, x] } := (sb.2 _ (Nat.ne_of_gt hel)).trans hT
    have new : ObjOk X.prog X.w (upd H s.heap.objs.size (.tup [.int (i : Nat), y])) h'' s.heap.objs.size (.tup [.int (i : Nat), y]) :=
      ⟨by show 2 ≤ sizeLine; decide, [.int i tk, x], .cons ⟨_, rfl⟩ (.cons ru .nil), ⟨_, hT2, rfl, _, rfl⟩⟩
    have J : Inv X pins σ (upd H s.heap.objs.size (.tup [.int (i : Nat), y])) { s with heap := h'', toks := tk + 1 } :=
      I.turnedNew (ch := [e, it]) (fun b ob hb q => (sb.2 b (fun z => hb (z ▸ List.mem_cons_self))).trans (hk b ob (fun z => hb (z ▸ List.mem_cons_self)) (fun z => hb (by simp [z])) q)) hf (Nat.le_refl _) new
    refine ⟨.ref s.heap.objs.size, _, J, rfl, ⟨_, y, rfl, I.hok.fresh (Nat.le_refl _), rfl, fun zs hzs => by rw [I.tuple_inj hzs hq]; exact hy⟩, ⟨⟨x, ?_⟩, hst.1.at fun o q => (sb.2 it (Ne.symm hne)).trans q, hne, ha1, ha2⟩, fun b hb => ?_⟩
    · rw [show ((i + 1 : Nat) : Int) = (i : Int) + 1 by omega]
      exact he'
    · have hb' : b < s.heap.objs.size := by
        rcases List.mem_cons.mp hb with z | z
        · exact z ▸ hel
        · have z' : b = it := by simpa using z
          exact z' ▸ hil
      rw [upd_ne (Nat.ne_of_lt hb')]
      exact (hf b hb).1
  done := by
    intro X hP hw hK hc i pins s σ H E I hf st hg
    subst hP hw hK
    obtain ⟨⟨old, he⟩, hit, hne, ha1, ha2⟩ := st
    obtain ⟨ys, hq, hy⟩ := hg
    obtain ⟨its, rv, p, hz⟩ := I.tuple hq
    obtain ⟨f0, f1, f2, f3, f4, f5⟩ := hf it (by simp)
    have hl : i = its.toArray.size := by
      have := rv.length
      simp only [List.size_toArray]
      omega
    subst hl
    exact wpAny_pyNext_enum_endD (Draws.tuple (A := X.A.in1) (show X.A.in1.handled = none from I.ok.hd hc) it a (Ne.symm ha2) its.toArray) he ⟨hit, p⟩ fun h' eb => ⟨rfl, I.turned (t' := s.toks) (fun b o hb q => eb b o hb q) f0 f1 f3 f4 f5⟩
  self := fun A i s Q E st h => by
    obtain ⟨⟨old, he⟩, _⟩ := st
    exact wpAny_pyIter_enum he h
theorem meets_enum1 {v : Value} {o : Obj} {H : Heap → Prop} (B : Begins v o H) :
    Meets (Builtin.«enumerate.__new__» ⟨[.type "enumerate", v], []⟩) (fun _ R s => H s.heap ∧
      R (.ok (.ret (.ref (s.heap.push o).objs.size))) { s with heap := (s.heap.push o).push { cls := .type "enumerate", data := .fields #[.none, .bool false, .ref s.heap.objs.size, rawInt 0, .none, .none] } }) :=
  .of_wp fun prog w A R s h => by
    obtain ⟨hp, g, d, tk, os⟩ := s
    obtain ⟨h1, h⟩ := h
    have hsub := sub_enumerate
    have step : ∀ {A' : Around} {E : Value → Shared → Prop} {Q : Value → Shared → Prop}, Q (.ref hp.objs.size) ⟨hp.push o, g, d, tk, os⟩ → wpAny (model prog w) A' (pyIter v) Q E ⟨hp, g, d, tk, os⟩ := fun q => B.iter prog w _ _ ⟨hp, g, d, tk, os⟩ _ h1 q
    wp_walk using step
    refine wpAny_stack_any fun st => wpAny_pure ?_
    split
    · rename_i c _ _ _ _ _
      cases (c == Value.type "enumerate")
      · wp_walk using step
        exact ⟨_, rfl, h⟩
      · wp_walk using step
        exact ⟨_, rfl, h⟩
    · wp_walk using step
      exact ⟨_, rfl, h⟩
theorem call_enum1 {prog : Program} {w : World} {A : Around} {E : Value → Shared → Prop} {s : Shared} {v : Value} {o : Obj} {H : Heap → Prop} {Q : Value → Shared → Prop} (B : Begins v o H) (h1 : H s.heap)
    (h : ∀ h', IsEnum h' (s.heap.objs.size + 1) s.heap.objs.size 0 .none → h'.get? s.heap.objs.size = some o → (∀ b u, s.heap.get? b = some u → h'.get? b = some u) → Q (.ref (s.heap.objs.size + 1)) { s with heap := h' }) :
    wpAny (model prog w) A (call (.type "enumerate") [v]) Q E s := by
  refine callType_new F.called_enumerate (by decide) (F.typeCall_enumerate_1 _) (F.newCall_enumerate_1 _) (fun obj => F.args_object_init_2 obj _) F.entry_enumerate_new (meets_enum1 B) ⟨h1, ?_⟩
  have hz : (s.heap.push o).objs.size = s.heap.objs.size + 1 := Heap.size_push ..
  show _ ∧ _
  rw [hz]
  have he := Heap.get?_push_size (s.heap.push o) (o := { cls := .type "enumerate", data := .fields #[.none, .bool false, .ref s.heap.objs.size, rawInt 0, .none, .none] }) rfl
  rw [hz] at he
  exact ⟨⟨_, he, rfl⟩, h _ he (Heap.get?_push_of_some _ (Heap.get?_push_size _ B.free)) fun b u x => Heap.get?_push_of_some _ (Heap.get?_push_of_some _ x)⟩
def iEnS (K : PySem.W.Frag) (ta : TA) : TI := fun σ H R => ta σ H fun vs H1 => ∃ a xs, vs = [.ref a] ∧ ((SqL K H1 a xs ∧ R (Ite K a) H1) ∨ (SqT K H1 a xs ∧ R (ItEt K a) H1))
theorem pi_enS {X : Cx} {e : Expr} {ta : TA} {p pos tpos : Pos} {elts : List Expr} {kk : Nat} (hg : Gl X "enumerate") (hm : X.mg "enumerate" = none) (ha : PA X [e] ta) (hs : starEach [e] X.env = [(false, eval e X.env)] := by rfl) :
    PI X (.Tuple elts kk tpos) (.Call (.Name "enumerate" p) [e] [] pos) (iEnS X.K ta) := by
  refine ⟨fun pins s σ H R I h => Call_ (ld_blt I hg hm boot_enumerate (PyProof.Rows.callWith_type1 (thn (ha.run pos pins s σ H _ I h) fun us s1 h1 => ?_) hs rfl))⟩
  obtain ⟨vs, H1, J, r1, a, xs, rfl, q⟩ := h1
  obtain ⟨u, rfl, ru⟩ := vals1 r1
  cases (show u = Value.ref a from ru)
  have fresh : ∀ b ∈ [s1.heap.objs.size + 1, s1.heap.objs.size], FpOk X pins H1 b := fun b hb => by
    have hle : s1.heap.objs.size ≤ b := by
      rcases List.mem_cons.mp hb with z | z
      · rw [z]
        exact Nat.le_succ _
      · have z' : b = s1.heap.objs.size := by simpa using z
        exact Nat.le_of_eq z'.symm
    exact J.fpOk hle (J.hok.fresh hle)
  rcases q with ⟨hq, q⟩ | ⟨hq, q⟩
  · obtain ⟨its, rv, p', hz⟩ := J.list hq
    refine call_enum1 (begins_list a its.toArray) p'.isList fun h' he hit hk => wpAny_pyIter_enum he ?_
    exact ⟨s1.heap.objs.size + 1, [s1.heap.objs.size + 1, s1.heap.objs.size], _, _, H1, rfl, J.kept (t' := s1.toks) hk, turn_enum a _ _, ⟨⟨.none, he⟩, ⟨_, hit, rfl, rfl⟩, Nat.succ_ne_self _⟩, fresh, q⟩
  · obtain ⟨its, rv, p', hz⟩ := J.tuple hq
    obtain ⟨o1, ho1, _⟩ := id p'
    have al : a < s1.heap.objs.size := Heap.lt_size ho1
    refine call_enum1 (begins_tuple a its.toArray) (show s1.heap.IsTuple a its.toArray from p') fun h' he hit hk => wpAny_pyIter_enum he ?_
    exact ⟨s1.heap.objs.size + 1, [s1.heap.objs.size + 1, s1.heap.objs.size], _, _, H1, rfl, J.kept (t' := s1.toks) hk, turn_enumT a _ _, ⟨⟨.none, he⟩, ⟨_, hit, rfl, rfl⟩, Nat.succ_ne_self _, Nat.ne_of_gt (Nat.lt_succ_of_lt al), Nat.ne_of_gt al⟩, fresh, q⟩
def iSeqS (K : PySem.W.Frag) (tl : TE) : TI := fun σ H R => tl σ H fun x H1 => ∃ a xs, x = .ref a ∧ ((SqL K H1 a xs ∧ R (Itl K a) H1) ∨ (SqT K H1 a xs ∧ R (Itt K a) H1))
theorem pi_seqS {X : Cx} {tg l : Expr} {tl : TE} (hl : PE X l tl) : PI X tg l (iSeqS X.K tl) := by
  refine ⟨fun pins s σ H R I h => thn (hl.run pins s σ H _ I h) fun v s1 h1 => ?_⟩
  obtain ⟨x, H1, J, r1, a, xs, rfl, q⟩ := h1
  cases (show v = Value.ref a from r1)
  have fresh : ∀ b ∈ [s1.heap.objs.size], FpOk X pins H1 b := fun b hb => by
    have z : b = s1.heap.objs.size := by simpa using hb
    rw [z]
    exact J.fpOk (Nat.le_refl _) (J.hok.fresh (Nat.le_refl _))
  rcases q with ⟨hq, q⟩ | ⟨hq, q⟩
  · obtain ⟨its, rv, p, hz⟩ := J.list hq
    exact wpAny_pyIter_list p.isList ⟨s1.heap.objs.size, [s1.heap.objs.size], _, _, H1, rfl, J.kept (t' := s1.toks) fun b o e => Heap.get?_push_of_some _ e, turn_list a _, ⟨_, Heap.get?_push_size _ rfl, rfl, rfl⟩, fresh, q⟩
  · obtain ⟨its, rv, p, hz⟩ := J.tuple hq
    exact wpAny_pyIter_tuple (show s1.heap.IsTuple a its.toArray from p) ⟨s1.heap.objs.size, [s1.heap.objs.size], _, _, H1, rfl, J.kept (t' := s1.toks) fun b o e => Heap.get?_push_of_some _ e, turn_tuple a _, ⟨_, Heap.get?_push_size _ rfl, rfl, rfl⟩, fresh, q⟩
section
variable {X : Cx} {δ : Dl} {μ : Cells} {e a b tg : Expr} {pos p : Pos} {Q : Vd → Cells → Prop} {D : Dn} {QI : List PyData → Cells → Prop}
inductive Seqd : Vd → List PyData → Prop
  | l (ds : List PyData) : Seqd (.d (.list ds)) ds
  | t (ds : List PyData) : Seqd (.d (.tuple ds)) ds
theorem wi_seq (h : WE X e δ μ fun x μ1 => ∃ ds, Seqd x ds ∧ QI ds μ1) (hw : itV e = Vd.d := by rfl) : WI X tg e δ μ QI := fun F H σ R RV c =>
  toI (pi_seqS (pcE X e)) (h F H σ R _ fun v x F1 H1 μ1 w1 R1 o1 q => by
    obtain ⟨ds, sx, q⟩ := q
    cases sx with
    | l =>
      obtain ⟨a, vs, rfl, hs, hd⟩ := dp_lst o1
      exact ⟨a, vs, rfl, .inl ⟨R1.m.ex.seq hs, c _ ds F1 H1 μ1 w1 R1 (by rw [hw]; exact wk_list hs hd) q⟩⟩
    | t =>
      obtain ⟨a, vs, rfl, hs, hd⟩ := dp_tup o1
      exact ⟨a, vs, rfl, .inr ⟨same_t R1.m.ex hs, c _ ds F1 H1 μ1 w1 R1 (by rw [hw]; exact wk_tup hs hd) q⟩⟩)
theorem wi_range1 (hg : Gl X "range") (hm : X.mg "range" = none) (h : WA X [a] δ μ fun xs μ1 => ∃ n : Int, xs = [.d (.int n)] ∧ -100000 ≤ n ∧ n ≤ 100000 ∧ QI (rangeD 0 n.toNat) μ1) (hs : starEach [a] X.env = [(false, eval a X.env)] := by rfl) :
    WI X tg (.Call (.Name "range" p) [a] [] pos) δ μ QI := fun F H σ R RV c =>
  toI (pi_range1 hg hm (pcA X [a]) hs) (h F H σ R _ fun vs xs F1 H1 μ1 w1 R1 o1 q => by
    obtain ⟨n, rfl, h1, h2, q⟩ := q
    cases o1 with
    | cons r rr =>
      cases rr
      exact ⟨n, by rw [dp_int r], by omega, by omega, c _ _ F1 H1 μ1 w1 R1 (wk_range 0 n.toNat) q⟩)
theorem wi_range2 (hg : Gl X "range") (hm : X.mg "range" = none) (h : WA X [a, b] δ μ fun xs μ1 => ∃ m n : Int, xs = [.d (.int m), .d (.int n)] ∧ -100000 ≤ m ∧ m ≤ 100000 ∧ -100000 ≤ n ∧ n ≤ 100000 ∧ QI (rangeD m (n - m).toNat) μ1)
    (hs : starEach [a, b] X.env = [(false, eval a X.env), (false, eval b X.env)] := by rfl) (hs2 : starEach [b] X.env = [(false, eval b X.env)] := by rfl) :
    WI X tg (.Call (.Name "range" p) [a, b] [] pos) δ μ QI := fun F H σ R RV c =>
  toI (pi_range2 hg hm (pcA X [a, b]) hs hs2) (h F H σ R _ fun vs xs F1 H1 μ1 w1 R1 o1 q => by
    obtain ⟨m, n, rfl, h1, h2, h3, h4, q⟩ := q
    cases o1 with
    | cons r rr =>
      cases rr with
      | cons r2 rr =>
        cases rr
        exact ⟨m, n, by rw [dp_int r, dp_int r2], ⟨by omega, by omega, by omega, by omega⟩, c _ _ F1 H1 μ1 w1 R1 (wk_range m (n - m).toNat) q⟩)
theorem wi_enum {elts : List Expr} {kk : Nat} {tpos : Pos} (hg : Gl X "enumerate") (hm : X.mg "enumerate" = none) (h : WA X [a] δ μ fun xs μ1 => ∃ x ds, xs = [x] ∧ Seqd x ds ∧ QI (enumD ds) μ1) (hs : starEach [a] X.env = [(false, eval a X.env)] := by rfl) :
    WI X (.Tuple elts kk tpos) (.Call (.Name "enumerate" p) [a] [] pos) δ μ QI := fun F H σ R RV c =>
  toI (pi_enS hg hm (pcA X [a]) hs) (h F H σ R _ fun vs xs F1 H1 μ1 w1 R1 o1 q => by
    obtain ⟨x, ds, rfl, sx, q⟩ := q
    cases o1 with
    | cons r rr =>
      cases rr
      cases sx with
      | l =>
        obtain ⟨a, vs, rfl, hs, hd⟩ := dp_lst r
        exact ⟨a, vs, rfl, .inl ⟨R1.m.ex.seq hs, c _ _ F1 H1 μ1 w1 R1 (wk_enum hs hd) q⟩⟩
      | t =>
        obtain ⟨a, vs, rfl, hs, hd⟩ := dp_tup r
        exact ⟨a, vs, rfl, .inr ⟨same_t R1.m.ex hs, c _ _ F1 H1 μ1 w1 R1 (wk_enumT hs hd) q⟩⟩)
abbrev TrD := List Vd → Cells → (Vd → Cells → Prop) → Prop
def spW (K : PySem.W.Frag) (T : TrD) : Sp := fun vs H Q _ => ∃ F xs μ R, RpM K F H μ ∧ VAll K F xs vs ∧ T xs μ R ∧ ∀ v x F' H' μ', Fw (ks μ) (ks μ') F H F' H' → RpM K F' H' μ' → VOk K F' x v → R x μ' → Q v H'
def Cal (P : Program) (w : World) (K : PySem.W.Frag) (mg : Str → Option Value) (base : Heap) (k : Nat) (x : Str) (T : TrD) : Prop :=
  ∃ f fd ps, FnG P w K mg base CX0 k f fd ps (spW K T) ∧ mg x = some (.ref f) ∧ PySem.W.keepIn K (.ref f) = true ∧ Binds K fd ps []
theorem we_call {T : TrD} {k : Nat} {x : Str} {es : List Expr} (c : Cal X.prog X.w X.K X.mg X.base k x T) (hr : Room k X.A) (hg : Gl X x) (h : WA X (e :: es) δ μ fun xs μ1 => ∃ μc μr, μ1 = μc ++ μr ∧ T xs μc fun z μ' => Q z (μ' ++ μr)) (hgd : X.A.guards = some [])
    (hdb : (x == ("__debug__" : Str)) = false := by decide) (he : starEach (e :: es) X.env = (false, eval e X.env) :: starEach es X.env := by rfl) (hpl : (backTo pos (starEach es X.env)).any (·.1) = false := by rfl) :
    WE X (.Call (.Name x p) (e :: es) [] pos) δ μ Q := fun F H σ R QV kk => by
  obtain ⟨f, fd, ps, ok, hm, hk, hb⟩ := c
  refine toE (pe_callg ok hr hgd hg hm hk hb pass0 (pcA X (e :: es)) hdb he hpl) (h F H σ R _ fun vs xs F1 H1 μ1 w1 R1 o1 q => ?_)
  obtain ⟨μc, μr, rfl, q⟩ := q
  refine ⟨F1, xs, μc, _, R1.m.left, o1, q, fun v z F2 H2 μ2 w2 m2 o2 q2 => ?_⟩
  obtain ⟨m3, w3⟩ := R1.m.frame w2 m2
  exact kk v z F2 H2 _ (w1.trans w3) (R1.to w2.f m3) o2 q2
def startD (N : List Str) (xs : List Vd) : Dl := xs.map some ++ List.replicate (N.length - xs.length) none
def Keep (μ' : Cells) (Φ : Cells → Prop) : Prop := ∃ μg μk, μ'.Perm (μg ++ μk) ∧ Φ μk
theorem keep {μ : Cells} {Φ : Cells → Prop} (h : Φ μ) : Keep μ Φ := ⟨[], μ, List.Perm.refl _, h⟩
theorem keep_drop {μ : Cells} {Φ : Cells → Prop} {y : Addr × Cont} (h : Keep μ Φ) : Keep (y :: μ) Φ := by
  obtain ⟨g, k, p, h⟩ := h
  exact ⟨y :: g, k, p.cons y, h⟩
theorem keep_all {μ : Cells} {Φ : Cells → Prop} (h : Φ []) : Keep μ Φ := ⟨μ, [], by rw [List.append_nil], h⟩
theorem keep_perm {μ μ' : Cells} {Φ : Cells → Prop} (p : μ.Perm μ') (h : Keep μ' Φ) : Keep μ Φ := by
  obtain ⟨g, k, q, h⟩ := h
  exact ⟨g, k, p.trans q, h⟩
theorem RpM.kept {K : PySem.W.Frag} {F H F' H' : Hp} {μ μ' : Cells} {Φ : Cells → Prop} (w : Fw (ks μ) (ks μ') F H F' H') (r : RpM K F' H' μ') (h : Keep μ' Φ) : ∃ μk, Fw (ks μ) (ks μk) F H F' H' ∧ RpM K F' H' μk ∧ Φ μk := by
  obtain ⟨g, k, p, h⟩ := h
  refine ⟨k, (w.perm (K := K) p).sub (fun _ z => z) (fun x m => .inl (by rw [ks_app]; exact List.mem_append_right _ m)), (r.perm (p.trans List.perm_append_comm)).left, h⟩
theorem wb_drop {y : Addr × Cont} {sts : List Stmt} (h : WB X sts δ μ D) : WB X sts δ (y :: μ) D := fun F H σ R De b => by
  have R' : Rp X.K F H σ δ μ := ⟨⟨R.m.ex, (List.nodup_cons.mp R.m.nd).2, fun b ds m => R.m.cel b ds (List.mem_cons_of_mem _ m)⟩, R.len, R.env⟩
  have w : Fw (ks (y :: μ)) (ks μ) F H F H := Fw.refl.sub (fun _ h => h) fun x m => .inl (List.mem_cons_of_mem _ m)
  exact h F H σ R' De (b.next w)
theorem wb_nilK (h : Keep μ fun μ' => D.nx δ μ') : WB X [] δ μ D := fun F H σ R De b => by
  obtain ⟨g, k, p, h⟩ := h
  have R2 := R.perm (p.trans List.perm_append_comm)
  have R' : Rp X.K F H σ δ k := ⟨R2.m.left, R.len, R.env⟩
  have w : Fw (ks μ) (ks k) F H F H := Fw.refl.sub (fun _ h => h) fun x m => .inl ((p.map Prod.fst).mem_iff.mpr (by rw [show (g ++ k).map Prod.fst = ks g ++ ks k from ks_app g k]; exact List.mem_append_right _ m))
  exact toB pss_nil (b.nx F H σ δ k w R' h)
def bX (P : Program) (w : World) (K : PySem.W.Frag) (mg : Str → Option Value) (base : Heap) (N : List Str) (qual : Str) (sc : Scope) (f : Addr) (cdv : Value) (A : Around) (outer : List Env) (s : Shared) (H : Hp) (E : XK) : Cx := (cxOf CX0 P w K mg base N qual sc f cdv A outer s H E).nox
theorem fn_w {P : Program} {w : World} {K : PySem.W.Frag} {mg : Str → Option Value} {base : Heap} {x qual : Str} {st : Stmt} {f : Addr} {fd : FuncData} {N ps : List Str} {k : Nat} {T : TrD} (F : Fun K x qual st f fd) (S : FnScope N ps (defScope st))
    (hN : ps.length ≤ N.length) (len : ∀ xs μ R, T xs μ R → xs.length = ps.length)
    (body : ∀ (cdv : Value) (A : Around) (outer : List Env) (s : Shared) (H : Hp) (E : XK), Room k (bX P w K mg base N qual (defScope st) f cdv A outer s H E).A → (bX P w K mg base N qual (defScope st) f cdv A outer s H E).A.guards = some [] → ∀ xs μ R, T xs μ R →
      WB (bX P w K mg base N qual (defScope st) f cdv A outer s H E) (defBody st) (startD N xs) μ { nx := fun _ μ' => Keep μ' (R (.d .none)), rt := fun z μ' => Keep μ' (R z) }) : FnG P w K mg base CX0 (k + 1) f fd ps (spW K T) := by
  refine FnG.body F S (fun vs H Q E h => ?_) (fun cdv A outer s H vs Q E hr hgd h => ?_)
  · obtain ⟨G, xs, μ, R, _, ha, hT, _⟩ := h
    rw [← Paired.length ha]
    exact len _ _ _ hT
  · obtain ⟨G, xs, μ, R, m, ha, hT, c⟩ := h
    have el : xs.length = vs.length := Paired.length ha
    refine ⟨_, (pcB (bX P w K mg base N qual (defScope st) f cdv A outer s H E) _).nox, body cdv A outer s H E hr hgd xs μ R hT G H (start N vs) ⟨m, ?_, fun i y hy => ?_⟩ _ ⟨fun F' H' σ' δ' μ' w' R' q => by
      obtain ⟨k', w2, m2, q⟩ := RpM.kept w' R'.m q
      exact c _ (.d .none) F' H' k' w2 m2 .non q, fun v z F' H' μ' w' m' o' q => by
      obtain ⟨k', w2, m2, q⟩ := RpM.kept w' m' q
      exact c v z F' H' k' w2 m2 o' q, fun _ _ _ _ _ _ _ q => q.elim, fun _ _ _ _ _ _ _ q => q.elim⟩⟩
    · show (L2.start N vs).length = (startD N xs).length
      simp [L2.start, startD, el]
    · have get : ∀ {xs : List Vd} {vs : List V}, VAll K G xs vs → ∀ {i : Nat} {y : Vd}, xs[i]? = some y → ∃ v, vs[i]? = some v ∧ VOk K G y v := by
        intro xs vs h
        induction h with
        | nil => intro i y e; simp at e
        | cons h1 _ ih =>
          intro i y e
          cases i with
          | zero =>
            simp at e
            subst e
            exact ⟨_, rfl, h1⟩
          | succ i => exact ih (by simpa using e)
      unfold startD at hy
      unfold L2.start
      by_cases hi : i < xs.length
      · rw [List.getElem?_append_left (by simpa using hi), List.getElem?_map] at hy
        cases q : xs[i]? with
        | none =>
          rw [q] at hy
          cases hy
        | some z =>
          rw [q] at hy
          cases hy
          obtain ⟨v, e1, e2⟩ := get ha q
          exact ⟨v, by rw [List.getElem?_append_left (by simp; omega), List.getElem?_map, e1]; rfl, e2⟩
      · rw [List.getElem?_append_right (by simp; omega)] at hy
        have := List.mem_of_getElem? hy
        rw [List.mem_replicate] at this
        cases this.2
theorem cal_of {P : Program} {w : World} {K : PySem.W.Frag} {mg : Str → Option Value} {base : Heap} {x : Str} {f : Addr} {fd : FuncData} {ps : List Str} {k : Nat} {T : TrD} (ok : FnG P w K mg base CX0 k f fd ps (spW K T)) (g : mg x = some (.ref f)) (kp : PySem.W.keepIn K (.ref f) = true) (b : Binds K fd ps []) :
    Cal P w K mg base k x T := ⟨f, fd, ps, ok, g, kp, b⟩
end
end Ec
set_option Elab.async false
set_option linter.all false
set_option maxRecDepth 100000
set_option maxHeartbeats 4000000
namespace Ec
open PySem PySem.Spec PyProof.Rows L2
section
variable {K : PySem.W.Frag} {μ : Cells} {Q : Vd → Cells → Prop}
inductive Ct (μ : Cells) : Vd → List PyData → Prop
  | l (ds : List PyData) : Ct μ (.d (.list ds)) ds
  | t (ds : List PyData) : Ct μ (.d (.tuple ds)) ds
  | s (ns : List Int) {ds : List PyData} (e : ds = intsD ns := by rfl) : Ct μ (.s ns) ds
  | c (i : Nat) {p : Addr} {ds : List PyData} (h : μ[i]? = some (p, (ds : Cont))) (pl : plS ds := by repeat' first | exact plS_nil | exact plS_map (fun _ => rfl) | refine plS_app ?_ ?_ | refine plS_cons rfl ?_ | assumption) : Ct μ (.a p) ds
theorem Ct.x (ds : List PyData) : Ct μ (.x ds) ds := .t ds
theorem ct_ok {F H : Hp} {x : Vd} {v : V} {ds : List PyData} (m : RpM K F H μ) (o : VOk K F x v) (h : Ct μ x ds) : ∃ a vs, v = .ref a ∧ (SqL K H a vs ∨ SqT K H a vs) ∧ DeAll K F vs ds := by
  cases h with
  | l =>
    obtain ⟨a, vs, e, hs, hd⟩ := dp_lst o
    exact ⟨a, vs, e, .inl (m.ex.seq hs), hd⟩
  | t =>
    obtain ⟨a, vs, e, hs, hd⟩ := dp_tup o
    exact ⟨a, vs, e, .inr (same_t m.ex hs), hd⟩
  | s ns e0 =>
    subst e0
    obtain ⟨a, e, h⟩ := o
    exact ⟨a, _, e, .inl (m.ex.seq h), ints_dps ns⟩
  | c i h pl =>
    obtain ⟨_, vs, e, hd⟩ := m.cel _ _ (List.mem_of_getElem? h)
    replace hd := hd.to pl
    exact ⟨_, vs, o, .inl (.of e), hd⟩
inductive Vw (μ : Cells) : Vd → PyData → Prop
  | d (x : PyData) : Vw μ (.d x) x
  | c (i : Nat) {p : Addr} {ds : List PyData} (h : μ[i]? = some (p, (ds : Cont))) (pl : plS ds := by repeat' first | exact plS_nil | exact plS_map (fun _ => rfl) | refine plS_app ?_ ?_ | refine plS_cons rfl ?_ | assumption) : Vw μ (.a p) (.list ds)
theorem Vw.x (ds : List PyData) : Vw μ (.x ds) (.tuple ds) := .d _
theorem vw_ok {F H : Hp} {x : Vd} {v : V} {d : PyData} (m : RpM K F H μ) (o : VOk K F x v) (h : Vw μ x d) : De K H v d := by
  cases h with
  | d => exact dp_up m.ex _ _ o
  | c i h pl =>
    obtain ⟨_, vs, e, hd⟩ := m.cel _ _ (List.mem_of_getElem? h)
    replace hd := hd.to pl
    rw [show v = .ref _ from o]
    exact .lst e (dps_up m.ex _ _ hd)
section
variable {i j : Int}
def rCatX (K : PySem.W.Frag) : R2 := fun x y H Q => ∃ a b xs ys, x = .ref a ∧ y = .ref b ∧ SqT K H a xs ∧ SqT K H b ys ∧ xs.length + ys.length ≤ sizeLine ∧
  (xs = [] → Q (.ref b) H) ∧ (xs ≠ [] → ys = [] → Q (.ref a) H) ∧ (xs ≠ [] → ys ≠ [] → ∀ p o, o.dict = none → H p = none → Q (.ref p) (upd H p (.frz o (.tup (xs ++ ys)))))
theorem op_catX {X : Cx} : OpR X (binaryOp .Add) (rCatX X.K) := by
  intro pins s σ H x y v u Q I rx ry h
  obtain ⟨a, b, xs, ys, rfl, rfl, ha, hb, hz, q0, q1, q2⟩ := h
  obtain ⟨its, r1, p1, _⟩ := I.tuple ha
  obtain ⟨its2, r2, p2, _⟩ := I.tuple hb
  cases rx
  cases ry
  by_cases hx : xs = []
  · subst hx
    cases r1
    exact cat_tup0 p1 p2 ⟨.ref b, H, I, rfl, q0 rfl⟩
  · have hz2 : its.length + its2.length ≤ sizeLine := by rw [← r1.length, ← r2.length]; exact hz
    refine HT.cat_tup p1 p2 (fun z => hx (r1.nil_iff.mp z)) (fun z => ⟨.ref a, H, I, rfl, q1 hx (r2.nil_iff.mp z)⟩) (fun z => ?_) hz2
    have nf : H s.heap.objs.size = none := I.hok.fresh (Nat.le_refl _)
    have I2 := I.laid (t' := s.toks) (o := .frz _ (.tup (xs ++ ys))) (h' := s.heap.push _) (fun b ob q => Heap.get?_push_of_some _ q) (Nat.le_refl _) ⟨Heap.get?_push_size _ rfl, by rw [List.length_append]; exact hz, _, r1.append r2, IsTup.new _ _⟩
    exact ⟨.ref s.heap.objs.size, _, I2, rfl, q2 hx (fun w => z (r2.nil_iff.mpr w)) _ _ rfl nf⟩
def OAdd (K : PySem.W.Frag) : R2 := fun x y H Q => (rI0 fun i j => .int (i + j)) x y H Q ∨ rCatX K x y H Q ∨ rCat x y H Q ∨ (fun x y H Q => ∃ i j, x = .str i ∧ y = .str j ∧ i.length + j.length ≤ sizeLine ∧ Q (.str (i ++ j)) H) x y H Q
theorem o_add {X : Cx} : OpR X (binaryOp .Add) (OAdd X.K) := op_add.or (op_catX.or (op_cat.or op_add_str))
theorem ow_add (h : Q (.d (.int (i + j))) μ) : OpW K (OAdd K) (.d (.int i)) (.d (.int j)) μ Q := fun F H v u m o1 o2 QV c => .inl ⟨i, j, dp_int o1, dp_int o2, c (.d (.int _)) _ F H μ Fw.refl m (.int _) h⟩
theorem ow_sub (h : Q (.d (.int (i - j))) μ) : OpW K (rI0 fun i j => .int (i - j)) (.d (.int i)) (.d (.int j)) μ Q := fun F H v u m o1 o2 QV c => ⟨i, j, dp_int o1, dp_int o2, c (.d (.int _)) _ F H μ Fw.refl m (.int _) h⟩
theorem ow_cmp {p : Int → Int → Bool} (h : Q (.d (.bool (p i j))) μ) : OpW K (rI0 fun i j => .bl (p i j)) (.d (.int i)) (.d (.int j)) μ Q := fun F H v u m o1 o2 QV c => ⟨i, j, dp_int o1, dp_int o2, c (.d (.bool _)) _ F H μ Fw.refl m (.bl _) h⟩
theorem ow_cnd {C : Int → Int → Prop} {g : Int → Int → Int} (hc : C i j) (h : Q (.d (.int (g i j))) μ) : OpW K (rI C fun i j => .int (g i j)) (.d (.int i)) (.d (.int j)) μ Q := fun F H v u m o1 o2 QV c => ⟨i, j, dp_int o1, dp_int o2, hc, c (.d (.int _)) _ F H μ Fw.refl m (.int _) h⟩
def OMul (K : PySem.W.Frag) : R2 := fun x y H Q => (rI CMul fun i j => .int (i * j)) x y H Q ∨ rRepT K x y H Q ∨ rRep x y H Q
theorem o_mul {X : Cx} : OpR X (binaryOp .Mult) (OMul X.K) := op_mul.or (op_repT.or op_rep)
theorem ow_mul (hc : CMul i j) (h : Q (.d (.int (i * j))) μ) : OpW K (OMul K) (.d (.int i)) (.d (.int j)) μ Q := fun F H v u m o1 o2 QV c => .inl ⟨i, j, dp_int o1, dp_int o2, hc, c (.d (.int _)) _ F H μ Fw.refl m (.int _) h⟩
theorem uw_neg (h : Q (.d (.int (-i))) μ) : UnW K (rU fun i => .int (-i)) (.d (.int i)) μ Q := fun F H v m o1 QV c => ⟨i, dp_int o1, c (.d (.int _)) _ F H μ Fw.refl m (.int _) h⟩
end
theorem ow_catT {ds es : List PyData} (hl : ds.length + es.length ≤ 100000) (h : Q (.d (.tuple (ds ++ es))) μ) : OpW K (OAdd K) (.d (.tuple ds)) (.d (.tuple es)) μ Q := fun F H v u m o1 o2 QV c => by
  obtain ⟨a, vs, b1, rfl, h1, n1, d1⟩ := dp_tupX o1
  obtain ⟨b, us, b2, rfl, h2, n2, d2⟩ := dp_tupX o2
  refine .inr (.inl ⟨a, b, vs, us, rfl, rfl, .inl (.inr ⟨b1, m.ex _ _ h1⟩), .inl (.inr ⟨b2, m.ex _ _ h2⟩), by rw [dps_len d1, dps_len d2]; exact Nat.le_trans hl (by decide), fun z => ?_, fun _ z => ?_, fun _ _ r o ho nr => ?_⟩)
  · subst z
    cases d1
    exact c (.d (.tuple es)) _ F H μ Fw.refl m (.tup h2 n2 d2) h
  · subst z
    cases d2
    rw [List.append_nil] at h
    exact c (.d (.tuple ds)) _ F H μ Fw.refl m (.tup h1 n1 d1) h
  · obtain ⟨m2, w2⟩ := m.new (o := .frz o (.tup (vs ++ us))) nr
    exact c (.d (.tuple (ds ++ es))) _ _ _ μ w2 m2 (.tup upd_same ho (dps_up w2.f _ _ (dps_app d1 d2))) h
theorem ow_eq {x y : Vd} {d e : PyData} (hx : Vw μ x d) (hy : Vw μ y e) (sd : SeqAt.shaped d = true) (se : SeqAt.shaped e = true) (h : Q (.d (.bool (PyData.eqv d e))) μ) : OpW K (rEqD K) x y μ Q := fun F H v u m o1 o2 QV c =>
  ⟨d, e, (vw_ok m o1 hx).dp, (vw_ok m o2 hy).dp, sd, se, c (.d (.bool _)) _ F H μ Fw.refl m (.bl _) h⟩
theorem ow_ne {x y : Vd} {d e : PyData} (hx : Vw μ x d) (hy : Vw μ y e) (sd : SeqAt.shaped d = true) (se : SeqAt.shaped e = true) (h : Q (.d (.bool (!PyData.eqv d e))) μ) : OpW K (rNeD K) x y μ Q := fun F H v u m o1 o2 QV c =>
  ⟨d, e, (vw_ok m o1 hx).dp, (vw_ok m o2 hy).dp, sd, se, c (.d (.bool _)) _ F H μ Fw.refl m (.bl _) h⟩
def isNone : PyData → Bool
  | .none => true
  | _ => false
theorem ow_isN {d : PyData} (h : Q (.d (.bool (isNone d))) μ) : OpW K (fun x y H Q => y = .non ∧ Q (.bl (decide (x = .non))) H) (.d d) (.d .none) μ Q := fun F H v u m o1 o2 QV c => by
  refine ⟨dp_non o2, c (.d (.bool _)) _ F H μ Fw.refl m ?_ h⟩
  show De K F (.bl (decide (v = .non))) _
  cases o1 <;> exact .bl _
theorem ow_notN {d : PyData} (h : Q (.d (.bool (!isNone d))) μ) : OpW K (fun x y H Q => y = .non ∧ Q (.bl (!decide (x = .non))) H) (.d d) (.d .none) μ Q := fun F H v u m o1 o2 QV c => by
  refine ⟨dp_non o2, c (.d (.bool _)) _ F H μ Fw.refl m ?_ h⟩
  show De K F (.bl (!decide (v = .non))) _
  cases o1 <;> exact .bl _
def flatD : PyData → Bool
  | .none => true
  | .bool _ => true
  | .int _ => true
  | .str _ => true
  | _ => false
theorem flat_ok {F : Hp} : ∀ {d : PyData} {v : V}, flatD d = true → De K F v d → flatV v = true
  | .none, _, _, h => by cases h; rfl
  | .bool _, _, _, h => by cases h; rfl
  | .int _, _, _, h => by cases h; rfl
  | .str _, _, _, h => by cases h; rfl
theorem flats_ok {F : Hp} : ∀ {ds : List PyData} {vs : List V}, ds.all flatD = true → DeAll K F vs ds → vs.all flatV = true
  | [], _, _, h => by
    cases h
    rfl
  | d :: ds, _, e, h => by
    cases h with
    | cons h1 h2 =>
      rw [List.all_cons, Bool.and_eq_true_iff] at e
      rw [List.all_cons, flat_ok e.1 h1, flats_ok e.2 h2]
      rfl
theorem eqv_flat {F : Hp} : ∀ {d e : PyData} {v u : V}, flatD d = true → flatD e = true → De K F v d → De K F u e → eqV v u = PyData.eqv d e := by
  intro d e v u hd he h1 h2
  cases h1 <;> first
    | (simp [flatD] at hd; done)
    | (cases h2 <;> first
        | (simp [flatD] at he; done)
        | (simp only [eqV, PyData.eqv]; done)
        | rfl
        | (simp [eqV, PyData.eqv]; done)
        | (unfold eqV; unfold PyData.eqv; first | rfl | simp | (rename_i a b; cases a <;> cases b <;> rfl) | (rename_i a b; cases a <;> rfl) | (rename_i a b; cases b <;> rfl)))
def inD (d : PyData) (ds : List PyData) : Bool := ds.any fun e => PyData.eqv e d
theorem inV_eq {F : Hp} {d : PyData} {v : V} (fd : flatD d = true) (h : De K F v d) : ∀ {ds : List PyData} {vs : List V}, ds.all flatD = true → DeAll K F vs ds → inV v vs = inD d ds
  | [], _, _, g => by
    cases g
    rfl
  | e :: ds, _, f, g => by
    cases g with
    | cons g1 g2 =>
      rw [List.all_cons, Bool.and_eq_true_iff] at f
      show ((eqV _ v) || _) = (PyData.eqv e d || _)
      rw [eqv_flat f.1 fd g1 h]
      exact congrArg _ (inV_eq fd h f.2 g2)
theorem ow_in {y : Vd} {d : PyData} {ds : List PyData} (hy : Ct μ y ds) (fd : flatD d = true) (fs : ds.all flatD = true) (h : Q (.d (.bool (inD d ds))) μ) : OpW K (rIn K false) (.d d) y μ Q := fun F H v u m o1 o2 QV c => by
  obtain ⟨a, vs, rfl, hs, hd⟩ := ct_ok m o2 hy
  refine ⟨a, vs, rfl, hs, flat_ok fd o1, flats_ok fs hd, ?_⟩
  show QV (.bl (inV v vs)) H
  rw [inV_eq fd o1 fs hd]
  exact c (.d (.bool _)) _ F H μ Fw.refl m (.bl _) h
theorem ow_ni {y : Vd} {d : PyData} {ds : List PyData} (hy : Ct μ y ds) (fd : flatD d = true) (fs : ds.all flatD = true) (h : Q (.d (.bool (!inD d ds))) μ) : OpW K (rIn K true) (.d d) y μ Q := fun F H v u m o1 o2 QV c => by
  obtain ⟨a, vs, rfl, hs, hd⟩ := ct_ok m o2 hy
  refine ⟨a, vs, rfl, hs, flat_ok fd o1, flats_ok fs hd, ?_⟩
  show QV (.bl (!inV v vs)) H
  rw [inV_eq fd o1 fs hd]
  exact c (.d (.bool _)) _ F H μ Fw.refl m (.bl _) h
theorem inD_int (i : Int) (ns : List Int) : inD (.int i) (intsD ns) = decide (i ∈ ns) := by
  induction ns with
  | nil => rfl
  | cons n r ih =>
    show (PyData.eqv (.int n) (.int i) || inD (.int i) (intsD r)) = _
    rw [ih]
    simp only [PyData.eqv, List.mem_cons, Bool.decide_or]
    congr 1
    by_cases e : n = i
    · subst e
      simp
    · have : ¬ i = n := fun z => e z.symm
      simp [e, this]
theorem flat_ints (ns : List Int) : (intsD ns).all flatD = true := by
  rw [List.all_eq_true]
  intro x hx
  obtain ⟨i, _, rfl⟩ := List.mem_map.mp hx
  rfl
theorem ow_ix {x : Vd} {i : Int} {d : PyData} {ds : List PyData} (hx : Ct μ x ds) (ha : atI ds i = some d) (h : Q (.d d) μ) : OpW K (rIx K) x (.d (.int i)) μ Q := fun F H v u m o1 o2 QV c => by
  obtain ⟨a, vs, rfl, hs, hd⟩ := ct_ok m o1 hx
  have hv : ∃ w, atI vs i = some w ∧ De K F w d := by
    unfold atI at ha ⊢
    rw [dps_len hd]
    cases q : ixN ds.length i with
    | none =>
      rw [q] at ha
      cases ha
    | some j =>
      rw [q] at ha
      exact dps_get hd ha
  obtain ⟨w, hw, ow⟩ := hv
  have fin : QV w H := c (.d _) _ F H μ Fw.refl m ow h
  rcases hs with hs | hs
  · exact .inl ⟨a, vs, i, w, rfl, dp_int o2, hs, hw, fin⟩
  · exact .inr (.inl ⟨a, vs, i, w, rfl, dp_int o2, hs, hw, fin⟩)
end
end Ec
set_option Elab.async false
set_option linter.all false
set_option maxRecDepth 100000
set_option maxHeartbeats 4000000
namespace Ec
open PySem PySem.Spec PyProof.Rows L2
structure Bl (mg : Str → Option Value) : Prop where
  len : mg "len" = none
  range : mg "range" = none
  list : mg "list" = none
  tuple : mg "tuple" = none
  sorted : mg "sorted" = none
  all : mg "all" = none
  any : mg "any" = none
  isi : mg "isinstance" = none
  min : mg "min" = none
  max : mg "max" = none
  abs : mg "abs" = none
  int : mg "int" = none
  str : mg "str" = none
  repr : mg "repr" = none
  set : mg "set" = none
  sum : mg "sum" = none
  enum : mg "enumerate" = none
  zip : mg "zip" = none
  bool : mg "bool" = none
  dict : mg "dict" = none
section
variable {X : Cx} {δ : Dl} {μ : Cells} {e a b : Expr} {pos p : Pos} {Q : Vd → Cells → Prop} {es : List Expr} {mg : Str → Option Value}
theorem we_cb {id : String} {x : Str} {r : List V → Hp → VK → Prop} (hc : CallR X (.builtin id) r) (hg : Gl X x) (hm : X.mg x = none) (hv : bootBuiltins x = some (.builtin id)) (h : WA X (e :: es) δ μ fun xs μ1 => CaW X.K r xs μ1 Q) (hn : x ≠ "__name__" := by decide) (hdb : (x == ("__debug__" : Str)) = false := by decide)
    (he : starEach (e :: es) X.env = (false, eval e X.env) :: starEach es X.env := by rfl) (hpl : (backTo pos (starEach es X.env)).any (·.1) = false := by rfl) : WE X (.Call (.Name x p) (e :: es) [] pos) δ μ Q := fun F H σ R QV c =>
  toE (pe_callB hc hg hm hv (pcA X (e :: es)) hn hdb he hpl) (h F H σ R _ fun vs xs F1 H1 μ1 w1 R1 o1 q => q F1 H1 vs R1.m o1 _ fun z w F3 H3 μ3 w3 m3 o3 q3 => c w z F3 H3 μ3 (w1.trans w3) (R1.to w3.f m3) o3 q3)
theorem we_ct {T : String} {x : Str} {r : List V → Hp → VK → Prop} (hc : CallR X (.type T) r) (hg : Gl X x) (hm : X.mg x = none) (hv : bootBuiltins x = some (.type T)) (h : WA X (e :: es) δ μ fun xs μ1 => CaW X.K r xs μ1 Q) (hn : x ≠ "__name__" := by decide) (hdb : (x == ("__debug__" : Str)) = false := by decide)
    (he : starEach (e :: es) X.env = (false, eval e X.env) :: starEach es X.env := by rfl) (hpl : (backTo pos (starEach es X.env)).any (·.1) = false := by rfl) : WE X (.Call (.Name x p) (e :: es) [] pos) δ μ Q := fun F H σ R QV c =>
  toE (pe_callTy hc hg hm hv (pcA X (e :: es)) hn hdb he hpl) (h F H σ R _ fun vs xs F1 H1 μ1 w1 R1 o1 q => q F1 H1 vs R1.m o1 _ fun z w F3 H3 μ3 w3 m3 o3 q3 => c w z F3 H3 μ3 (w1.trans w3) (R1.to w3.f m3) o3 q3)
theorem wa_one {QA : List Vd → Cells → Prop} (h : WE X e δ μ fun x μ1 => QA [x] μ1) (hs : starEach [e] X.env = (false, eval e X.env) :: starEach [] X.env := by rfl) : WA X [e] δ μ QA := wa_cons (h.mono fun x μ1 q => wa_nil q) hs
theorem wa_two {QA : List Vd → Cells → Prop} (h : WE X a δ μ fun x μ1 => WE X b δ μ1 fun y μ2 => QA [x, y] μ2) (hs : starEach [a, b] X.env = (false, eval a X.env) :: starEach [b] X.env := by rfl) (hs2 : starEach [b] X.env = (false, eval b X.env) :: starEach [] X.env := by rfl) :
    WA X [a, b] δ μ QA := wa_cons (h.mono fun x μ1 q => wa_one q hs2) hs
theorem we_len (B : Bl mg) (hg : Gl X "len") (h : WE X e δ μ fun x μ1 => ∃ ds, Ct μ1 x ds ∧ Q (.d (.int (ds.length : Int))) μ1) (hm : X.mg = mg := by rfl) (s1 : starEach [e] X.env = (false, eval e X.env) :: starEach [] X.env := by rfl) (s2 : (backTo pos (starEach [] X.env)).any (·.1) = false := by rfl) :
    WE X (.Call (.Name "len" p) [e] [] pos) δ μ Q :=
  we_cb call_len_seq hg (hm ▸ B.len) PySem.boot_len (wa_one (h.mono fun x μ1 q => fun F H vs m o QV c => by
    obtain ⟨ds, ct, q⟩ := q
    cases o with
    | cons o1 o2 =>
      cases o2
      obtain ⟨a, us, rfl, hs, hd⟩ := ct_ok m o1 ct
      refine ⟨a, us, rfl, hs, ?_⟩
      rw [dps_len hd]
      exact c (.d (.int _)) _ F H μ1 Fw.refl m (.int _) q) s1) (he := s1) (hpl := s2)
theorem we_list (B : Bl mg) (hg : Gl X "list") (h : WE X e δ μ fun x μ1 => ∃ ds, Ct μ1 x ds ∧ ∀ p, Q (.a p) ((p, ds) :: μ1)) (hm : X.mg = mg := by rfl) (s1 : starEach [e] X.env = (false, eval e X.env) :: starEach [] X.env := by rfl) (s2 : (backTo pos (starEach [] X.env)).any (·.1) = false := by rfl) :
    WE X (.Call (.Name "list" p) [e] [] pos) δ μ Q :=
  we_ct call_list_of hg (hm ▸ B.list) PyProof.Rows.boot_list (wa_one (h.mono fun x μ1 q => fun F H vs m o QV c => by
    obtain ⟨ds, ct, q⟩ := q
    cases o with
    | cons o1 o2 =>
      cases o2
      obtain ⟨a, us, rfl, hs, hd⟩ := ct_ok m o1 ct
      refine ⟨a, us, rfl, hs, fun l nl => ?_⟩
      obtain ⟨m2, w2⟩ := m.cell nl hd
      exact c (.a l) _ _ _ _ w2 m2 rfl (q l)) s1) (he := s1) (hpl := s2)
theorem intsD_inj : ∀ {as bs : List Int}, intsD as = intsD bs → as = bs
  | [], [], _ => rfl
  | a :: as, b :: bs, h => by
    have h1 := (List.cons.inj h).1
    have h2 := intsD_inj (List.cons.inj h).2
    cases h1
    rw [h2]
  | [], _ :: _, h => by cases h
  | _ :: _, [], h => by cases h
def rTupL (K : PySem.W.Frag) : List V → Hp → VK → Prop := fun xs H Q => ∃ p ys, xs = [.ref p] ∧ SqL K H p ys ∧ ∀ l o, o.dict = none → H l = none → Q (.ref l) (upd H l (.frz o (.tup ys)))
theorem cr_tupL : CallR X (.type "tuple") (rTupL X.K) := fun pins st σ H xs us Q iv rel h => by
  obtain ⟨p, ys, e, hl, q⟩ := h
  subst e
  obtain ⟨u, e, ru⟩ := vals1 rel
  subst e
  cases ru
  obtain ⟨its, rv, pl, hz⟩ := iv.list hl
  have hn := rv.length
  refine call_tuple_list pl.isList (fun hp kp => ?_) (by simp only [List.size_toArray] <;> omega)
  have J : Inv X pins σ H { st with heap := hp } := iv.kept (t' := st.toks) kp
  have nf := J.hok.fresh (Nat.le_refl hp.objs.size)
  exact ⟨.ref hp.objs.size, _, J.laid (t' := st.toks) (o := .frz { cls := .type "tuple", data := .seq its.toArray } (.tup ys)) (fun b o e => Heap.get?_push_of_some _ e) (Nat.le_refl _)
    ⟨Heap.get?_push_size _ rfl, hz, its, rv, IsTup.new _ _⟩, rfl, q _ _ rfl nf⟩
theorem we_tuple (B : Bl mg) (hg : Gl X "tuple") (h : WE X e δ μ fun x μ1 => ∃ ds, Ct μ1 x ds ∧ Q (.d (.tuple ds)) μ1) (hm : X.mg = mg := by rfl) (s1 : starEach [e] X.env = (false, eval e X.env) :: starEach [] X.env := by rfl) (s2 : (backTo pos (starEach [] X.env)).any (·.1) = false := by rfl) :
    WE X (.Call (.Name "tuple" p) [e] [] pos) δ μ Q :=
  we_ct (cr_tupL.or call_tuple_of) hg (hm ▸ B.tuple) PyProof.Rows.boot_tuple (wa_one (h.mono fun x μ1 q => fun F H vs m o QV c => by
    obtain ⟨ds, ct, q⟩ := q
    cases o with
    | cons o1 o2 =>
      cases o2
      have new : ∀ {a : Addr} {us : List V}, SqL X.K H a us → DeAll X.K F us ds → ∀ l o, o.dict = none → H l = none → QV (.ref l) (upd H l (.frz o (.tup us))) := fun {a us} hs hd l o ho nl => by
        obtain ⟨m2, w2⟩ := m.new (o := .frz o (.tup us)) nl
        exact c (.d (.tuple ds)) _ _ _ μ1 w2 m2 (.tup upd_same ho (dps_up w2.f _ _ hd)) q
      cases ct with
      | l =>
        obtain ⟨a, us, rfl, hs, hd⟩ := dp_lst o1
        exact .inl ⟨a, us, rfl, m.ex.seq hs, new (m.ex.seq hs) hd⟩
      | t =>
        obtain ⟨a, us, b, rfl, h1, h2, hd⟩ := dp_tupX o1
        exact .inr ⟨a, us, rfl, .inr ⟨.inl (.inr ⟨b, m.ex _ _ h1⟩), c (.d (.tuple ds)) _ F H μ1 Fw.refl m (.tup h1 h2 hd) q⟩⟩
      | s ns e0 =>
        subst e0
        obtain ⟨a, e, hs⟩ := o1
        subst e
        exact .inl ⟨a, _, rfl, m.ex.seq hs, new (m.ex.seq hs) (ints_dps ns)⟩
      | c i hi pl =>
        obtain ⟨_, us, e1, hd⟩ := m.cel _ _ (List.mem_of_getElem? hi)
        replace hd := hd.to pl
        exact .inl ⟨_, us, by rw [show _ = V.ref _ from o1], .of e1, new (.of e1) hd⟩) s1) (he := s1) (hpl := s2)
def srt (ns : List Int) : List Int := ns.mergeSort (fun a b => decide (a ≤ b))
theorem srt_perm (ns : List Int) : (srt ns).Perm ns := List.mergeSort_perm ns _
theorem srt_up (ns : List Int) : (srt ns).Pairwise (· ≤ ·) := by
  have h := List.pairwise_mergeSort (le := fun (a b : Int) => decide (a ≤ b)) (fun a b c h1 h2 => decide_eq_true (Int.le_trans (of_decide_eq_true h1) (of_decide_eq_true h2)))
    (fun a b => by
      rcases Int.le_total a b with h | h
      · simp [h]
      · simp [h]) ns
  exact h.imp fun h => of_decide_eq_true h
theorem srt_one {as bs : List Int} (p : as.Perm bs) (h1 : as.Pairwise (· ≤ ·)) (h2 : bs.Pairwise (· ≤ ·)) : as = bs := p.eq_of_pairwise (fun a b _ _ x y => Int.le_antisymm x y) h1 h2
theorem srt_eq {as ns : List Int} (p : as.Perm ns) (h1 : as.Pairwise (· ≤ ·)) : as = srt ns := srt_one (p.trans (srt_perm ns).symm) h1 (srt_up ns)
theorem we_sorted (B : Bl mg) (hg : Gl X "sorted") (h : WE X e δ μ fun x μ1 => ∃ ns, Ct μ1 x (intsD ns) ∧ (∀ ds, toC x ≠ .tuple ds) ∧ ns.length < 64 ∧ ∀ p, Q (.a p) ((p, intsD (srt ns)) :: μ1)) (hm : X.mg = mg := by rfl) (s1 : starEach [e] X.env = (false, eval e X.env) :: starEach [] X.env := by rfl) (s2 : (backTo pos (starEach [] X.env)).any (·.1) = false := by rfl) :
    WE X (.Call (.Name "sorted" p) [e] [] pos) δ μ Q :=
  we_cb cr_sorted hg (hm ▸ B.sorted) PyProof.Rows.boot_sorted (wa_one (h.mono fun x μ1 q => fun F H vs m o QV c => by
    obtain ⟨ns, ct, nt, hz, q⟩ := q
    cases o with
    | cons o1 o2 =>
      cases o2
      obtain ⟨a, us, rfl, hs, hd⟩ := ct_ok m o1 ct
      have hl : SqL X.K H a us := by
        cases ct with
        | l =>
          obtain ⟨a', us', e1, hs', hd'⟩ := dp_lst o1
          cases e1
          rw [dps_ints hd, ← dps_ints hd']
          exact m.ex.seq hs'
        | t => exact absurd rfl (nt _)
        | s ns2 e0 =>
          obtain ⟨a', e, hs'⟩ := o1
          cases e
          rw [dps_ints hd, intsD_inj e0]
          exact m.ex.seq hs'
        | c i hi pl =>
          obtain ⟨_, us', e1, hd'⟩ := m.cel _ _ (List.mem_of_getElem? hi)
          replace hd' := hd'.to pl
          have : V.ref a = .ref _ := o1
          cases this
          rw [dps_ints hd, ← dps_ints hd']
          exact .of e1
      rw [dps_ints hd] at hl
      refine ⟨a, ns, rfl, hl, hz, fun ns' l pm up nl => ?_⟩
      rw [srt_eq pm up]
      obtain ⟨m2, w2⟩ := m.cell nl (ints_dps (K := X.K) (H := F) (srt ns))
      exact c (.a l) _ _ _ _ w2 m2 rfl (q l)) s1) (he := s1) (hpl := s2)
abbrev blsD (bs : List Bool) : List PyData := bs.map PyData.bool
theorem ct_lst {K : PySem.W.Frag} {F H : Hp} {x : Vd} {v : V} {ds : List PyData} (m : RpM K F H μ) (o : VOk K F x v) (ct : Ct μ x ds) (nt : ∀ ds, toC x ≠ .tuple ds) : ∃ a us, v = .ref a ∧ SqL K H a us ∧ DeAll K F us ds := by
  cases ct with
  | l =>
    obtain ⟨a, us, e1, hs, hd⟩ := dp_lst o
    exact ⟨a, us, e1, m.ex.seq hs, hd⟩
  | t => exact absurd rfl (nt _)
  | s ns e0 =>
    subst e0
    obtain ⟨a, e, hs⟩ := o
    exact ⟨a, _, e, m.ex.seq hs, ints_dps ns⟩
  | c i hi pl =>
    obtain ⟨_, us, e1, hd⟩ := m.cel _ _ (List.mem_of_getElem? hi)
    exact ⟨_, us, o, .of e1, hd.to pl⟩
theorem we_all (B : Bl mg) (hg : Gl X "all") (hc : X.calm = true) (h : WE X e δ μ fun x μ1 => ∃ bs, Ct μ1 x (blsD bs) ∧ (∀ ds, toC x ≠ .tuple ds) ∧ Q (.d (.bool (bs.all id))) μ1) (hm : X.mg = mg := by rfl) (s1 : starEach [e] X.env = (false, eval e X.env) :: starEach [] X.env := by rfl) (s2 : (backTo pos (starEach [] X.env)).any (·.1) = false := by rfl) :
    WE X (.Call (.Name "all" p) [e] [] pos) δ μ Q :=
  we_cb (cr_all hc) hg (hm ▸ B.all) PyProof.Rows.boot_all (wa_one (h.mono fun x μ1 q => fun F H vs m o QV c => by
    obtain ⟨bs, ct, nt, q⟩ := q
    cases o with
    | cons o1 o2 =>
      cases o2
      obtain ⟨a, us, rfl, hs, hd⟩ := ct_lst m o1 ct nt
      rw [dps_bls hd] at hs
      exact ⟨a, bs, rfl, hs, c (.d (.bool _)) _ F H μ1 Fw.refl m (.bl _) q⟩) s1) (he := s1) (hpl := s2)
theorem we_abs (B : Bl mg) (hg : Gl X "abs") (h : WE X e δ μ fun x μ1 => ∃ i : Int, x = .d (.int i) ∧ Q (.d (.int (if i < 0 then -i else i))) μ1) (hm : X.mg = mg := by rfl) (s1 : starEach [e] X.env = (false, eval e X.env) :: starEach [] X.env := by rfl) (s2 : (backTo pos (starEach [] X.env)).any (·.1) = false := by rfl) :
    WE X (.Call (.Name "abs" p) [e] [] pos) δ μ Q :=
  we_cb call_abs hg (hm ▸ B.abs) PyProof.Rows.boot_abs (wa_one (h.mono fun x μ1 q => fun F H vs m o QV c => by
    obtain ⟨i, rfl, q⟩ := q
    cases o with
    | cons o1 o2 =>
      cases o2
      exact ⟨i, by rw [dp_int o1], c (.d (.int _)) _ F H μ1 Fw.refl m (.int _) q⟩) s1) (he := s1) (hpl := s2)
theorem we_intB (B : Bl mg) (hg : Gl X "int") (h : WE X e δ μ fun x μ1 => ∃ k, x = .d (.bool k) ∧ Q (.d (.int (if k then 1 else 0))) μ1) (hm : X.mg = mg := by rfl) (s1 : starEach [e] X.env = (false, eval e X.env) :: starEach [] X.env := by rfl) (s2 : (backTo pos (starEach [] X.env)).any (·.1) = false := by rfl) :
    WE X (.Call (.Name "int" p) [e] [] pos) δ μ Q :=
  we_ct call_int1 hg (hm ▸ B.int) PyProof.Rows.boot_int (wa_one (h.mono fun x μ1 q => fun F H vs m o QV c => by
    obtain ⟨k, rfl, q⟩ := q
    cases o with
    | cons o1 o2 =>
      cases o2
      exact .inr ⟨k, by rw [dp_bl o1], c (.d (.int _)) _ F H μ1 Fw.refl m (.int _) q⟩) s1) (he := s1) (hpl := s2)
theorem we_min2 (B : Bl mg) (hg : Gl X "min") (hc : X.calm = true) (h : WE X a δ μ fun x μ1 => WE X b δ μ1 fun y μ2 => ∃ i j : Int, x = .d (.int i) ∧ y = .d (.int j) ∧ Q (.d (.int (if j < i then j else i))) μ2) (hm : X.mg = mg := by rfl)
    (s1 : starEach [a, b] X.env = (false, eval a X.env) :: starEach [b] X.env := by rfl) (s2 : starEach [b] X.env = (false, eval b X.env) :: starEach [] X.env := by rfl) (s3 : (backTo pos (starEach [b] X.env)).any (·.1) = false := by rfl) :
    WE X (.Call (.Name "min" p) [a, b] [] pos) δ μ Q :=
  we_cb (call_min2 hc) hg (hm ▸ B.min) PyProof.Rows.boot_min (wa_two (h.mono fun x μ1 q => q.mono fun y μ2 q => fun F H vs m o QV c => by
    obtain ⟨i, j, rfl, rfl, q⟩ := q
    cases o with
    | cons o1 o2 =>
      cases o2 with
      | cons o2 o3 =>
        cases o3
        exact ⟨i, j, by rw [dp_int o1, dp_int o2], c (.d (.int _)) _ F H μ2 Fw.refl m (.int _) q⟩) s1 s2) (he := s1) (hpl := s3)
inductive Lk (μ : Cells) : Vd → Prop
  | d (ds : List PyData) : Lk μ (.d (.list ds))
  | c (i : Nat) {p : Addr} {ds : List PyData} (h : μ[i]? = some (p, (ds : Cont))) : Lk μ (.a p)
theorem lk_ok {K : PySem.W.Frag} {F H : Hp} {x : Vd} {v : V} (m : RpM K F H μ) (o : VOk K F x v) (h : Lk μ x) : ∃ a us, v = .ref a ∧ SqL K H a us := by
  cases h with
  | d =>
    obtain ⟨a, us, e1, hs, _⟩ := dp_lst o
    exact ⟨a, us, e1, m.ex.seq hs⟩
  | c i hi =>
    obtain ⟨_, us, e1, _⟩ := m.cel _ _ (List.mem_of_getElem? hi)
    exact ⟨_, us, o, .of e1⟩
def MtW (K : PySem.W.Frag) (r : V → List V → Hp → VK → Prop) (x : Vd) (xs : List Vd) (μ : Cells) (Q : Vd → Cells → Prop) : Prop := ∀ F H v vs, RpM K F H μ → VOk K F x v → VAll K F xs vs → ∀ QV : VK,
  (∀ z w F' H' μ', Fw (ks μ) (ks μ') F H F' H' → RpM K F' H' μ' → VOk K F' z w → Q z μ' → QV w H') → r v vs H QV
theorem we_bmL {name : Str} {id : String} {apos cpos : Pos} {o : Expr} {r : V → List V → Hp → VK → Prop} (pa : PlainAttrs "list") (slot : Slot "list" name id) (hty : typeOf (.builtin id) = pure (.type "method_descriptor")) (hm : MtR X id r)
    (h : WE X o δ μ fun x μ1 => Lk μ1 x ∧ WA X (e :: es) δ μ1 fun xs μ2 => MtW X.K r x xs μ2 Q)
    (hbase : attributeBase o name X.env (eval o X.env) = eval o X.env := by rfl)
    (hfew : ((backTo cpos (starEach (e :: es) X.env)).all (fun x => !x.1) && (backToKw cpos (keywordEach [] X.env)).all (fun x => x.1.isSome)
      && decide ((e :: es).length + ([] : List Keyword).length + (if ([] : List Keyword).isEmpty then 0 else 1) < 30)) = true := by rfl)
    (hline : (apos.endLine == cpos.line) = true := by rfl) (hs : starEach (e :: es) X.env = (false, eval e X.env) :: starEach es X.env := by rfl) (hplain : (backTo cpos (starEach es X.env)).any (·.1) = false := by rfl) :
    WE X (.Call (.Attribute o name apos) (e :: es) [] cpos) δ μ Q := fun F H σ R QV c =>
  toE (pe_bm pa slot hty hm (pcE X o) (pcA X (e :: es)) hbase hfew hline hs hplain) (h F H σ R _ fun v x F1 H1 μ1 w1 R1 o1 q => by
    obtain ⟨ct, q⟩ := q
    obtain ⟨a, us, rfl, hl⟩ := lk_ok R1.m o1 ct
    exact ⟨.inl ⟨rfl, us, hl⟩, q F1 H1 σ R1 _ fun vs xs F2 H2 μ2 w2 R2 o2 q2 => q2 F2 H2 _ vs R2.m (o1.up w2.f) o2 _ fun z w F3 H3 μ3 w3 m3 o3 q3 => c w z F3 H3 μ3 ((w1.trans w2).trans w3) (R2.to w3.f m3) o3 q3⟩)
theorem mw_append {K : PySem.W.Frag} {p : Addr} {ds : List PyData} {y : PyData} (i : Nat) (hi : μ[i]? = some (p, (ds : Cont))) (hz : ds.length < 100000) (h : Q (.d .none) (μ.set i (p, ds ++ [y]))) : MtW K rAppend (.a p) [.d y] μ Q := fun F H v vs m o1 o2 QV c => by
  cases o2 with
  | cons o2 o3 =>
    cases o3
    obtain ⟨_, us, e1, hd⟩ := m.cel _ _ (List.mem_of_getElem? hi)
    obtain ⟨m2, w2⟩ := m.setCQ (es := ds ++ [y]) hi (dqs_app hd (.cons (.d o2) .nil))
    exact ⟨p, us, _, o1, rfl, e1, by rw [dqs_len hd]; exact Nat.lt_of_lt_of_le hz (by decide), c (.d .none) _ _ _ _ w2 m2 .non h⟩
theorem we_append {o : Expr} {apos cpos : Pos} (h : WE X o δ μ fun x μ1 => ∃ (p : Addr) (ds : List PyData), (∃ i : Nat, μ1[i]? = some (p, (ds : Cont))) ∧ x = .a p ∧ WE X e δ μ1 fun y μ2 => ∃ (yd : PyData) (ds : List PyData) (i : Nat), y = .d yd ∧ μ2[i]? = some (p, (ds : Cont)) ∧ ds.length < 100000 ∧ Q (.d .none) (μ2.set i (p, ds ++ [yd])))
    (hbase : attributeBase o "append" X.env (eval o X.env) = eval o X.env := by rfl)
    (hfew : ((backTo cpos (starEach [e] X.env)).all (fun x => !x.1) && (backToKw cpos (keywordEach [] X.env)).all (fun x => x.1.isSome)
      && decide ([e].length + ([] : List Keyword).length + (if ([] : List Keyword).isEmpty then 0 else 1) < 30)) = true := by rfl)
    (hline : (apos.endLine == cpos.line) = true := by rfl) (hs : starEach [e] X.env = (false, eval e X.env) :: starEach [] X.env := by rfl) (hplain : (backTo cpos (starEach [] X.env)).any (·.1) = false := by rfl) :
    WE X (.Call (.Attribute o "append" apos) [e] [] cpos) δ μ Q :=
  we_bmL PySem.F.plainAttrs_list PySem.F.slot_list_append PySem.F.type_list_append mt_append (h.mono fun x μ1 q => by
    obtain ⟨p, ds, ⟨i, hi⟩, rfl, q⟩ := q
    refine ⟨.c i hi, wa_one (q.mono fun y μ2 q => ?_) hs⟩
    obtain ⟨yd, ds', j, rfl, hj, hz, q⟩ := q
    exact mw_append j hj hz q) hbase hfew hline hs hplain
theorem we_extend {o : Expr} {apos cpos : Pos} (h : WE X o δ μ fun x μ1 => ∃ (p : Addr) (ds : List PyData), (∃ i : Nat, μ1[i]? = some (p, (ds : Cont))) ∧ x = .a p ∧ WE X e δ μ1 fun y μ2 => ∃ (q : Addr) (fs ds : List PyData) (i j : Nat), y = .a q ∧ μ2[j]? = some (q, (fs : Cont)) ∧ μ2[i]? = some (p, (ds : Cont)) ∧ ds.length + fs.length ≤ 100000 ∧ Q (.d .none) (μ2.set i (p, ds ++ fs)))
    (hbase : attributeBase o "extend" X.env (eval o X.env) = eval o X.env := by rfl)
    (hfew : ((backTo cpos (starEach [e] X.env)).all (fun x => !x.1) && (backToKw cpos (keywordEach [] X.env)).all (fun x => x.1.isSome)
      && decide ([e].length + ([] : List Keyword).length + (if ([] : List Keyword).isEmpty then 0 else 1) < 30)) = true := by rfl)
    (hline : (apos.endLine == cpos.line) = true := by rfl) (hs : starEach [e] X.env = (false, eval e X.env) :: starEach [] X.env := by rfl) (hplain : (backTo cpos (starEach [] X.env)).any (·.1) = false := by rfl) :
    WE X (.Call (.Attribute o "extend" apos) [e] [] cpos) δ μ Q :=
  we_bmL PySem.F.plainAttrs_list PySem.F.slot_list_extend PySem.F.type_list_extend mt_extend (h.mono fun x μ1 q => by
    obtain ⟨p, ds, ⟨i, hi⟩, rfl, q⟩ := q
    refine ⟨.c i hi, wa_one (q.mono fun y μ2 q => ?_) hs⟩
    obtain ⟨q', fs, ds', i', j', rfl, hj, hi', hz, q⟩ := q
    intro F H v vs m o1 o2 QV c
    cases o2 with
    | cons o2 o3 =>
      cases o3
      obtain ⟨_, us, e1, hd⟩ := m.cel _ _ (List.mem_of_getElem? hi')
      obtain ⟨_, ws, e2, hd2⟩ := m.cel _ _ (List.mem_of_getElem? hj)
      obtain ⟨m2, w2⟩ := m.setCQ (es := ds' ++ fs) hi' (dqs_app hd hd2)
      exact ⟨p, q', us, ws, o1, by rw [show _ = V.ref q' from o2], e1, e2, by rw [dqs_len hd, dqs_len hd2]; exact Nat.le_trans hz (by decide), c (.d .none) _ _ _ _ w2 m2 .non q⟩) hbase hfew hline hs hplain
theorem extend_tup0 (l : Addr) (xs : Array Value) (n : Nat) (b : Addr) (ys : Array Value) (n2 : Nat) (dd : Option Addr) (sl : Array (Option Value)) (h0 : ¬(!xs.isEmpty && Builtin.List.listTooLong (xs.size + ys.size)) = true) (h1 : xs.size ≤ sizeLine) (h2 : xs.size + ys.size ≤ sizeLine + 1) :
    Meets (Builtin.«list.extend» ⟨[.ref l, .ref b], []⟩) (fun _ R s => s.heap.get? l = some { cls := .type "list", dict := none, data := .seq xs n, slots := #[] } ∧ s.heap.get? b = some { cls := .type "tuple", dict := dd, data := .seq ys n2, slots := sl } ∧
      R (.ok (.ret Value.none)) { s with heap := s.heap.update l (Obj.mapSeq fun x => x ++ ys), toks := s.toks }) :=
  .of_wp fun prog w A R s h => by
    obtain ⟨hp, g, d, tk, os⟩ := s
    obtain ⟨hl, hb, h⟩ := h
    have f1 := AutoSeq1.idx_int
    have f2 := AutoSeq1.sub_tuple_tuple
    have f3 := AutoSeq1.sub_list_list
    have f4 := AutoSeq1.sub_tuple_list
    have f5 := AutoSeq1.sub_list_tuple
    have hs0 := h0
    have hz' : (xs ++ ys).size ≤ sizeLine + 1 := by
      rw [Array.size_append]
      exact h2
    wp_walk using (wpAny_updateSeq hl rfl (hz := h1) (_hz' := hz')), AutoSeq1.wpAny_loadPart' hl, AutoSeq1.wpAny_loadPart' hb
    exact ⟨_, rfl, h⟩
def rExtT (K : PySem.W.Frag) : V → List V → Hp → VK → Prop := fun x vs H Q => ∃ l b xs zs, x = .ref l ∧ vs = [.ref b] ∧ H l = some (.lst xs) ∧ SqT K H b zs ∧ xs.length + zs.length ≤ sizeLine ∧ Q .non (upd H l (.lst (xs ++ zs)))
theorem mt_extT : MtM X "list.extend" (rExtT X.K) := by
  intro pins s σ H x vs v us Q I rx rv h
  obtain ⟨l, b, xs, zs, rfl, rfl, hH, hB, hz, q⟩ := h
  cases rx
  obtain ⟨u, rfl, ru⟩ := rv.one
  cases ru
  obtain ⟨z, its, n, r, hl, e⟩ := I.lstM hH
  obtain ⟨its2, r2, ⟨⟨oc, od, dt, sl⟩, e2, hcl, n2, hdt⟩, hz2⟩ := I.tuple hB
  replace hcl : oc = .type "tuple" := hcl
  replace hdt : dt = .seq its2.toArray n2 := hdt
  subst hcl hdt
  have hl2 := r2.length
  have ok1 : its.toArray.size + its2.toArray.size ≤ sizeLine := by
    rw [List.size_toArray, List.size_toArray]
    omega
  have ok2 : ¬ (!its.toArray.isEmpty && Builtin.List.listTooLong (its.toArray.size + its2.toArray.size)) = true := by
    rw [notLongL ok1, Bool.and_false]
    decide
  refine call_meets F.slot_list_extend ⟨_, e, rfl⟩ F.entry_list_extend (F.args_list_extend_2 _ _)
    (extend_tup0 l its.toArray n b its2.toArray n2 od sl ok2 (by rw [List.size_toArray]; omega) (by omega)) ⟨e, e2, ?_⟩
  refine ⟨.non, _, I.lset (its' := its ++ its2) hH e (by simp) (r.append r2) ?_, rfl, q⟩
  rw [List.length_append]
  exact hz
theorem we_extendT {o : Expr} {apos cpos : Pos} (h : WE X o δ μ fun x μ1 => ∃ (p : Addr) (ds : List PyData), (∃ i : Nat, μ1[i]? = some (p, (ds : Cont))) ∧ x = .a p ∧ WE X e δ μ1 fun y μ2 => ∃ (fs ds : List PyData) (i : Nat), y = .d (.tuple fs) ∧ μ2[i]? = some (p, (ds : Cont)) ∧ ds.length + fs.length ≤ 100000 ∧ Q (.d .none) (μ2.set i (p, ds ++ fs)))
    (hbase : attributeBase o "extend" X.env (eval o X.env) = eval o X.env := by rfl)
    (hfew : ((backTo cpos (starEach [e] X.env)).all (fun x => !x.1) && (backToKw cpos (keywordEach [] X.env)).all (fun x => x.1.isSome)
      && decide ([e].length + ([] : List Keyword).length + (if ([] : List Keyword).isEmpty then 0 else 1) < 30)) = true := by rfl)
    (hline : (apos.endLine == cpos.line) = true := by rfl) (hs : starEach [e] X.env = (false, eval e X.env) :: starEach [] X.env := by rfl) (hplain : (backTo cpos (starEach [] X.env)).any (·.1) = false := by rfl) :
    WE X (.Call (.Attribute o "extend" apos) [e] [] cpos) δ μ Q :=
  we_bmL PySem.F.plainAttrs_list PySem.F.slot_list_extend PySem.F.type_list_extend mt_extT (h.mono fun x μ1 q => by
    obtain ⟨p, ds, ⟨i, hi⟩, rfl, q⟩ := q
    refine ⟨.c i hi, wa_one (q.mono fun y μ2 q => ?_) hs⟩
    obtain ⟨fs, ds', i', rfl, hi', hz, q⟩ := q
    intro F H v vs m o1 o2 QV c
    cases o2 with
    | cons o2 o3 =>
      cases o3
      obtain ⟨_, us, e1, hd⟩ := m.cel _ _ (List.mem_of_getElem? hi')
      obtain ⟨b, ws, rfl, e2, hd2⟩ := dp_tup o2
      obtain ⟨m2, w2⟩ := m.setCQ (es := ds' ++ fs) hi' (dqs_app hd (.of hd2))
      exact ⟨p, b, us, ws, o1, rfl, e1, same_t m.ex e2, by rw [dqs_len hd, dps_len hd2]; exact Nat.le_trans hz (by decide), c (.d .none) _ _ _ _ w2 m2 .non q⟩) hbase hfew hline hs hplain
theorem wg_setL {is : List Nat} {o i : Expr} {x : PyData} {G : Dl → Cells → Prop} (h : WE X o δ μ fun y μ1 => WE X i δ μ1 fun z μ2 => ∃ (p : Addr) (ds : List PyData) (k j : Nat), y = .a p ∧ z = .d (.int (k : Int)) ∧ μ2[j]? = some (p, (ds : Cont)) ∧ k < ds.length ∧ G δ (μ2.set j (p, ds.set k x)))
    (ha : ∀ v, assign (.Subscript o i pos) X.env v = (do
      let ov ← holding [v] (eval o X.env)
      let iv ← holding [v, ov] (eval i X.env)
      standAt pos
      holding [v, ov, iv] (setItem ov iv v)
      release [v, ov, iv] []) := by intro _; rfl) : WGo X is (.Subscript o i pos) (.d x) δ μ G := fun F H σ R v ov QV c =>
  toG (pg_sub (pcE X o) (pcE X i) set_list ha) (h F H σ R _ fun v1 y F1 H1 μ1 w1 R1 o1 q => q F1 H1 σ R1 _ fun v2 z F2 H2 μ2 w2 R2 o2 q => by
    obtain ⟨p, ds, k, j, rfl, rfl, hj, hk, q⟩ := q
    obtain ⟨_, us, e1, hd⟩ := R2.m.cel _ _ (List.mem_of_getElem? hj)
    have hv : De X.K F2 v x := dp_up (w1.f.trans w2.f) _ _ ov
    obtain ⟨m2, w3⟩ := R2.m.setCQ (es := ds.set k x) hj (dqs_set (.d hv) k hd)
    refine ⟨p, us, (k : Int), k, (o1 : v1 = .ref p), dp_int o2, e1, ?_, ?_⟩
    · unfold ixN
      rw [if_pos (by omega), if_pos (by rw [dqs_len hd]; omega)]
      simp
    · exact c F2 _ σ δ _ ((w1.trans w2).trans w3) (R2.to w3.f m2) Only.refl q)
end
end Ec
set_option Elab.async false
set_option linter.all false
set_option maxRecDepth 100000
set_option maxHeartbeats 4000000
namespace Ec
open PySem PySem.Spec PyProof.Rows L2
mutual
def noL : PyData → Bool
  | .none => true
  | .bool _ => true
  | .int _ => true
  | .str _ => true
  | .list _ => false
  | .tuple ds => noLs ds
  | .dict _ => false
def noLs : List PyData → Bool
  | [] => true
  | d :: ds => noL d && noLs ds
end
def cut (F : Hp) (p : Addr) : Hp := fun b => if b = p then none else F b
theorem cut_ne {F : Hp} {p b : Addr} (h : b ≠ p) : cut F p b = F b := if_neg h
theorem cut_same {F : Hp} {p : Addr} : cut F p p = none := if_pos rfl
theorem same_cut {F : Hp} {p : Addr} : Same (cut F p) F := fun b o e => by
  by_cases h : b = p
  · subst h
    rw [cut_same] at e
    cases e
  · rw [cut_ne h] at e
    exact e
mutual
theorem dp_cut {K : PySem.W.Frag} {F : Hp} {p : Addr} {us : List V} (hp : F p = some (.lst us)) : ∀ (d : PyData) (v : V), noL d = true → De K F v d → De K (cut F p) v d
  | .none, _, _, h => by cases h; exact .non
  | .bool b, _, _, h => by cases h; exact .bl b
  | .int i, _, _, h => by cases h; exact .int i
  | .str x, _, _, h => by cases h; exact .str x
  | .list ds, _, n, _ => by simp [noL] at n
  | .tuple ds, _, n, h => by
    cases h with
    | tup hs hn ha => exact .tup (by rw [cut_ne fun z => by rw [z, hp] at hs; cases hs]; exact hs) hn (dps_cut hp ds _ (by simpa [noL] using n) ha)
  | .dict _, _, n, _ => by simp [noL] at n
theorem dps_cut {K : PySem.W.Frag} {F : Hp} {p : Addr} {us : List V} (hp : F p = some (.lst us)) : ∀ (ds : List PyData) (vs : List V), noLs ds = true → DeAll K F vs ds → DeAll K (cut F p) vs ds
  | [], _, _, h => by cases h; exact .nil
  | d :: ds, _, n, h => by
    cases h with
    | cons h1 h2 =>
      have n' : noL d = true ∧ noLs ds = true := by simpa [noLs] using n
      exact .cons (dp_cut hp d _ n'.1 h1) (dps_cut hp ds _ n'.2 h2)
end
theorem noLs_ints : ∀ ns : List Int, noLs (intsD ns) = true
  | [] => rfl
  | n :: ns => by
    show (noL (.int n) && noLs (intsD ns)) = true
    rw [noLs_ints ns]
    rfl
theorem noLs_pl : ∀ {ds : List PyData}, noLs ds = true → plS ds
  | [], _ => plS_nil
  | d :: ds, h => by
    have h' : noL d = true ∧ noLs ds = true := by simpa [noLs] using h
    refine plS_cons ?_ (noLs_pl h'.2)
    cases d <;> first | rfl | (simp [noL] at h')
def noLv : Vd → Bool
  | .d x => noL x
  | .a _ => true
  | .w _ => false
  | .s _ => false
  | .k _ _ => false
  | .e _ _ _ _ => false
  | .z _ _ => false
  | .q _ _ => false
  | .m _ _ _ => false
def noLc : Cont → Bool
  | .l ds => noLs ds
  | _ => false
inductive Lent (p : Addr) (ds : List PyData) : List Vd → List Vd → Prop
  | nil : Lent p ds [] []
  | keep {x : Vd} {xs ys : List Vd} : Lent p ds xs ys → Lent p ds (x :: xs) (x :: ys)
  | lend {xs ys : List Vd} : Lent p ds xs ys → Lent p ds (.a p :: xs) (.d (.list ds) :: ys)
theorem Lent.ok {K : PySem.W.Frag} {F F' : Hp} {p : Addr} {ds : List PyData} (f : Same F F') (hp : De K F' (.ref p) (.list ds)) : ∀ {xs ys : List Vd} {vs : List V}, Lent p ds xs ys → VAll K F xs vs → VAll K F' ys vs
  | _, _, _, .nil, h => by
    cases h
    exact .nil
  | _, _, _, .keep l, h => by
    cases h with
    | cons h1 h2 => exact .cons (h1.up f) (Lent.ok f hp l h2)
  | _, _, _, .lend l, h => by
    cases h with
    | cons h1 h2 =>
      rw [show _ = V.ref p from h1]
      exact .cons hp (Lent.ok f hp l h2)
section
variable {X : Cx} {δ : Dl} {μ : Cells} {e a b : Expr} {pos p : Pos} {Q : Vd → Cells → Prop}
theorem we_callZ {P : Program} {w : World} {K : PySem.W.Frag} {mg : Str → Option Value} {base : Heap} {T : TrD} {k : Nat} {x : Str} {es : List Expr} (i : Nat) (c : Cal P w K mg base k x T) (hr : Room k X.A) (hg : Gl X x)
    (h : WA X (e :: es) δ μ fun xs μ1 => ∃ (q : Addr) (ds : List PyData) (ys : List Vd), μ1[i]? = some (q, (ds : Cont)) ∧ plS ds ∧ Lent q ds xs ys ∧ T ys [] fun z μ' => noLv z = true ∧ (∀ y ∈ μ', noLc y.2 = true) ∧ Q z (μ' ++ μ1))
    (hgd : X.A.guards = some [] := by assumption) (hX : (X.prog, X.w, X.K, X.mg, X.base) = (P, w, K, mg, base) := by rfl)
    (hdb : (x == ("__debug__" : Str)) = false := by decide) (he : starEach (e :: es) X.env = (false, eval e X.env) :: starEach es X.env := by rfl) (hpl : (backTo pos (starEach es X.env)).any (·.1) = false := by rfl) :
    WE X (.Call (.Name x p) (e :: es) [] pos) δ μ Q := fun F H σ R QV kk => by
  obtain ⟨f, fd, ps, ok, hm, hk, hb⟩ := c
  cases hX
  refine toE (pe_callg ok hr hgd hg hm hk hb pass0 (pcA X (e :: es)) hdb he hpl) (h F H σ R _ fun vs xs F1 H1 μ1 w1 R1 o1 q => ?_)
  obtain ⟨q, ds, ys, hi, pl, hl, q0⟩ := q
  have pm : μ1.Perm ((q, (ds : Cont)) :: μ1.eraseIdx i) := by
    obtain ⟨hlt, e⟩ := List.getElem?_eq_some_iff.mp hi
    rw [← e]
    exact perm_erase hlt
  replace w1 := w1.perm (K := X.K) pm
  replace R1 := R1.perm pm
  generalize hμr : μ1.eraseIdx i = μr at pm w1 R1
  obtain ⟨us, hq, hd, m, sf, fq, out⟩ := R1.m.freeze pl
  have m0 : RpM X.K (upd F1 q (.lst us)) H1 [] := ⟨m.ex, List.nodup_nil, fun _ _ z => by cases z⟩
  refine ⟨_, ys, [], _, m0, Lent.ok sf (.lst upd_same hd) hl o1, q0, fun v z F2 H2 μ2 w2 m2 o2 q2 => ?_⟩
  obtain ⟨q2, q3, q4⟩ := q2
  have f2q : F2 q = some (.lst us) := w2.f q _ upd_same
  have nq : ∀ b, F1 b ≠ none → b ≠ q := fun b hb z => hb (z ▸ fq)
  have f12 : Same F1 (cut F2 q) := fun b o hb => by
    rw [cut_ne (nq b (by rw [hb]; exact fun z => by cases z))]
    exact w2.f b o (sf b o hb)
  have inr : ∀ b ∈ ks μr, F1 b = none ∧ H1 b ≠ none ∧ b ≠ q := fun b hb => by
    obtain ⟨⟨b', fs⟩, hm', e'⟩ := List.mem_map.mp hb
    have e2 : b' = b := e'
    subst e2
    obtain ⟨g1, g2⟩ := R1.m.cel b' fs (List.mem_cons_of_mem _ hm')
    exact ⟨g1, g2.ne, fun z => out (z ▸ hb)⟩
  have fresh : ∀ b ∈ ks μ2, H1 b = none := fun b hb => (w2.s b hb).elim (fun z => by cases z) id
  have W : Fw (ks ((q, (ds : Cont)) :: μr)) (ks (μ2 ++ (q, (ds : Cont)) :: μr)) F1 H1 (cut F2 q) H2 := by
    refine ⟨f12, fun b o hb _ => w2.k b o hb (by simp), fun b hb hb2 nb => ?_, fun b hb => ?_⟩
    · have nbq : b ≠ q := fun z => nb (z ▸ List.mem_cons_self)
      rw [cut_ne nbq]
      exact w2.c b (by rw [upd_ne nbq]; exact hb) hb2 (by simp)
    · rw [ks_app] at hb
      rcases List.mem_append.mp hb with hb | hb
      · exact .inr (fresh b hb)
      · exact .inl hb
  have M : RpM X.K (cut F2 q) H2 (μ2 ++ (q, (ds : Cont)) :: μr) := by
    refine ⟨same_cut.trans m2.ex, ?_, fun b fs hb => ?_⟩
    · rw [ks_app]
      refine List.nodup_append.mpr ⟨m2.nd, R1.m.nd, fun x mx y my e' => ?_⟩
      subst e'
      have h0 := fresh x mx
      obtain ⟨⟨b', fs⟩, hm', e'⟩ := List.mem_map.mp my
      have e2 : b' = x := e'
      subst e2
      exact (R1.m.cel b' fs hm').2.ne h0
    · rcases List.mem_append.mp hb with hb | hb
      · have hn := q3 _ hb
        cases fs with
        | l fs =>
          obtain ⟨g1, ws, g2, g3⟩ := m2.cel b _ hb
          have nbq : b ≠ q := fun z => by
            rw [z, f2q] at g1
            cases g1
          exact ⟨by rw [cut_ne nbq]; exact g1, ws, g2, .of (dps_cut f2q _ _ hn (g3.to (noLs_pl hn)))⟩
        | i _ => cases hn
        | t _ => cases hn
        | o _ _ => cases hn
      · rcases List.mem_cons.mp hb with hb | hb
        · cases hb
          obtain ⟨_, ws, g2, g3⟩ := R1.m.cel q (.l ds) List.mem_cons_self
          exact ⟨cut_same, ws, w2.k q _ g2 (by simp), dqs_up f12 _ _ g3⟩
        · obtain ⟨g1, g2⟩ := R1.m.cel b fs (List.mem_cons_of_mem _ hb)
          obtain ⟨i1, i2, i3⟩ := inr b (List.mem_map.mpr ⟨_, hb, rfl⟩)
          refine ⟨?_, g2.to f12 fun o e => w2.k b o e (by simp)⟩
          rw [cut_ne i3]
          exact w2.c b (by rw [upd_ne i3]; exact g1) i2 (by simp)
  have pm2 : (μ2 ++ (q, (ds : Cont)) :: μr).Perm (μ2 ++ μ1) := List.Perm.append_left μ2 pm.symm
  refine kk v z (cut F2 q) H2 (μ2 ++ μ1) ((w1.trans W).perm (K := X.K) pm2) (R1.to f12 (M.perm pm2)) ?_ q4
  cases z with
  | d x => exact dp_cut f2q x v q2 o2
  | a r => exact o2
  | w es => cases q2
  | s es => cases q2
  | k _ _ => cases q2
  | e _ _ _ _ => cases q2
  | z _ _ => cases q2
  | q _ _ => cases q2
  | m _ _ _ => cases q2
theorem we_callP {P : Program} {w : World} {K : PySem.W.Frag} {mg : Str → Option Value} {base : Heap} {T : TrD} {k : Nat} {x : Str} {es : List Expr} (c : Cal P w K mg base k x T) (hr : Room k X.A) (hg : Gl X x) (h : WA X (e :: es) δ μ fun xs μ1 => T xs [] fun z μ' => Q z (μ' ++ μ1))
    (hgd : X.A.guards = some [] := by assumption) (hX : (X.prog, X.w, X.K, X.mg, X.base) = (P, w, K, mg, base) := by rfl)
    (hdb : (x == ("__debug__" : Str)) = false := by decide) (he : starEach (e :: es) X.env = (false, eval e X.env) :: starEach es X.env := by rfl) (hpl : (backTo pos (starEach es X.env)).any (·.1) = false := by rfl) :
    WE X (.Call (.Name x p) (e :: es) [] pos) δ μ Q := by
  cases hX
  refine we_call c hr hg (fun F H σ R QV kk => h F H σ R QV fun vs xs F1 H1 μ1 w1 R1 o1 q => kk vs xs F1 H1 μ1 w1 R1 o1 ⟨[], μ1, rfl, q⟩) hgd hdb he hpl
theorem perm_set {α : Type} : ∀ {l : List α} {i : Nat} (h : i < l.length) (y : α), (l.set i y).Perm (y :: l.eraseIdx i)
  | x :: r, 0, _, y => List.Perm.refl _
  | x :: r, i + 1, h, y => ((perm_set (l := r) (i := i) (Nat.lt_of_succ_lt_succ h) y).cons x).trans (List.Perm.swap _ _ _)
theorem we_callB {P : Program} {w : World} {K : PySem.W.Frag} {mg : Str → Option Value} {base : Heap} {T : TrD} {k : Nat} {x : Str} {es : List Expr} (i : Nat) (c : Cal P w K mg base k x T) (hr : Room k X.A) (hg : Gl X x)
    (h : WA X (e :: es) δ μ fun xs μ1 => ∃ (q : Addr) (ds : Cont), μ1[i]? = some (q, ds) ∧ T xs [(q, ds)] fun z μ' => ∃ (new : Cells) (ds' : Cont), μ' = new ++ ([(q, ds')] : Cells) ∧ Q z (new ++ μ1.set i (q, ds'))) (hgd : X.A.guards = some [] := by assumption) (hX : (X.prog, X.w, X.K, X.mg, X.base) = (P, w, K, mg, base) := by rfl)
    (hdb : (x == ("__debug__" : Str)) = false := by decide) (he : starEach (e :: es) X.env = (false, eval e X.env) :: starEach es X.env := by rfl) (hpl : (backTo pos (starEach es X.env)).any (·.1) = false := by rfl) :
    WE X (.Call (.Name x p) (e :: es) [] pos) δ μ Q := fun F H σ R QV kk => by
  obtain ⟨f, fd, ps, ok, hm, hk, hb⟩ := c
  cases hX
  refine toE (pe_callg ok hr hgd hg hm hk hb pass0 (pcA X (e :: es)) hdb he hpl) (h F H σ R _ fun vs xs F1 H1 μ1 w1 R1 o1 q => ?_)
  obtain ⟨q, ds, hi, q0⟩ := q
  have hlt := (List.getElem?_eq_some_iff.mp hi).1
  have pm : μ1.Perm ([(q, ds)] ++ μ1.eraseIdx i) := by
    obtain ⟨hlt, e⟩ := List.getElem?_eq_some_iff.mp hi
    rw [← e]
    exact perm_erase hlt
  have w1p := w1.perm (K := X.K) pm
  have R1p := R1.perm pm
  refine ⟨F1, xs, [(q, ds)], _, R1p.m.left, o1, q0, fun v z F2 H2 μ2 w2 m2 o2 q2 => ?_⟩
  obtain ⟨new, ds', rfl, q3⟩ := q2
  obtain ⟨m3, w3⟩ := R1p.m.frame w2 m2
  have pm2 : (new ++ [(q, ds')] ++ μ1.eraseIdx i).Perm (new ++ μ1.set i (q, ds')) := by
    rw [List.append_assoc]
    exact List.Perm.append_left new (perm_set hlt (q, ds')).symm
  exact kk v z F2 H2 _ ((w1p.trans w3).perm (K := X.K) pm2) (R1p.to w2.f (m3.perm pm2) |>.to (Same.refl _) (m3.perm pm2)) o2 q3
end
local macro_rules | `(tactic| walk_at "vis") => `(tactic| first | exact Or.inl rfl | exact Or.inr (Or.inl rfl) | exact Or.inr (Or.inr rfl))
end Ec
set_option Elab.async false
set_option linter.all false
set_option maxRecDepth 100000
set_option maxHeartbeats 4000000
namespace Ec
open PySem PySem.Spec PyProof.Rows L2
section
variable {X : Cx} {δ : Dl} {μ : Cells} {e a b : Expr} {pos p : Pos} {Q : Vd → Cells → Prop}
theorem wb_names {N : List Str} {st : List Stmt} {D : Dn} (hN : X.N = N) (k : (∀ (i : Nat) x, N[i]? = some x → X.N[i]? = some x) → WB X st δ μ D) : WB X st δ μ D := k (by rw [hN]; exact fun _ _ h => h)
theorem lcP {α : Type} (ι : α → PyData) (t : α → Bool) (g : α → PyData) {elt tg iter : Expr} {ifs : List Expr} {scope : Scope} {own : List (Str × Nat)}
    (h : WI X tg iter δ μ fun ds μ1 => ∃ xs : List α, ds = xs.map ι ∧ xs.length ≤ 100000 ∧ (∀ x ∈ xs, Blk X scope fun Y => WGo Y (own.map (·.2)) tg (.d (ι x)) (wipeD δ (own.map (·.2))) μ1 fun δ2 μ2 => Blk X scope fun Y => WTs Y ifs δ2 μ2 fun k μ3 => k = t x ∧
        if k = true then Blk X scope fun Y => WE Y elt δ2 μ3 fun y μ4 => y = .d (g x) ∧ μ4 = μ1 else μ3 = μ1) ∧ ∀ q, Q (.a q) ((q, (xs.filter t).map g) :: μ1)) : LcP X scope own elt tg iter ifs δ μ Q := by
  intro F H σ R RV c
  refine h F H σ R RV fun J ds F' H' μ' w r wk q => c J ds F' H' μ' w r wk ?_
  obtain ⟨xs, rfl, hz, hx, hq⟩ := q
  refine ⟨fun i acc μ2 => μ2 = μ' ∧ acc = ((xs.take i).filter t).map g, ⟨rfl, by simp⟩, by rw [List.length_map]; exact hz, fun i acc μ2 q => ?_, fun i d acc μ2 hd q => ?_, fun acc μ2 q p => ?_⟩
  · rw [q.2, List.length_map]
    refine Nat.le_trans (List.length_filter_le _ _) ?_
    rw [List.length_take]
    exact Nat.min_le_left _ _
  · obtain ⟨rfl, rfl⟩ := q
    rw [List.getElem?_map] at hd
    cases q : xs[i]? with
    | none =>
      rw [q] at hd
      cases hd
    | some x =>
      rw [q] at hd
      cases hd
      have tk : xs.take (i + 1) = xs.take i ++ [x] := by rw [List.take_add_one, q]; rfl
      intro s H C cl fp F0 H0 σ0 R0 v o QV c
      refine hx x (List.mem_of_getElem? q) s H C cl fp F0 H0 σ0 R0 v o QV fun F1 H1 σ1 δ1 μ1 w1 R1 y1 q1 => c F1 H1 σ1 δ1 μ1 w1 R1 y1 ?_
      have fin : ∀ k μ3, (k = t x ∧ if k = true then Blk X scope fun Y => WE Y elt δ1 μ3 fun y μ4 => y = .d (g x) ∧ μ4 = μ2 else μ3 = μ2) →
          (if k = true then Blk X scope fun Y => WE Y elt δ1 μ3 fun y μ4 => ∃ yd, y = .d yd ∧ μ4 = μ2 ∧ ((xs.take i).filter t).map g ++ [yd] = ((xs.take (i + 1)).filter t).map g else μ3 = μ2 ∧ ((xs.take i).filter t).map g = ((xs.take (i + 1)).filter t).map g) := by
        intro k μ3 ⟨ek, q⟩
        rw [tk, List.filter_append, List.map_append]
        cases k with
        | true =>
          rw [if_pos rfl] at q ⊢
          intro s H C cl fp
          refine (q s H C cl fp).mono fun y μ4 q => ⟨_, q.1, q.2, ?_⟩
          simp [← ek]
        | false =>
          rw [if_neg (by decide)] at q ⊢
          refine ⟨q, ?_⟩
          simp [← ek]
      intro s H C cl fp
      have h1 := q1 s H C cl fp
      match ifs, h1 with
      | [], h1 => exact fin _ _ h1
      | [cnd], h1 => exact (show WT _ cnd δ1 μ1 _ from h1).mono fun k μ3 q => fin k μ3 q
      | _ :: _ :: _, h1 => exact h1
  · obtain ⟨rfl, rfl⟩ := q
    rw [List.length_map, List.take_length]
    exact hq p
theorem lcW {α : Type} (ι : α → PyData) (t : α → Bool) (g : α → PyData) {elt tg iter : Expr} {ifs : List Expr} {scope : Scope} {own : List (Str × Nat)}
    (h : WI X tg iter δ μ fun ds μ1 => ∃ xs : List α, ds = xs.map ι ∧ xs.length ≤ 100000 ∧ (∀ x ∈ xs, Blk X scope fun Y => WGo Y (own.map (·.2)) tg (.w (ι x)) (wipeD δ (own.map (·.2))) μ1 fun δ2 μ2 => Blk X scope fun Y => WTs Y ifs δ2 μ2 fun k μ3 => k = t x ∧
        if k = true then Blk X scope fun Y => WE Y elt δ2 μ3 fun y μ4 => y = .d (g x) ∧ μ4 = μ1 else μ3 = μ1) ∧ ∀ q, Q (.a q) ((q, (xs.filter t).map g) :: μ1)) : LcPg Vd.w X scope own elt tg iter ifs δ μ Q := by
  intro F H σ R RV c
  refine h F H σ R RV fun J ds F' H' μ' w r wk q => c J ds F' H' μ' w r wk ?_
  obtain ⟨xs, rfl, hz, hx, hq⟩ := q
  refine ⟨fun i acc μ2 => μ2 = μ' ∧ acc = ((xs.take i).filter t).map g, ⟨rfl, by simp⟩, by rw [List.length_map]; exact hz, fun i acc μ2 q => ?_, fun i d acc μ2 hd q => ?_, fun acc μ2 q p => ?_⟩
  · rw [q.2, List.length_map]
    refine Nat.le_trans (List.length_filter_le _ _) ?_
    rw [List.length_take]
    exact Nat.min_le_left _ _
  · obtain ⟨rfl, rfl⟩ := q
    rw [List.getElem?_map] at hd
    cases q : xs[i]? with
    | none =>
      rw [q] at hd
      cases hd
    | some x =>
      rw [q] at hd
      cases hd
      have tk : xs.take (i + 1) = xs.take i ++ [x] := by rw [List.take_add_one, q]; rfl
      intro s H C cl fp F0 H0 σ0 R0 v o QV c
      refine hx x (List.mem_of_getElem? q) s H C cl fp F0 H0 σ0 R0 v o QV fun F1 H1 σ1 δ1 μ1 w1 R1 y1 q1 => c F1 H1 σ1 δ1 μ1 w1 R1 y1 ?_
      have fin : ∀ k μ3, (k = t x ∧ if k = true then Blk X scope fun Y => WE Y elt δ1 μ3 fun y μ4 => y = .d (g x) ∧ μ4 = μ2 else μ3 = μ2) →
          (if k = true then Blk X scope fun Y => WE Y elt δ1 μ3 fun y μ4 => ∃ yd, y = .d yd ∧ μ4 = μ2 ∧ ((xs.take i).filter t).map g ++ [yd] = ((xs.take (i + 1)).filter t).map g else μ3 = μ2 ∧ ((xs.take i).filter t).map g = ((xs.take (i + 1)).filter t).map g) := by
        intro k μ3 ⟨ek, q⟩
        rw [tk, List.filter_append, List.map_append]
        cases k with
        | true =>
          rw [if_pos rfl] at q ⊢
          intro s H C cl fp
          refine (q s H C cl fp).mono fun y μ4 q => ⟨_, q.1, q.2, ?_⟩
          simp [← ek]
        | false =>
          rw [if_neg (by decide)] at q ⊢
          refine ⟨q, ?_⟩
          simp [← ek]
      intro s H C cl fp
      have h1 := q1 s H C cl fp
      match ifs, h1 with
      | [], h1 => exact fin _ _ h1
      | [cnd], h1 => exact (show WT _ cnd δ1 μ1 _ from h1).mono fun k μ3 q => fin k μ3 q
      | _ :: _ :: _, h1 => exact h1
  · obtain ⟨rfl, rfl⟩ := q
    rw [List.length_map, List.take_length]
    exact hq p
end
abbrev Co := List (List Int × Int)
def SqD (d : PyData) (ds : List PyData) : Prop := d = .list ds ∨ d = .tuple ds
def EnD (d : PyData) (e : List Int × Int) : Prop := ∃ df, SqD d [df, .int e.2] ∧ SqD df (intsD e.1)
def AllD {α : Type} (r : PyData → α → Prop) : List PyData → List α → Prop
  | [], [] => True
  | d :: ds, x :: xs => r d x ∧ AllD r ds xs
  | _, _ => False
theorem allD_len {α : Type} {r : PyData → α → Prop} : ∀ {ds : List PyData} {xs : List α}, AllD r ds xs → ds.length = xs.length
  | [], [], _ => rfl
  | d :: ds, x :: xs, h => by simp [allD_len h.2]
  | [], _ :: _, h => h.elim
  | _ :: _, [], h => h.elim
theorem allD_get {α : Type} {r : PyData → α → Prop} : ∀ {ds : List PyData} {xs : List α} {i : Nat} {x : α}, AllD r ds xs → xs[i]? = some x → ∃ d, ds[i]? = some d ∧ r d x
  | [], [], _, _, _, e => by simp at e
  | d :: ds, x :: xs, 0, y, h, e => by
    simp at e
    subst e
    exact ⟨d, rfl, h.1⟩
  | d :: ds, x :: xs, i + 1, y, h, e => by
    obtain ⟨d', e1, e2⟩ := allD_get (i := i) h.2 (by simpa using e)
    exact ⟨d', by simpa using e1, e2⟩
  | [], _ :: _, _, _, h, _ => h.elim
  | _ :: _, [], _, _, h, _ => h.elim
structure CoD (d : PyData) (c : Co) : Prop where
  sq : ∃ ds, SqD d ds ∧ AllD EnD ds c
  len : c.length ≤ 1000
  frs : ∀ e ∈ c, e.1.length ≤ 1000
def fr (c : Co) (p : Int) : List Int := (c.getD p.toNat ([], 0)).1
def nd (c : Co) (p : Int) : Int := (c.getD p.toNat ([], 0)).2
def cnt (c : Co) (t : List Int) (p : Int) : Int := (((fr c p).filter fun x => decide (x ∈ t)).length : Nat)
def comes (c : Co) (t : List Int) (p : Int) : Bool := decide (nd c p ≤ cnt c t p)
def rng (n : Nat) : List Int := (List.range n).map fun (i : Nat) => (i : Int)
def nexts (c : Co) (t : List Int) : List Int := ((rng c.length).filter fun p => !decide (p ∈ t)).filter (comes c t)
theorem rng_len (n : Nat) : (rng n).length = n := by simp [rng]
theorem mem_rng {n : Nat} {p : Int} : p ∈ rng n ↔ 0 ≤ p ∧ p < n := by
  unfold rng
  rw [List.mem_map]
  constructor
  · rintro ⟨i, h, rfl⟩
    rw [List.mem_range] at h
    omega
  · rintro ⟨h1, h2⟩
    exact ⟨p.toNat, by rw [List.mem_range]; omega, by omega⟩
theorem rangeD_eq (n : Nat) : rangeD 0 n = intsD (rng n) := by
  unfold rangeD intsD rng
  rw [List.map_map]
  refine List.map_congr_left fun i _ => ?_
  simp
theorem mem_nexts {c : Co} {t : List Int} {p : Int} : p ∈ nexts c t ↔ (0 ≤ p ∧ p < c.length) ∧ p ∉ t ∧ comes c t p = true := by
  unfold nexts
  rw [List.mem_filter, List.mem_filter, mem_rng]
  simp [and_assoc]
theorem ct_sq {μ : Cells} {d : PyData} {ds : List PyData} (h : SqD d ds) : Ct μ (.d d) ds := by
  rcases h with rfl | rfl
  · exact .l ds
  · exact .t ds
theorem seqd_sq {d : PyData} {ds : List PyData} (h : SqD d ds) : Seqd (.d d) ds := by
  rcases h with rfl | rfl
  · exact .l ds
  · exact .t ds
theorem co_at {d : PyData} {c : Co} {p : Int} (h : CoD d c) (h0 : 0 ≤ p) (h1 : p < c.length) : ∃ ds de, SqD d ds ∧ atI ds p = some de ∧ EnD de (fr c p, nd c p) := by
  obtain ⟨ds, sq, al⟩ := h.sq
  have hl : p.toNat < c.length := by omega
  obtain ⟨de, e1, e2⟩ := allD_get al (List.getElem?_eq_getElem hl)
  refine ⟨ds, de, sq, ?_, ?_⟩
  · have := atI_nat e1
    rw [show ((p.toNat : Nat) : Int) = p by omega] at this
    exact this
  · unfold fr nd
    rw [List.getD_eq_getElem?_getD, List.getElem?_eq_getElem hl]
    exact e2
theorem fr_len {d : PyData} {c : Co} {p : Int} (h : CoD d c) : (fr c p).length ≤ 1000 := by
  unfold fr
  rw [List.getD_eq_getElem?_getD]
  cases q : c[p.toNat]? with
  | none => exact Nat.zero_le _
  | some e => exact h.frs e (List.mem_of_getElem? q)
end Ec
set_option Elab.async false
set_option linter.all false
set_option maxRecDepth 100000
set_option maxHeartbeats 4000000
namespace Ec
open PySem PySem.Spec PyProof.Rows L2
theorem itT {b : Bool} {p q : Prop} (h : b = true) (g : p) : if b = true then p else q := by rw [if_pos h]; exact g
theorem itF {b : Bool} {p q : Prop} (h : b = false) (g : q) : if b = true then p else q := by rw [if_neg (by rw [h]; decide)]; exact g
inductive Kn (μ : Cells) : Vd → Prop
  | d (x : PyData) : Kn μ (.d x)
  | c (i : Nat) {p : Addr} {ds : List PyData} (h : μ[i]? = some (p, (ds : Cont))) : Kn μ (.a p)
theorem Kn.x {μ : Cells} (ds : List PyData) : Kn μ (.x ds) := .d _
section
variable {X : Cx} {δ : Dl} {μ : Cells} {e a b : Expr} {pos p p2 : Pos} {Q : Vd → Cells → Prop} {es : List Expr} {mg : Str → Option Value}
end
section
variable {X : Cx} {δ : Dl} {μ : Cells} {e a b : Expr} {pos p p2 : Pos} {Q : Vd → Cells → Prop} {es : List Expr} {mg : Str → Option Value}
end
section
variable {X : Cx} {δ : Dl} {μ : Cells} {e a b : Expr} {pos p p2 : Pos} {Q : Vd → Cells → Prop} {es : List Expr} {mg : Str → Option Value}
def cutZ (ds : List PyData) (lo hi : Option Int) : List PyData := (ds.drop (HT.sIx ds.length 0 lo)).take (HT.sIx ds.length ds.length hi - HT.sIx ds.length 0 lo)
theorem dps_cutZ {K : PySem.W.Frag} {F : Hp} {ds : List PyData} {vs : List V} (h : DeAll K F vs ds) (lo hi : Option Int) : DeAll K F (cutV vs lo hi) (cutZ ds lo hi) := by
  unfold cutV cutZ
  rw [dps_len h]
  exact dps_take _ (dps_drop _ h)
theorem cutZ_whole {ds : List PyData} {lo hi : Option Int} (h : HT.sIx ds.length 0 lo = 0 ∧ HT.sIx ds.length ds.length hi = ds.length) : cutZ ds lo hi = ds := by
  unfold cutZ
  rw [h.1, h.2]
  simp
def tO (X : Cx) : Option Expr → TO
  | none => tNoPart
  | some e => tPart (cE X e)
theorem pcO : ∀ (o : Option Expr), PO X o (tO X o)
  | none => po_none
  | some e => po_some (pcE X e)
def WO (X : Cx) (o : Option Expr) (δ : Dl) (μ : Cells) (QO : Option Int → Cells → Prop) : Prop := match o with
  | none => QO none μ
  | some e => WE X e δ μ fun z μ1 => ∃ i, z = .d (.int i) ∧ QO (some i) μ1
theorem wo_run {o : Option Expr} {QO : Option Int → Cells → Prop} (h : WO X o δ μ QO) {F H : Hp} {σ : L2.St} (R : Rp X.K F H σ δ μ) {QV : Option Int → Hp → Prop}
    (c : ∀ i F' H' μ', Fw (ks μ) (ks μ') F H F' H' → Rp X.K F' H' σ δ μ' → QO i μ' → QV i H') : tO X o σ H QV := by
  cases o with
  | none => exact c none F H μ Fw.refl R h
  | some e =>
    refine (show WE X e δ μ _ from h) F H σ R _ fun v z F1 H1 μ1 w1 R1 o1 q => ?_
    obtain ⟨i, rfl, q⟩ := q
    exact ⟨i, dp_int o1, c _ F1 H1 μ1 w1 R1 q⟩
def rSlX (K : PySem.W.Frag) : V → Option Int → Option Int → Hp → VK → Prop := fun x lo hi H Q => ∃ t ys, x = .ref t ∧ SqT K H t ys ∧
  ((HT.sIx ys.length 0 lo = 0 ∧ HT.sIx ys.length ys.length hi = ys.length) → Q (.ref t) H) ∧
  (¬ (HT.sIx ys.length 0 lo = 0 ∧ HT.sIx ys.length ys.length hi = ys.length) → ∀ l o, o.dict = none → H l = none → Q (.ref l) (upd H l (.frz o (.tup (cutV ys lo hi)))))
theorem sl_tupX {X : Cx} : SlR X (rSlX X.K) := fun pins st σ H x v vl vu lo hi sl Q iv rx sli ql qu h => by
  obtain ⟨t, ys, e, hq, hw, hn⟩ := h
  by_cases w : HT.sIx ys.length 0 lo = 0 ∧ HT.sIx ys.length ys.length hi = ys.length
  · exact sl_tupA pins st σ H x v vl vu lo hi sl Q iv rx sli ql qu ⟨t, ys, e, hq, hw, fun nw => absurd w nw⟩
  · subst e
    cases rx
    obtain ⟨its, rv, it, hz⟩ := iv.tuple hq
    have en : its.toArray.size = ys.length := by rw [List.size_toArray, rv.length]
    refine ⟨"tuple", _, PyProof.Rows.slot_tuple_getitem.lookup, it.typeIs, HT.getItem_tuple_cut it sli ql qu (by rw [en]; exact w) ?_ (by rw [en]; exact hz)⟩
    rw [en]
    have nf := iv.hok.fresh (Nat.le_refl st.heap.objs.size)
    have rc : Vals (cutV ys lo hi) _ := (rv.drop (HT.sIx ys.length 0 lo)).take (HT.sIx ys.length ys.length hi - HT.sIx ys.length 0 lo)
    exact ⟨.ref st.heap.objs.size, _, iv.laid (t' := st.toks) (o := .frz _ (.tup (cutV ys lo hi))) (fun b ob q => Heap.get?_push_of_some _ q) (Nat.le_refl _)
      ⟨Heap.get?_push_size _ rfl, Nat.le_trans (cutV_length ys lo hi) hz, _, rc, IsTup.new _ _⟩, rfl, hn w _ _ rfl nf⟩
theorem we_slT {lo hi : Option Expr} (h : WE X e δ μ fun x μ1 => WO X lo δ μ1 fun l μ2 => WO X hi δ μ2 fun u μ3 => ∃ ds, x = .d (.tuple ds) ∧ Q (.d (.tuple (cutZ ds l u))) μ3) : WE X (.Subscript e (.Slice lo hi none p2) pos) δ μ Q := fun F H σ R QV c =>
  toE (pe_slice sl_tupX (pcE X e) (pcO lo) (pcO hi)) (h F H σ R _ fun v x F1 H1 μ1 w1 R1 o1 q => wo_run q R1 fun l F2 H2 μ2 w2 R2 q2 => wo_run q2 R2 fun u F3 H3 μ3 w3 R3 q3 => by
    obtain ⟨ds, rfl, q3⟩ := q3
    obtain ⟨a, vs, ob, rfl, h1, h2, hd⟩ := dp_tupX (o1.up (w2.f.trans w3.f))
    refine ⟨a, vs, rfl, .inl (.inr ⟨ob, R3.m.ex _ _ h1⟩), fun hw => ?_, fun _ l' o ho nl => ?_⟩
    · rw [dps_len hd] at hw
      refine c _ (.d (.tuple _)) F3 H3 μ3 ((w1.trans w2).trans w3) R3 ?_ q3
      rw [cutZ_whole hw]
      exact .tup h1 h2 hd
    · obtain ⟨m4, w4⟩ := R3.m.new (o := .frz o (.tup (cutV vs l u))) nl
      exact c _ (.d (.tuple _)) _ _ μ3 (((w1.trans w2).trans w3).trans w4) (R3.to w4.f m4) (.tup upd_same ho (dps_up w4.f _ _ (dps_cutZ hd l u))) q3)
theorem we_slL {lo hi : Option Expr} (h : WE X e δ μ fun x μ1 => WO X lo δ μ1 fun l μ2 => WO X hi δ μ2 fun u μ3 => ∃ ds, Ct μ3 x ds ∧ (∀ ds, toC x ≠ .tuple ds) ∧ ∀ p, Q (.a p) ((p, cutZ ds l u) :: μ3)) : WE X (.Subscript e (.Slice lo hi none p2) pos) δ μ Q := fun F H σ R QV c =>
  toE (pe_slice sl_list (pcE X e) (pcO lo) (pcO hi)) (h F H σ R _ fun v x F1 H1 μ1 w1 R1 o1 q => wo_run q R1 fun l F2 H2 μ2 w2 R2 q2 => wo_run q2 R2 fun u F3 H3 μ3 w3 R3 q3 => by
    obtain ⟨ds, ct, nt, q3⟩ := q3
    obtain ⟨a, vs, rfl, hs, hd⟩ := ct_lst R3.m (o1.up (w2.f.trans w3.f)) ct nt
    refine ⟨a, vs, rfl, hs, fun l' nl => ?_⟩
    obtain ⟨m4, w4⟩ := R3.m.cell nl (dps_cutZ hd l u)
    exact c _ (.a l') _ _ _ (((w1.trans w2).trans w3).trans w4) (R3.to w4.f m4) rfl (q3 l'))
theorem vall_q {K : PySem.W.Frag} {F : Hp} : ∀ {xs : List Vd} {vs : List V}, (∀ d, Vd.w d ∉ xs ∧ ∀ ns, Vd.s ns ∉ xs) → VAll K F xs vs → DqAll K F vs (xs.map toC)
  | _, _, _, .nil => .nil
  | _, _, n, .cons h t => .cons (VOk.toC (fun d => ⟨fun e => (n d).1 (e ▸ List.mem_cons_self), fun ns e => (n d).2 ns (e ▸ List.mem_cons_self)⟩) h) (vall_q (fun d => ⟨fun m => (n d).1 (List.mem_cons_of_mem _ m), fun ns m => (n d).2 ns (List.mem_cons_of_mem _ m)⟩) t)
theorem we_lstP (h : WA X es δ μ fun xs μ1 => xs.length ≤ 100000 ∧ (∀ d, Vd.w d ∉ xs ∧ ∀ ns, Vd.s ns ∉ xs) ∧ ∀ p, Q (.a p) ((p, xs.map toC) :: μ1)) : WE X (.List es pos) δ μ Q := fun F H σ R QV c =>
  toE (pe_lst (pcA X es)) (h F H σ R _ fun vs xs F1 H1 μ1 w1 R1 o1 q => by
    obtain ⟨hl, nw, q⟩ := q
    have hd := vall_q nw o1
    refine ⟨by rw [dqs_len hd, List.length_map]; exact Nat.le_trans hl (by decide), fun p np => ?_⟩
    obtain ⟨m, w⟩ := R1.m.cellQ np hd
    exact c _ (.a p) _ _ _ (w1.trans w) (R1.to w.f m) rfl (q p))
end
section
variable {K : PySem.W.Frag} {μ : Cells} {Q : Vd → Cells → Prop}
theorem ow_ixC {q : Addr} {i : Int} {d : PyData} {ds : List PyData} (j : Nat) (hj : μ[j]? = some (q, (ds : Cont))) (ha : atI ds i = some d) (h : (isP d = false ∧ Q (.d d) μ) ∨ ∃ r, d = ptr r ∧ Q (.a r) μ) : OpW K (rIx K) (.a q) (.d (.int i)) μ Q := fun F H v u m o1 o2 QV c => by
  obtain ⟨_, vs, e1, hd⟩ := m.cel _ _ (List.mem_of_getElem? hj)
  have hv : ∃ w, atI vs i = some w ∧ Dq K F w d := by
    unfold atI at ha ⊢
    rw [dqs_len hd]
    cases q : ixN ds.length i with
    | none =>
      rw [q] at ha
      cases ha
    | some j =>
      rw [q] at ha
      exact dqs_get hd ha
  obtain ⟨w, hw, ow⟩ := hv
  refine .inl ⟨q, vs, i, w, o1, dp_int o2, .of e1, hw, ?_⟩
  rcases h with ⟨hp, h⟩ | ⟨r, rfl, h⟩
  · exact c (.d d) w F H μ Fw.refl m (ow.to hp) h
  · refine c (.a r) w F H μ Fw.refl m ?_ h
    cases ow with
    | d h => cases h
    | p a => rfl
inductive LItem (μ : Cells) : PyData → PyData → Prop
  | d {d : PyData} (h : isP d = false) : LItem μ d d
  | q (j : Nat) {q : Addr} {es : List PyData} (h : μ[j]? = some (q, (es : Cont))) (pl : plS es) : LItem μ (ptr q) (.list es)
abbrev LItems (μ : Cells) : List PyData → List PyData → Prop := Paired (LItem μ)
inductive LView (μ : Cells) : Addr → PyData → Prop
  | mk (i : Nat) {p : Addr} {rs ds : List PyData} (h : μ[i]? = some (p, (rs : Cont))) (hs : LItems μ rs ds) : LView μ p (.list ds)
theorem litems_pl {rs : List PyData} (h : plS rs) : LItems μ rs rs := by
  induction rs with
  | nil => exact .nil
  | cons r t ih => exact .cons (.d (h r List.mem_cons_self)) (ih fun d m => h d (List.mem_cons_of_mem _ m))
def allF (F H : Hp) (bs : List Addr) : Hp := fun b => if b ∈ bs then H b else F b
theorem RpM.all {F H : Hp} (m : RpM K F H μ) : Same F (allF F H (ks μ)) ∧ Same (allF F H (ks μ)) H ∧ ∀ b ∈ ks μ, F b = none ∧ ∃ o, allF F H (ks μ) b = some o ∧ Own o := by
  have inn : ∀ b ∈ ks μ, F b = none ∧ ∃ o, H b = some o ∧ Own o := fun b hb => by
    obtain ⟨⟨b', fs⟩, hm', e'⟩ := List.mem_map.mp hb
    have e2 : b' = b := e'
    subst e2
    obtain ⟨g1, g2⟩ := m.cel b' fs hm'
    exact ⟨g1, g2.obj⟩
  refine ⟨fun b o e => ?_, fun b o e => ?_, fun b hb => ?_⟩
  · unfold allF
    rw [if_neg fun h => by rw [(inn b h).1] at e; cases e]
    exact e
  · unfold allF at e
    split at e
    · exact e
    · exact m.ex b o e
  · obtain ⟨g1, us, g2, g3⟩ := inn b hb
    refine ⟨g1, us, ?_, g3⟩
    unfold allF
    rw [if_pos hb]
    exact g2
theorem lview_gen {F H G : Hp} (m : RpM K F H μ) (s1 : Same F G) (hG : ∀ b ∈ ks μ, G b = H b) {p : Addr} {d : PyData} (h : LView μ p d) : De K G (.ref p) d := by
  have key : ∀ {i : Nat} {q : Addr} {es : List PyData}, μ[i]? = some (q, (es : Cont)) → ∃ vs, G q = some (.lst vs) ∧ DqAll K G vs es := fun {i q es} hj => by
    have hm := List.mem_of_getElem? hj
    obtain ⟨_, vs, e, hd⟩ := m.cel _ _ hm
    exact ⟨vs, by rw [hG q (List.mem_map.mpr ⟨_, hm, rfl⟩)]; exact e, dqs_up s1 _ _ hd⟩
  have item : ∀ {v : V} {r d : PyData}, LItem μ r d → Dq K G v r → De K G v d := fun {v r d} hi ho => by
    cases hi with
    | d hp => exact ho.to hp
    | q j hj pl =>
      obtain ⟨vs, e, hd⟩ := key hj
      cases ho with
      | d h => cases h
      | p a => exact .lst e (hd.to pl)
  have items : ∀ {rs ds : List PyData} {vs : List V}, LItems μ rs ds → DqAll K G vs rs → DeAll K G vs ds := fun {rs ds vs} hi => by
    induction hi generalizing vs with
    | nil =>
      intro ho
      cases ho
      exact .nil
    | cons h1 _ ih =>
      intro ho
      cases ho with
      | cons o1 o2 => exact .cons (item h1 o1) (ih o2)
  cases h with
  | mk i hj hs =>
    obtain ⟨vs, e, hd⟩ := key hj
    exact .lst e (items hs hd)
inductive Vt (μ : Cells) : Vd → PyData → Prop
  | d (x : PyData) : Vt μ (.d x) x
  | c {p : Addr} {d : PyData} (h : LView μ p d) : Vt μ (.a p) d
theorem vt_ok {F H : Hp} {x : Vd} {v : V} {d : PyData} (m : RpM K F H μ) (o : VOk K F x v) (h : Vt μ x d) : De K H v d := by
  cases h with
  | d => exact dp_up m.ex _ _ o
  | c h =>
    rw [show v = .ref _ from o]
    exact lview_gen m m.ex (fun _ _ => rfl) h
inductive LentT (μ : Cells) : List Vd → List Vd → Prop
  | nil : LentT μ [] []
  | keep {x : Vd} {xs ys : List Vd} : LentT μ xs ys → LentT μ (x :: xs) (x :: ys)
  | lend {p : Addr} {d : PyData} {xs ys : List Vd} (h : LView μ p d) : LentT μ xs ys → LentT μ (.a p :: xs) (.d d :: ys)
  | wk {ds : List PyData} {xs ys : List Vd} : LentT μ xs ys → LentT μ (.x ds :: xs) (.d (.tuple ds) :: ys)
theorem LentT.ok {F H G : Hp} (m : RpM K F H μ) (s1 : Same F G) (hG : ∀ b ∈ ks μ, G b = H b) : ∀ {xs ys : List Vd} {vs : List V}, LentT μ xs ys → VAll K F xs vs → VAll K G ys vs
  | _, _, _, .nil, h => by
    cases h
    exact .nil
  | _, _, _, .keep l, h => by
    cases h with
    | cons h1 h2 => exact .cons (h1.up s1) (LentT.ok m s1 hG l h2)
  | _, _, _, .lend hv l, h => by
    cases h with
    | cons h1 h2 =>
      rw [show _ = V.ref _ from h1]
      exact .cons (lview_gen m s1 hG hv) (LentT.ok m s1 hG l h2)
  | _, _, _, .wk l, h => by
    cases h with
    | cons h1 h2 =>
      exact .cons (dp_up s1 _ _ h1) (LentT.ok m s1 hG l h2)
def cutS (F : Hp) (bs : List Addr) : Hp := fun b => if b ∈ bs then none else F b
theorem same_cutS {F : Hp} {bs : List Addr} : Same (cutS F bs) F := fun b o e => by
  unfold cutS at e
  split at e
  · cases e
  · exact e
theorem cutS_ne {F : Hp} {bs : List Addr} {b : Addr} (h : b ∉ bs) : cutS F bs b = F b := if_neg h
mutual
theorem dp_cutS {F : Hp} {bs : List Addr} (hp : ∀ b ∈ bs, ∃ o, F b = some o ∧ Own o) : ∀ (d : PyData) (v : V), noL d = true → De K F v d → De K (cutS F bs) v d
  | .none, _, _, h => by cases h; exact .non
  | .bool b, _, _, h => by cases h; exact .bl b
  | .int i, _, _, h => by cases h; exact .int i
  | .str x, _, _, h => by cases h; exact .str x
  | .list ds, _, n, _ => by simp [noL] at n
  | .tuple ds, _, n, h => by
    cases h with
    | tup hs hn ha => exact .tup (by rw [cutS_ne fun z => by obtain ⟨o, e, ow⟩ := hp _ z; rw [e] at hs; cases hs; exact ow]; exact hs) hn (dps_cutS hp ds _ (by simpa [noL] using n) ha)
  | .dict _, _, n, _ => by simp [noL] at n
theorem dps_cutS {F : Hp} {bs : List Addr} (hp : ∀ b ∈ bs, ∃ o, F b = some o ∧ Own o) : ∀ (ds : List PyData) (vs : List V), noLs ds = true → DeAll K F vs ds → DeAll K (cutS F bs) vs ds
  | [], _, _, h => by cases h; exact .nil
  | d :: ds, _, n, h => by
    cases h with
    | cons h1 h2 =>
      have n' : noL d = true ∧ noLs ds = true := by simpa [noLs] using n
      exact .cons (dp_cutS hp d _ n'.1 h1) (dps_cutS hp ds _ n'.2 h2)
end
end
section
variable {X : Cx} {δ : Dl} {μ : Cells} {e a b E : Expr} {pos p p2 : Pos} {Q : Vd → Cells → Prop} {es : List Expr} {mg : Str → Option Value} {kws : List Keyword}
def WCl (X : Cx) (E : Expr) (T : TrD) (δ : Dl) (μ : Cells) (QA : List Vd → Cells → Prop) : Prop := ∀ F H σ, Rp X.K F H σ δ μ → ∀ QV : VK,
  (∀ vs xs F' H' μ', Fw (ks μ) (ks μ') F H F' H' → Rp X.K F' H' σ δ μ' → VAll X.K F' xs vs → QA xs μ' → spW X.K T vs H' QV E0) → cE X E σ H QV
theorem wc_pos {P : Program} {w : World} {K : PySem.W.Frag} {mg : Str → Option Value} {base : Heap} {T : TrD} {k : Nat} {x : Str} {QA : List Vd → Cells → Prop} (c : Cal P w K mg base k x T) (hr : Room k X.A) (hg : Gl X x) (h : WA X (e :: es) δ μ QA)
    (hgd : X.A.guards = some [] := by assumption) (hX : (X.prog, X.w, X.K, X.mg, X.base) = (P, w, K, mg, base) := by rfl)
    (hdb : (x == ("__debug__" : Str)) = false := by decide) (he : starEach (e :: es) X.env = (false, eval e X.env) :: starEach es X.env := by rfl) (hpl : (backTo pos (starEach es X.env)).any (·.1) = false := by rfl) :
    WCl X (.Call (.Name x p) (e :: es) [] pos) T δ μ QA := fun F H σ R QV kk => by
  obtain ⟨f, fd, ps, ok, hm, hk, hb⟩ := c
  cases hX
  refine toE (pe_callg ok hr hgd hg hm hk hb pass0 (pcA X (e :: es)) hdb he hpl) (h F H σ R _ fun vs xs F1 H1 μ1 w1 R1 o1 q => ?_)
  exact kk vs xs F1 H1 μ1 w1 R1 o1 q
theorem we_clT {T : TrD} (h : WCl X E T δ μ fun xs μ1 => ∃ ys, LentT μ1 xs ys ∧ T ys [] fun z μ' => noLv z = true ∧ (∀ y ∈ μ', noLc y.2 = true) ∧ Q z (μ' ++ μ1)) : WE X E δ μ Q := fun F H σ R QV kk =>
  h F H σ R QV fun vs xs F1 H1 μ1 w1 R1 o1 q => by
    obtain ⟨ys, hl, q0⟩ := q
    obtain ⟨sf, sh, hc⟩ := R1.m.all
    have hG : ∀ b ∈ ks μ1, allF F1 H1 (ks μ1) b = H1 b := fun b hb => if_pos hb
    have m0 : RpM X.K (allF F1 H1 (ks μ1)) H1 [] := ⟨sh, List.nodup_nil, fun _ _ z => by cases z⟩
    refine ⟨_, ys, [], _, m0, LentT.ok R1.m sf hG hl o1, q0, fun v z F2 H2 μ2 w2 m2 o2 q2 => ?_⟩
    obtain ⟨q2, q3, q4⟩ := q2
    have f2 : ∀ b ∈ ks μ1, ∃ o, F2 b = some o ∧ Own o := fun b hb => by
      obtain ⟨_, us, e, ow⟩ := hc b hb
      exact ⟨us, w2.f b _ e, ow⟩
    have f12 : Same F1 (cutS F2 (ks μ1)) := fun b o hb => by
      rw [cutS_ne fun z => by rw [(hc b z).1] at hb; cases hb]
      exact w2.f b o (sf b o hb)
    have live : ∀ b ∈ ks μ1, H1 b ≠ none := fun b hb z => by
      obtain ⟨_, us, e, _⟩ := hc b hb
      rw [hG b hb, z] at e
      cases e
    have fresh : ∀ b ∈ ks μ2, H1 b = none := fun b hb => (w2.s b hb).elim (fun z => by cases z) id
    have W : Fw (ks μ1) (ks (μ2 ++ μ1)) F1 H1 (cutS F2 (ks μ1)) H2 := by
      refine ⟨f12, fun b o hb _ => w2.k b o hb (by simp), fun b hb hb2 nb => ?_, fun b hb => ?_⟩
      · rw [cutS_ne nb]
        exact w2.c b (by unfold allF; rw [if_neg nb]; exact hb) hb2 (by simp)
      · rw [ks_app] at hb
        rcases List.mem_append.mp hb with hb | hb
        · exact .inr (fresh b hb)
        · exact .inl hb
    have M : RpM X.K (cutS F2 (ks μ1)) H2 (μ2 ++ μ1) := by
      refine ⟨same_cutS.trans m2.ex, ?_, fun b fs hb => ?_⟩
      · rw [ks_app]
        refine List.nodup_append.mpr ⟨m2.nd, R1.m.nd, fun x mx y my e' => ?_⟩
        subst e'
        exact live x my (fresh x mx)
      · rcases List.mem_append.mp hb with hb | hb
        · have nb : b ∉ ks μ1 := fun z => live b z (fresh b (List.mem_map.mpr ⟨_, hb, rfl⟩))
          have hn := q3 _ hb
          cases fs with
          | l fs =>
            obtain ⟨g1, ws, g2, g3⟩ := m2.cel b _ hb
            exact ⟨by rw [cutS_ne nb]; exact g1, ws, g2, .of (dps_cutS f2 _ _ hn (g3.to (noLs_pl hn)))⟩
          | i _ => cases hn
          | t _ => cases hn
          | o _ _ => cases hn
        · obtain ⟨g1, g2⟩ := R1.m.cel b fs hb
          exact ⟨if_pos (List.mem_map.mpr ⟨_, hb, rfl⟩), g2.to f12 fun o e => w2.k b o e (by simp)⟩
    refine kk v z (cutS F2 (ks μ1)) H2 (μ2 ++ μ1) (w1.trans W) (R1.to f12 M) ?_ q4
    cases z with
    | d x => exact dp_cutS f2 x v q2 o2
    | a r => exact o2
    | w es => cases q2
    | s es => cases q2
    | k _ _ => cases q2
    | e _ _ _ _ => cases q2
    | z _ _ => cases q2
    | q _ _ => cases q2
    | m _ _ _ => cases q2
end
end Ec
set_option Elab.async false
set_option linter.all false
set_option maxRecDepth 100000
set_option maxHeartbeats 4000000
namespace Ec
open PySem PySem.Spec PyProof.Rows L2
theorem entry_hp {P : Program} {w : World} {K : PySem.W.Frag} {h : Heap} {a : Addr} {vs : List Value} {ns : List Int} (KX : K.In h) (ha : h.get? a = some { cls := .type "list", data := .seq vs.toArray }) (hi : IntsAre vs ns) (hl : ns.length ≤ sizeLine) :
    ∃ H : Hp, L2.Only H ∧ SqL K H a (ns.map V.int) ∧ HOk P w H h ∧ (∀ b, H b ≠ none → b = a) ∧ (H a ≠ none → K.lookup a = none) := by
  have rv := vals_ints hi
  cases hk : K.lookup a with
  | some o =>
    have e := (KX a o hk).symm.trans ha
    cases e
    exact ⟨fun _ => none, fun _ => .inl rfl, .inr ⟨_, vs.toArray, _, hk, rfl, rfl, rfl, by rw [List.size_toArray, hi.length]; exact hl, by simpa using rv⟩, (fun _ _ z => by cases z), fun _ z => absurd rfl z, fun z => absurd rfl z⟩
  | none =>
    let H : Hp := upd (fun _ => none) a (.frz { cls := .type "list", data := .seq vs.toArray } (.lst (ns.map V.int)))
    have at_ : ∀ b, b ≠ a → H b = none := fun b hb => upd_ne hb
    refine ⟨H, fun b => ?_, .inl (.inr ⟨_, upd_same⟩), fun b u z => ?_, fun b z => ?_, fun _ => rfl⟩
    · by_cases hb : b = a
      · subst hb
        exact .inr ⟨_, _, upd_same⟩
      · exact .inl (at_ b hb)
    · by_cases hb : b = a
      · subst hb
        cases (upd_same.symm.trans z : some _ = some u)
        exact ⟨ha, by rw [List.length_map]; exact hl, vs, _, rv, ha⟩
      · cases (at_ b hb).symm.trans z
    · by_cases hb : b = a
      · exact hb
      · exact absurd (at_ b hb) z
theorem law_g {P : Program} {w : World} {K : PySem.W.Frag} {mg mb : Str → Option Value} {k : Nat} {fa a : Addr} {fd : FuncData} {x : Str} {sp : Sp} {s₁ : Shared} {vs : List Value} {ns : List Int}
    (KX : K.In s₁.heap) (hns : s₁.heap.Ns mainGlobals mg) (hb : s₁.heap.Ns builtinsNs mb) (hbb : ∀ x : Str, x ≠ "__name__" → mb x = bootBuiltins x) (hlim : s₁.heap.NoLimit) (hg : s₁.gens = #[])
    (ha : s₁.heap.get? a = some { cls := .type "list", data := .seq vs.toArray }) (hi : IntsAre vs ns) (hl : ns.length ≤ sizeLine) (hr : Room k callerA)
    (F : ∀ base : Heap, K.In base → base.Ns mainGlobals mg → FnG P w K mg base CX0 k fa fd [x] sp) (hbind : ∀ (s : Shared) (u : Value), BindsTo s fd ⟨[u], []⟩ [(x, u)])
    (hsp : ∀ H : Hp, L2.Only H → SqL K H a (ns.map V.int) → sp [.ref a] H (fun v _ => v = .bl true) fun _ _ _ => False) :
    codeAny (model P w) callerA (.call (.ref fa) ⟨[.ref a], []⟩) (fun r s' => r = .ok (.ret (.bool true)) ∧ OldK s₁.heap s'.heap ∧ s'.os = s₁.os ∧ AllBare s'.gens) s₁ := by
  obtain ⟨H, hO, hS, hok, hA, hK⟩ := entry_hp (P := P) (w := w) KX ha hi hl
  have off : ∀ {b : Addr} {o : Obj}, s₁.heap.get? b = some o → (b = a → False) → (hidT s₁.heap H).get? b = some o := fun {b o} e n => hidT_get e (by
    cases q : H b with
    | none => rfl
    | some u => exact (n (hA b (by rw [q]; simp))).elim)
  have nsOff : ∀ {b : Addr} {m : Str → Option Value}, s₁.heap.Ns b m → (hidT s₁.heap H).Ns b m := fun {b m} ⟨o, es, ep, e, d, r⟩ => ⟨o, es, ep, off e (fun z => by
    subst z
    rw [ha] at e
    cases e
    cases (show Data.seq vs.toArray _ = Data.dict es ep from d)), d, r⟩
  have hKb : K.In (hidT s₁.heap H) := fun b o e => by
    cases q : H b with
    | none => exact hidT_get (KX b o e) q
    | some u =>
      have z := hA b (by rw [q]; simp)
      subst z
      rw [hK (by rw [q]; simp)] at e
      cases e
  obtain ⟨mc, l1, l2⟩ := hlim
  have e0 : Env0 P w K mg (hidT s₁.heap H) callerA [] s₁ H := ⟨rfl, ⟨hKb, nsOff hns, ⟨mb, nsOff hb, hbb⟩, ⟨mc, nsOff l1, l2⟩⟩, fun b o e => of_hidT e, Nat.le_of_eq (hidT_size _ _), trivial, fun b z => absurd (show b ∈ ([] : List Addr) from z) (by simp), hok, .of_eq hg⟩
  refine codeAny_mono ((F _ hKb (nsOff hns)).run callerA [] s₁ H ⟨[.ref a], []⟩ [.ref a] [.ref a] _ _ hr rfl e0 (hbind s₁ (.ref a)) (.cons rfl .nil) (hsp H hO hS)) fun r s' h => ?_
  match r, h with
  | .error e, h => exact h.elim
  | .ok .next, h => exact h.elim
  | .ok .brk, h => exact h.elim
  | .ok .cont, h => exact h.elim
  | .ok (.ret u), ⟨v, H', os, bare, un, hok', r', q⟩ =>
    have q' : v = .bl true := q
    subst q'
    obtain rfl : u = Value.bool true := r'
    refine ⟨rfl, OldK.of_keep fun b o e => ?_, os, bare⟩
    rcases hO b with z | ⟨ob, xs, z⟩
    · exact un.keep b o e z (fun m => absurd (show b ∈ ([] : List Addr) from m) (by simp)) (by simp)
    · obtain ⟨e1, _⟩ := hok b _ z
      obtain ⟨e2, _⟩ := hok' b _ (un.frzs b ob _ z)
      rw [e] at e1
      cases e1
      exact e2
theorem walk_g {l : PySem.W.OpenLaw} {n k : Nat} {q : Program} {loose : List Str} {XP : (Str → Option Value) → Heap → Prop} {YP : World → Heap → Prop} {d : DefRec} {K : Params → PySem.W.Frag} {sp : World → Sp} {x : Str}
    (hn : l.most = some n) (hn2 : n ≤ sizeLine) (hdf : d.params.defaults = []) (hr : Room k callerA)
    (hY : ∀ (w : World) (h : Heap), YP w h → (K w.params).In h)
    (F : ∀ (w : World) (mg : Str → Option Value) (fa : Addr) (h : Heap), (K w.params).In h → h.Ns mainGlobals mg → mg d.name = some (.ref fa) →
      ∃ fd : FuncData, (∀ (s : Shared) (u : Value), BindsTo s fd ⟨[u], []⟩ [(x, u)]) ∧
        ∀ base : Heap, (K w.params).In base → base.Ns mainGlobals mg → FnG l.prog w (K w.params) mg base CX0 k fa fd [x] (sp w))
    (hsp : ∀ (w : World) (H : Hp) (a : Addr) (ns : List Int), ns.length ≤ n → L2.Only H → SqL (K w.params) H a (ns.map V.int) → sp w [.ref a] H (fun v _ => v = .bl true) fun _ _ _ => False) :
    PySem.W.WalkO q loose XP YP l.row.toRowW d [] (fun f vs => PySem.call f vs) :=
  Att.attach_call hn hdf fun w s₀ s₁ mg mb fa o pm cd doc a vs ns G Y ho hd hcd hmg hobj hints hlen hg => by
    obtain ⟨fd, hb, hF⟩ := F w mg fa _ (hY w _ Y) G.T.g hmg
    exact law_g (hY w _ Y) G.T.g G.T.b G.T.builtins G.T.nolimit hg hobj hints (Nat.le_trans hlen hn2) hr hF hb fun H hO hS => hsp w H a ns hlen hO hS
section
variable {X : Cx} {δ : Dl} {μ : Cells} {e : Expr} {pos p : Pos} {Q : Vd → Cells → Prop} {mg : Str → Option Value}
theorem we_repr (B : Bl mg) (hg : Gl X "repr") (hu : X.A.units + 64 < cLine) (h : WE X e δ μ fun x μ1 => ∃ d, x = .d d ∧ d.showable = true ∧ d.hasDict = false ∧ d.depth ≤ 60 ∧ (∃ l, d = .list l ∨ d = .tuple l) ∧ d.shown.length ≤ sizeLine ∧ Q (.d (.str d.shown)) μ1) (hgd : X.A.guards = some [] := by assumption) (hm : X.mg = mg := by rfl)
    (s1 : starEach [e] X.env = (false, eval e X.env) :: starEach [] X.env := by rfl) (s2 : (backTo pos (starEach [] X.env)).any (·.1) = false := by rfl) :
    WE X (.Call (.Name "repr" p) [e] [] pos) δ μ Q := fun F H σ R QV k =>
  toE (pe_callB (call_reprD hgd hu) hg (hm ▸ B.repr) boot_repr (pa_cons (pcE X e) pa_nil s1) (by decide) (by decide) s1 s2)
    (h F H σ R _ fun v x F1 H1 μ1 w1 R1 o1 q => by
      obtain ⟨d, rfl, h1, h2, h3, h4, h5, q⟩ := q
      exact ⟨v, d, rfl, De.dp (dp_up R1.m.ex _ _ o1), h1, h2, h3, h4, h5, k _ (.d (.str d.shown)) F1 H1 μ1 w1 R1 (.str _) q⟩)
end
end Ec
set_option Elab.async false
set_option linter.all false
set_option maxRecDepth 100000
set_option maxHeartbeats 4000000
namespace Ec
open PySem PySem.Spec PyProof.Rows L2
section
variable {X : Cx} {is : List Nat} {δ : Dl} {μ : Cells} {pos : Pos} {G : Dl → Cells → Prop}
theorem wg_lst {ts : List Expr} {k : Nat} {ds : List PyData} (hc : X.calm = true) (h : WGso X is ts (ds.map Vd.d) δ μ G) (hn : (assignEach ts X.env).length = ds.length := by rfl)
    (hst : (assignEach ts X.env).findIdx? (·.1) = none := by rfl) : WGo X is (.Tuple ts k pos) (.d (.list ds)) δ μ G := fun F H σ R v o QV c => by
  obtain ⟨a, vs, rfl, hs, hd⟩ := dp_lst o
  exact toG (pg_lst hc (pcGs X ts) hn hst) ⟨a, vs, rfl, R.m.ex.seq hs, dps_len hd, h F H σ R vs (vall_d hd) QV c⟩
theorem wg_sq {ts : List Expr} {k : Nat} {d : PyData} {ds : List PyData} (q : SqD d ds) (hc : X.calm = true) (h : WGso X is ts (ds.map Vd.d) δ μ G) (hn : (assignEach ts X.env).length = ds.length := by rfl)
    (hst : (assignEach ts X.env).findIdx? (·.1) = none := by rfl) : WGo X is (.Tuple ts k pos) (.d d) δ μ G := by
  rcases q with rfl | rfl
  · exact wg_lst hc h hn hst
  · exact wg_tup hc h hn hst
end
theorem allD_zip {α : Type} {r : PyData → α → Prop} : ∀ {ds : List PyData} {xs : List α}, AllD r ds xs → (ds.zip xs).map Prod.fst = ds ∧ (ds.zip xs).map Prod.snd = xs ∧ ∀ z ∈ ds.zip xs, r z.1 z.2
  | [], [], _ => ⟨rfl, rfl, fun _ z => by cases z⟩
  | d :: ds, x :: xs, h => by
    obtain ⟨h1, h2, h3⟩ := allD_zip h.2
    refine ⟨by rw [List.zip_cons_cons, List.map_cons, h1], by rw [List.zip_cons_cons, List.map_cons, h2], fun z m => ?_⟩
    rcases List.mem_cons.mp m with rfl | m
    · exact h.1
    · exact h3 z m
  | [], _ :: _, h => h.elim
  | _ :: _, [], h => h.elim
end Ec
set_option Elab.async false
set_option linter.all false
set_option maxRecDepth 100000
set_option maxHeartbeats 4000000
namespace Ec
theorem filter_lt {α : Type} {p q : α → Bool} : ∀ {l : List α}, (∀ a ∈ l, p a = true → q a = true) → (∃ a ∈ l, q a = true ∧ p a = false) → (l.filter p).length < (l.filter q).length
  | [], _, h => by
    obtain ⟨a, h, _⟩ := h
    cases h
  | x :: l, h, ⟨a, ha, h1, h2⟩ => by
    have le : (l.filter p).length ≤ (l.filter q).length := by
      clear h1 h2 ha
      have hl : ∀ a ∈ l, p a = true → q a = true := fun a m => h a (List.mem_cons_of_mem _ m)
      clear h
      induction l with
      | nil => exact Nat.le_refl _
      | cons y r ih =>
        have := ih fun a m => hl a (List.mem_cons_of_mem _ m)
        have hy := hl y List.mem_cons_self
        rw [List.filter_cons, List.filter_cons]
        by_cases e : p y = true
        · rw [if_pos e, if_pos (hy e)]
          simp only [List.length_cons]
          omega
        · rw [if_neg e]
          split
          · simp only [List.length_cons]
            omega
          · exact this
    rw [List.filter_cons, List.filter_cons]
    rcases List.mem_cons.mp ha with e | m
    · subst e
      rw [h1, h2]
      simp only [if_true, Bool.false_eq_true, if_false, List.length_cons]
      omega
    · have ih := filter_lt (fun a m => h a (List.mem_cons_of_mem _ m)) ⟨a, m, h1, h2⟩
      by_cases e : p x = true
      · rw [if_pos e, if_pos (h x List.mem_cons_self e)]
        simp only [List.length_cons]
        omega
      · rw [if_neg e]
        split
        · simp only [List.length_cons]
          omega
        · exact ih
theorem rng_nodup (n : Nat) : (rng n).Nodup := by
  unfold rng
  rw [List.nodup_iff_pairwise_ne, List.pairwise_map]
  exact (List.nodup_range).imp fun h e => h (by omega)
def stp (c : Co) (t b : List Int) : List Int := (nexts c t).filter fun p => !decide (p ∈ b)
def rnds : Nat → Co → List Int → List Int → List (List Int)
  | 0, _, _, _ => []
  | n + 1, c, t, b => if stp c t b = [] then [] else stp c t b :: rnds n c (t ++ stp c t b) b
def und (c : Co) (t : List Int) : Nat := ((rng c.length).filter fun p => !decide (p ∈ t)).length
theorem mem_stp {c : Co} {t b : List Int} {p : Int} : p ∈ stp c t b ↔ (0 ≤ p ∧ p < c.length) ∧ p ∉ t ∧ comes c t p = true ∧ p ∉ b := by
  unfold stp
  rw [List.mem_filter, mem_nexts]
  simp [and_assoc]
theorem und_le (c : Co) (t : List Int) : und c t ≤ c.length := by
  unfold und
  refine Nat.le_trans (List.length_filter_le _ _) ?_
  rw [rng_len]
  exact Nat.le_refl _
theorem und_lt {c : Co} {t s : List Int} (h : ∃ x, x ∈ s ∧ x ∉ t ∧ 0 ≤ x ∧ x < c.length) : und c (t ++ s) < und c t := by
  obtain ⟨x, h1, h2, h3, h4⟩ := h
  refine filter_lt (fun a _ e => ?_) ⟨x, mem_rng.mpr ⟨h3, h4⟩, by simp [h2], by simp [h1]⟩
  simp at e ⊢
  exact e.1
theorem stp_lt {c : Co} {t b : List Int} (h : stp c t b ≠ []) : und c (t ++ stp c t b) < und c t := by
  obtain ⟨x, hx⟩ := List.exists_mem_of_ne_nil _ h
  obtain ⟨h1, h2, _⟩ := mem_stp.mp hx
  exact und_lt ⟨x, hx, h2, h1⟩
theorem stp_sum (c : Co) (t b : List Int) : (stp c t b).length + und c (t ++ stp c t b) = und c t := by
  unfold und
  have e : ∀ L : List Int, (L.filter fun p => !decide (p ∈ t ++ stp c t b)) = (L.filter fun p => !decide (p ∈ t)).filter fun p => !decide (p ∈ stp c t b) := fun L => by
    rw [List.filter_filter]
    refine List.filter_congr fun x _ => ?_
    by_cases h1 : x ∈ t <;> by_cases h2 : x ∈ stp c t b <;> simp [h1, h2]
  rw [e]
  generalize hL : ((rng c.length).filter fun p => !decide (p ∈ t)) = L
  have s : stp c t b = L.filter fun p => comes c t p && !decide (p ∈ b) := by
    unfold stp nexts
    rw [hL, List.filter_filter]
    refine List.filter_congr fun x _ => ?_
    rw [Bool.and_comm]
  have s2 : (L.filter fun p => !decide (p ∈ stp c t b)) = L.filter fun p => !(comes c t p && !decide (p ∈ b)) := List.filter_congr fun x hx => by
    simp only [s, List.mem_filter, hx, true_and]
    cases (comes c t x && !decide (x ∈ b)) <;> rfl
  rw [s2, s]
  have cnt : ∀ (f : Int → Bool) (L : List Int), (L.filter f).length + (L.filter fun p => !f p).length = L.length := fun f L => by
    induction L with
    | nil => rfl
    | cons x r ih =>
      rw [List.filter_cons, List.filter_cons]
      cases hf : f x <;> simp <;> omega
  exact cnt _ L
theorem rnds_flat : ∀ (n : Nat) (c : Co) (t b : List Int), (rnds n c t b).flatten.length ≤ und c t
  | 0, _, _, _ => Nat.zero_le _
  | n + 1, c, t, b => by
    unfold rnds
    split
    · exact Nat.zero_le _
    · rw [List.flatten_cons, List.length_append]
      have := rnds_flat n c (t ++ stp c t b) b
      have := stp_sum c t b
      omega
def AR (c : Co) (t b : List Int) : List (List Int) := rnds (c.length + 1) c t b
def cl (c : Co) (t b : List Int) : List Int := srt (t ++ (AR c t b).flatten)
theorem comes_mono {c : Co} {s t : List Int} (h : ∀ x ∈ s, x ∈ t) {p : Int} (hp : comes c s p = true) : comes c t p = true := by
  unfold comes cnt at *
  have h1 := of_decide_eq_true hp
  refine decide_eq_true (Int.le_trans h1 ?_)
  have : ∀ L : List Int, (L.filter fun x => decide (x ∈ s)).length ≤ (L.filter fun x => decide (x ∈ t)).length := fun L => by
    induction L with
    | nil => exact Nat.le_refl _
    | cons y r ih =>
      rw [List.filter_cons, List.filter_cons]
      by_cases e : y ∈ s
      · rw [if_pos (decide_eq_true e), if_pos (decide_eq_true (h y e))]
        simp only [List.length_cons]
        omega
      · rw [if_neg (by simp [e])]
        split
        · simp only [List.length_cons]
          omega
        · exact ih
  exact Int.ofNat_le.mpr (this _)
theorem comes_same {c : Co} {s t : List Int} (h : ∀ x, x ∈ s ↔ x ∈ t) (p : Int) : comes c s p = comes c t p := by
  cases h1 : comes c s p with
  | true => exact (comes_mono (fun x m => (h x).mp m) h1).symm
  | false =>
    cases h2 : comes c t p with
    | true => exact absurd (comes_mono (fun x m => (h x).mpr m) h2) (by rw [h1]; decide)
    | false => rfl
def Shut (c : Co) (b : List Int) (S : Int → Prop) : Prop := ∀ p : Int, 0 ≤ p → p < c.length → p ∉ b → (∃ t : List Int, (∀ x ∈ t, S x) ∧ comes c t p = true) → S p
theorem rnds_in {c : Co} {b : List Int} {S : Int → Prop} (hS : Shut c b S) : ∀ (n : Nat) (t : List Int), (∀ x ∈ t, S x) → ∀ x ∈ (rnds n c t b).flatten, S x
  | 0, _, _, x, h => by cases h
  | n + 1, t, ht, x, h => by
    unfold rnds at h
    split at h
    · cases h
    · rw [List.flatten_cons] at h
      have hs : ∀ y ∈ stp c t b, S y := fun y hy => by
        obtain ⟨⟨h0, h1⟩, _, h3, h4⟩ := mem_stp.mp hy
        exact hS y h0 h1 h4 ⟨t, ht, h3⟩
      rcases List.mem_append.mp h with h | h
      · exact hs x h
      · exact rnds_in hS n _ (fun y hy => (List.mem_append.mp hy).elim (ht y) (hs y)) x h
theorem rnds_end {c : Co} {b : List Int} : ∀ (n : Nat) (t : List Int), und c t < n → stp c (t ++ (rnds n c t b).flatten) b = []
  | 0, _, h => absurd h (Nat.not_lt_zero _)
  | n + 1, t, h => by
    unfold rnds
    split
    · rename_i e
      rw [List.flatten_nil, List.append_nil]
      exact e
    · rename_i e
      rw [List.flatten_cons, ← List.append_assoc]
      have := stp_lt e
      exact rnds_end n _ (by omega)
theorem shut_of {c : Co} {b t : List Int} (h : stp c t b = []) : Shut c b (fun x => x ∈ t) := fun p h0 h1 hb ⟨s, hs, hc⟩ => by
  apply Classical.byContradiction
  intro hn
  have : p ∈ stp c t b := mem_stp.mpr ⟨⟨h0, h1⟩, hn, comes_mono hs hc, hb⟩
  rw [h] at this
  cases this
theorem rnds_nodup : ∀ (n : Nat) (c : Co) (t b : List Int), (rnds n c t b).flatten.Nodup ∧ ∀ x ∈ (rnds n c t b).flatten, x ∉ t ∧ 0 ≤ x ∧ x < c.length
  | 0, _, _, _ => ⟨List.nodup_nil, fun x h => by cases h⟩
  | n + 1, c, t, b => by
    unfold rnds
    split
    · exact ⟨List.nodup_nil, fun x h => by cases h⟩
    · obtain ⟨ih, ih2⟩ := rnds_nodup n c (t ++ stp c t b) b
      rw [List.flatten_cons]
      refine ⟨List.nodup_append.mpr ⟨?_, ih, fun x h y h' e => ?_⟩, fun x h => ?_⟩
      · exact (((rng_nodup _).filter _).filter _).filter _
      · subst e
        exact (ih2 x h').1 (List.mem_append_right _ h)
      · rcases List.mem_append.mp h with h | h
        · obtain ⟨h1, h2, _⟩ := mem_stp.mp h
          exact ⟨h2, h1⟩
        · obtain ⟨h1, h2⟩ := ih2 x h
          exact ⟨fun z => h1 (List.mem_append_left _ z), h2⟩
theorem mem_srt {x : Int} {l : List Int} : x ∈ srt l ↔ x ∈ l := (srt_perm l).mem_iff
theorem mem_cl {c : Co} {t b : List Int} {x : Int} : x ∈ cl c t b ↔ x ∈ t ++ (AR c t b).flatten := mem_srt
theorem cl_in {c : Co} {t b : List Int} {S : Int → Prop} (hS : Shut c b S) (ht : ∀ x ∈ t, S x) : ∀ x ∈ cl c t b, S x := fun x h => by
  rcases List.mem_append.mp (mem_cl.mp h) with h | h
  · exact ht x h
  · exact rnds_in hS _ t ht x h
theorem cl_shut (c : Co) (t b : List Int) : Shut c b (fun x => x ∈ cl c t b) := by
  have h := shut_of (rnds_end (c := c) (b := b) (c.length + 1) t (by have := und_le c t; omega))
  intro p h0 h1 hb hc
  obtain ⟨s, hs, hc⟩ := hc
  exact mem_cl.mpr (h p h0 h1 hb ⟨s, fun x m => mem_cl.mp (hs x m), hc⟩)
theorem cl_base {c : Co} {t b : List Int} : ∀ x ∈ t, x ∈ cl c t b := fun x h => mem_cl.mpr (List.mem_append_left _ h)
theorem cl_nodup {c : Co} {t b : List Int} (h : t.Nodup) : (cl c t b).Nodup := by
  refine (srt_perm _).nodup_iff.mpr (List.nodup_append.mpr ⟨h, (rnds_nodup _ c t b).1, fun x hx y hy e => ?_⟩)
  subst e
  exact ((rnds_nodup _ c t b).2 x hy).1 hx
theorem cl_rng {c : Co} {t b : List Int} (h : ∀ x ∈ t, 0 ≤ x ∧ x < c.length) : ∀ x ∈ cl c t b, 0 ≤ x ∧ x < c.length := fun x hx => by
  rcases List.mem_append.mp (mem_cl.mp hx) with m | m
  · exact h x m
  · exact ((rnds_nodup _ c t b).2 x m).2
theorem cl_len (c : Co) (t b : List Int) : (t ++ (AR c t b).flatten).length ≤ t.length + c.length := by
  rw [List.length_append]
  have := rnds_flat (c.length + 1) c t b
  have := und_le c t
  unfold AR
  omega
theorem perm_of_mem {as bs : List Int} (h1 : as.Nodup) (h2 : bs.Nodup) (h : ∀ x, x ∈ as ↔ x ∈ bs) : as.Perm bs := (List.perm_ext_iff_of_nodup h1 h2).mpr h
theorem cl_one {c : Co} {t0 t b : List Int} (n0 : t0.Nodup) (n : t.Nodup) (h0 : ∀ x ∈ t0, x ∈ t) (h1 : ∀ S : Int → Prop, Shut c b S → (∀ x ∈ t0, S x) → ∀ x ∈ t, S x) (h2 : Shut c b (fun x => x ∈ t)) : srt t = cl c t0 b := by
  have pm : t.Perm (cl c t0 b) := perm_of_mem n (cl_nodup n0) fun x => ⟨h1 _ (cl_shut c t0 b) cl_base x, cl_in h2 h0 x⟩
  exact (srt_one (pm.symm.trans (srt_perm t).symm) (srt_up _) (srt_up _)).symm
def gr (c : Co) : List Int := cl c [] []
def nev (c : Co) : List Int := (rng c.length).filter fun p => !decide (p ∈ gr c)
end Ec
set_option Elab.async false
set_option linter.all false
namespace Ec
open PySem PySem.Spec PyProof.Rows L2
def boxD (x y z : Int) : List PyData := [.int x, .int y, .int z]
def BoxOk (m : Nat) (ds : List PyData) : Prop := ∃ x y z : Int, ds = boxD x y z ∧ 0 ≤ x ∧ 0 ≤ y ∧ y < 4611686018427387904 ∧ 0 ≤ z ∧ z ≤ m
theorem BoxOk.mono {m n : Nat} {ds : List PyData} (h : BoxOk m ds) (l : m ≤ n) : BoxOk n ds := by
  obtain ⟨x, y, z, e, h1, h2, h3, h4, h5⟩ := h
  exact ⟨x, y, z, e, h1, h2, h3, h4, by omega⟩
abbrev T_cell : TrD := fun xs μ R => ∃ (ns : List Int) (k : Nat), xs = [.s ns, .d (.int (k : Int))] ∧ R (.d (.int (ns.getD k 0))) μ
abbrev T_box : TrD := fun xs μ R => ∃ (ns : List Int) (k : Nat), xs = [.s ns, .d (.int (k : Int))] ∧ k ≤ 1000 ∧ ∀ q ds, BoxOk 0 ds → R (.a q) ((q, ds) :: μ)
abbrev T_takeN (lim c : Nat) : TrD := fun xs μ R => ∃ (b : Addr) (ds : List PyData) (n : Int) (m : Nat), xs = [.a b, .d (.int n)] ∧ μ = ([(b, ds)] : Cells) ∧ BoxOk m ds ∧ 0 < n ∧ n ≤ lim ∧ m ≤ 1000000000000 ∧ ∀ (r : Int) ds', 0 ≤ r → r < n → BoxOk (m + c) ds' → R (.d (.int r)) [(b, ds')]
abbrev T_take : TrD := T_takeN 10000000 1
structure CoW (c : Co) : Prop where
  up : ∀ e ∈ c, e.1.Pairwise (· < ·)
  nn : ∀ e ∈ c, 0 ≤ e.2
  nb : ∀ e ∈ c, e.2 ≤ 1000
  lt : ∀ e ∈ c, ∀ x ∈ e.1, 0 ≤ x ∧ x < c.length
  no : ∀ (i : Nat) (e : List Int × Int), c[i]? = some e → (i : Int) ∉ e.1
def enD (e : List Int × Int) : PyData := .tuple [.tuple (intsD e.1), .int e.2]
def coD (c : Co) : PyData := .tuple (c.map enD)
abbrev T_crowd_of : TrD := fun xs μ R => ∃ (b : Addr) (ds : List PyData) (n m : Nat), xs = [.a b, .d (.int (n : Int))] ∧ μ = ([(b, ds)] : Cells) ∧ BoxOk m ds ∧ n ≤ 40 ∧ m + 4000 ≤ 1000000000000 ∧ ∀ c ds', c.length = n → CoW c → BoxOk (m + 4000) ds' → R (.d (coD c)) [(b, ds')]
def CoP (n : Nat) (c : Co) : Prop := ∀ (j : Nat) (e : List Int × Int), c[j]? = some e → e.1.Sublist (rng n) ∧ (j : Int) ∉ e.1 ∧ 0 ≤ e.2 ∧ e.2 ≤ 1000
theorem CoP.add {n : Nat} {c : Co} {e : List Int × Int} (h : CoP n c) (h1 : e.1.Sublist (rng n)) (h2 : (c.length : Int) ∉ e.1) (h3 : 0 ≤ e.2) (h4 : e.2 ≤ 1000) : CoP n (c ++ [e]) := fun j x hj => by
  by_cases hl : j < c.length
  · rw [List.getElem?_append_left hl] at hj
    exact h j x hj
  · rw [List.getElem?_append_right (by omega)] at hj
    have hz : j - c.length = 0 := by
      have := (List.getElem?_eq_some_iff.mp hj).1
      simp at this
      omega
    rw [hz] at hj
    cases hj
    rw [show j = c.length by omega]
    exact ⟨h1, h2, h3, h4⟩
theorem sub_rng {n : Nat} {l : List Int} (h : l.Sublist (rng n)) : l.Pairwise (· < ·) ∧ (∀ x ∈ l, 0 ≤ x ∧ x < n) ∧ l.length ≤ n := by
  refine ⟨?_, fun x hx => mem_rng.mp (h.mem hx), ?_⟩
  · refine List.Pairwise.sublist h ?_
    unfold rng
    rw [List.pairwise_map]
    exact List.pairwise_lt_range.imp fun h => by omega
  · have := h.length_le
    rw [rng_len] at this
    exact this
theorem rng_take_succ {n i : Nat} (h : i < n) : (rng n).take (i + 1) = (rng n).take i ++ [(i : Int)] := by
  rw [List.take_add_one]
  have : (rng n)[i]? = some (i : Int) := by
    unfold rng
    rw [List.getElem?_map, List.getElem?_range h]
    rfl
  rw [this]
  rfl
theorem CoP.whole {c : Co} (h : CoP c.length c) : CoW c where
  up := fun e he => by
    obtain ⟨j, hj⟩ := List.mem_iff_getElem?.mp he
    exact (sub_rng (h j e hj).1).1
  nn := fun e he => by
    obtain ⟨j, hj⟩ := List.mem_iff_getElem?.mp he
    exact (h j e hj).2.2.1
  nb := fun e he => by
    obtain ⟨j, hj⟩ := List.mem_iff_getElem?.mp he
    exact (h j e hj).2.2.2
  lt := fun e he => by
    obtain ⟨j, hj⟩ := List.mem_iff_getElem?.mp he
    exact (sub_rng (h j e hj).1).2.1
  no := fun j e hj => (h j e hj).2.1
abbrev T_cnt : TrD := fun xs μ R => ∃ dc c p dt t, xs = [.d dc, .d (.int p), .d dt] ∧ CoD dc c ∧ 0 ≤ p ∧ p < c.length ∧ SqD dt (intsD t) ∧ R (.d (.int (cnt c t p))) μ
abbrev T_can : TrD := fun xs μ R => ∃ dc c p dt t, xs = [.d dc, .d (.int p), .d dt] ∧ CoD dc c ∧ 0 ≤ p ∧ p < c.length ∧ SqD dt (intsD t) ∧ R (.d (.bool (comes c t p))) μ
abbrev T_next : TrD := fun xs μ R => ∃ dc c dt t, xs = [.d dc, .d dt] ∧ CoD dc c ∧ SqD dt (intsD t) ∧ ∀ q, R (.a q) ((q, intsD (nexts c t)) :: μ)
abbrev tups (rs : List (List Int)) : List PyData := rs.map fun r => .tuple (intsD r)
abbrev T_rounds : TrD := fun xs μ R => ∃ dc c dt t db b, xs = [.d dc, .d dt, .d db] ∧ CoD dc c ∧ SqD dt (intsD t) ∧ SqD db (intsD b) ∧ t.length ≤ 1000 ∧ ∀ q, R (.a q) ((q, tups (AR c t b)) :: μ)
abbrev T_closure : TrD := fun xs μ R => ∃ dc c dt t db b, xs = [.d dc, .d dt, .d db] ∧ CoD dc c ∧ SqD dt (intsD t) ∧ SqD db (intsD b) ∧ t.length + c.length < 64 ∧ R (.d (.tuple (intsD (cl c t b)))) μ
abbrev T_great : TrD := fun xs μ R => ∃ dc c, xs = [.d dc] ∧ CoD dc c ∧ c.length < 64 ∧ R (.d (.tuple (intsD (gr c)))) μ
abbrev T_without : TrD := fun xs μ R => ∃ dc c db b, xs = [.d dc, .d db] ∧ CoD dc c ∧ SqD db (intsD b) ∧ c.length < 64 ∧ R (.d (.tuple (intsD (cl c [] b)))) μ
abbrev T_never : TrD := fun xs μ R => ∃ dc c, xs = [.d dc] ∧ CoD dc c ∧ c.length < 64 ∧ R (.d (.tuple (intsD (nev c)))) μ
theorem asc_len {b : Int} : ∀ {l : List Int} {a : Int}, l.Pairwise (· < ·) → (∀ x ∈ l, a ≤ x ∧ x < b) → l.length ≤ (b - a).toNat
  | [], _, _, _ => Nat.zero_le _
  | x :: l, a, h, hb => by
    obtain ⟨h1, h2⟩ := List.pairwise_cons.mp h
    have hx := hb x List.mem_cons_self
    have := asc_len (a := x + 1) (b := b) h2 fun y hy => by
      have := h1 y hy
      have := hb y (List.mem_cons_of_mem _ hy)
      omega
    rw [List.length_cons]
    omega
theorem enD_ok (e : List Int × Int) : EnD (enD e) e := ⟨_, .inr rfl, .inr rfl⟩
theorem canLays_ints : ∀ ns : List Int, PyData.canLayAll0 (intsD ns) = true
  | [] => rfl
  | n :: ns => by
    show (PyData.canLay0 (.int n) && PyData.canLayAll0 (intsD ns)) = true
    rw [canLays_ints ns]
    rfl
theorem depth_ints : ∀ ns : List Int, PyData.depthAll (intsD ns) = 0
  | [] => rfl
  | n :: ns => by
    have := depth_ints ns
    simp only [intsD, List.map_cons, PyData.depthAll] at this ⊢
    rw [this]
    rfl
theorem shaped_tup (ns : List Int) : SeqAt.shaped (.tuple (intsD ns)) = true := by
  unfold SeqAt.shaped
  rw [Bool.and_eq_true_iff]
  refine ⟨canLays_ints ns, decide_eq_true ?_⟩
  simp only [PyData.depth, depth_ints]
  decide
theorem shaped_lst (ns : List Int) : SeqAt.shaped (.list (intsD ns)) = true := by
  unfold SeqAt.shaped
  rw [Bool.and_eq_true_iff]
  refine ⟨canLays_ints ns, decide_eq_true ?_⟩
  simp only [PyData.depth, depth_ints]
  decide
end Ec
set_option Elab.async false
set_option linter.all false
namespace Ec
open PySem PySem.Spec PyProof.Rows L2
abbrev T_closed : TrD := fun xs μ R => ∃ dc c dt t db b, xs = [.d dc, .d dt, .d db] ∧ CoD dc c ∧ SqD dt (intsD t) ∧ SqD db (intsD b) ∧ t.Nodup ∧ t.length + c.length < 64 ∧ ∀ q, R (.a q) ((q, intsD (cl c t b)) :: μ)
structure Cls (c : Co) (t b tt : List Int) : Prop where
  nd : tt.Nodup
  base : ∀ x ∈ t, x ∈ tt
  low : ∀ S : Int → Prop, Shut c b S → (∀ x ∈ t, S x) → ∀ x ∈ tt, S x
  len : tt.length + und c tt ≤ t.length + c.length
theorem Cls.start {c : Co} {t b : List Int} (h : t.Nodup) : Cls c t b t := ⟨h, fun _ h => h, fun _ _ h => h, by have := und_le c t; omega⟩
theorem Cls.add {c : Co} {t b tt : List Int} {i : Int} (h : Cls c t b tt) (h0 : 0 ≤ i) (h1 : i < c.length) (h2 : i ∉ tt) (h3 : i ∉ b) (h4 : comes c tt i = true) : Cls c t b (tt ++ [i]) where
  nd := List.nodup_append.mpr ⟨h.nd, by simp, fun x hx y hy e => by
    rw [List.mem_singleton] at hy
    subst hy
    subst e
    exact h2 hx⟩
  base := fun x m => List.mem_append_left _ (h.base x m)
  low := fun S hS ht x m => by
    rcases List.mem_append.mp m with m | m
    · exact h.low S hS ht x m
    · rw [List.mem_singleton] at m
      subst m
      exact hS x h0 h1 h3 ⟨tt, h.low S hS ht, h4⟩
  len := by
    have := und_lt (c := c) (t := tt) (s := [i]) ⟨i, List.mem_singleton.mpr rfl, h2, h0, h1⟩
    have := h.len
    rw [List.length_append, List.length_singleton]
    omega
def fits : Nat → PyData → Bool
  | _, .none => true
  | _, .bool _ => true
  | _, .int _ => true
  | _, .str x => SeqAt.shaped (.str x)
  | 0, .list _ => false
  | 0, .tuple _ => false
  | n + 1, .list ds => decide (ds.length ≤ 1000) && ds.all (fits n)
  | n + 1, .tuple ds => decide (ds.length ≤ 1000) && ds.all (fits n)
  | _, .dict _ => false
theorem filt_all {α : Type} (l : List α) : l.filter (fun _ => true) = l := List.filter_eq_self.mpr fun _ _ => rfl
theorem eqv_ii (i : Int) : PyData.eqv (.int i) (.int i) = true := by simp [PyData.eqv]
theorem eqv_bb (i : Bool) : PyData.eqv (.bool i) (.bool i) = true := by simp [PyData.eqv]
theorem eqv_ss (i : Str) : PyData.eqv (.str i) (.str i) = true := by simp [PyData.eqv]
theorem eqv_nn : PyData.eqv .none .none = true := by simp [PyData.eqv]
end Ec
set_option Elab.async false
set_option linter.all false
set_option maxRecDepth 100000
set_option maxHeartbeats 4000000
namespace Ec
open PySem PySem.Spec PyProof.Rows L2
section
variable {X : Cx} {δ : Dl} {μ : Cells} {e a b : Expr} {pos p : Pos} {Q : Vd → Cells → Prop} {D : Dn} {sts : List Stmt}
theorem wts_nil {Q : Bool → Cells → Prop} (h : Q true μ) : WTs X [] δ μ Q := h
theorem fw_perm0 {K : PySem.W.Frag} {F H : Hp} {μ μ' : Cells} (p : μ.Perm μ') : Fw (ks μ) (ks μ') F H F H := (Fw.refl (bs := ks μ) (F := F) (H := H)).perm (K := K) p
theorem wb_perm {μ' : Cells} (p : μ.Perm μ') (h : WB X sts δ μ' D) : WB X sts δ μ D := fun F H σ R De b =>
  h F H σ (R.perm p) De (b.next (fw_perm0 (K := X.K) p))
theorem we_keep (h : WE X e δ μ fun x μ1 => Keep μ1 (Q x)) : WE X e δ μ Q := fun F H σ R QV c =>
  h F H σ R QV fun v x F1 H1 μ1 w1 R1 o1 q => by
    obtain ⟨k, w2, m2, q⟩ := RpM.kept w1 R1.m q
    exact c v x F1 H1 k w2 (R1.to (Same.refl _) m2) o1 q
end
def enL (e : List Int × Int) : List PyData := [.list (intsD e.1), .int e.2]
def coL (c : Co) : PyData := .list (c.map fun e => .list (enL e))
theorem coL_ok {c : Co} (hl : c.length ≤ 1000) (hf : ∀ e ∈ c, e.1.length ≤ 1000) : CoD (coL c) c where
  sq := ⟨_, .inl rfl, by
    have : ∀ l : Co, AllD EnD (l.map fun e => .list (enL e)) l := fun l => by
      induction l with
      | nil => trivial
      | cons e r ih => exact ⟨⟨_, .inl rfl, .inl rfl⟩, ih⟩
    exact this c⟩
  len := hl
  frs := hf
theorem coD_ok' {c : Co} (hl : c.length ≤ 1000) (hf : ∀ e ∈ c, e.1.length ≤ 1000) : CoD (coD c) c where
  sq := ⟨_, .inr rfl, by
    have : ∀ l : Co, AllD EnD (l.map enD) l := fun l => by
      induction l with
      | nil => trivial
      | cons e r ih => exact ⟨enD_ok e, ih⟩
    exact this c⟩
  len := hl
  frs := hf
theorem CoW.frs {c : Co} (h : CoW c) (hl : c.length ≤ 40) : ∀ e ∈ c, e.1.length ≤ 1000 := fun e he => by
  have := asc_len (h.up e he) (h.lt e he)
  omega
theorem canLays_all : ∀ {ds : List PyData}, (∀ d ∈ ds, d.canLay0 = true) → PyData.canLayAll0 ds = true
  | [], _ => rfl
  | d :: ds, h => by
    show (PyData.canLay0 d && PyData.canLayAll0 ds) = true
    rw [h d List.mem_cons_self, canLays_all fun x m => h x (List.mem_cons_of_mem _ m)]
    rfl
theorem depths_le {k : Nat} : ∀ {ds : List PyData}, (∀ d ∈ ds, d.depth ≤ k) → PyData.depthAll ds ≤ k
  | [], _ => Nat.zero_le _
  | d :: ds, h => by
    simp only [PyData.depthAll]
    exact Nat.max_le.mpr ⟨h d List.mem_cons_self, depths_le fun x m => h x (List.mem_cons_of_mem _ m)⟩
theorem eqvs_self : ∀ {ds : List PyData}, (∀ d ∈ ds, PyData.eqv d d = true) → PyData.eqvAll ds ds = true
  | [], _ => rfl
  | d :: ds, h => by
    show (PyData.eqv d d && PyData.eqvAll ds ds) = true
    rw [h d List.mem_cons_self, eqvs_self fun x m => h x (List.mem_cons_of_mem _ m)]
    rfl
theorem fits_all : ∀ (n : Nat) (d : PyData), fits n d = true → d.canLay0 = true ∧ d.depth ≤ n ∧ PyData.eqv d d = true
  | n, .none, _ => ⟨rfl, Nat.zero_le _, eqv_nn⟩
  | n, .bool b, _ => ⟨rfl, Nat.zero_le _, eqv_bb b⟩
  | n, .int i, _ => ⟨rfl, Nat.zero_le _, eqv_ii i⟩
  | n, .str x, h => by
    have h' : SeqAt.shaped (.str x) = true := by
      unfold fits at h
      exact h
    unfold SeqAt.shaped at h'
    rw [Bool.and_eq_true_iff] at h'
    exact ⟨h'.1, Nat.zero_le _, eqv_ss x⟩
  | 0, .list ds, h => by simp [fits] at h
  | 0, .tuple ds, h => by simp [fits] at h
  | n, .dict ds, h => by simp [fits] at h
  | n + 1, .list ds, h => by
    simp [fits] at h
    have ih := fun d m => fits_all n d (h.2 d m)
    exact ⟨canLays_all fun d m => (ih d m).1, by simp only [PyData.depth]; exact Nat.succ_le_succ (depths_le fun d m => (ih d m).2.1), eqvs_self fun d m => (ih d m).2.2⟩
  | n + 1, .tuple ds, h => by
    simp [fits] at h
    have ih := fun d m => fits_all n d (h.2 d m)
    exact ⟨canLays_all fun d m => (ih d m).1, by simp only [PyData.depth]; exact Nat.succ_le_succ (depths_le fun d m => (ih d m).2.1), eqvs_self fun d m => (ih d m).2.2⟩
theorem fits_shaped {n : Nat} {d : PyData} (h : fits n d = true) (hn : n ≤ 64 := by decide) : SeqAt.shaped d = true := by
  obtain ⟨h1, h2, _⟩ := fits_all n d h
  unfold SeqAt.shaped
  rw [h1, Bool.true_and]
  exact decide_eq_true (Nat.le_trans h2 hn)
theorem cutZ_take {ds : List PyData} {k : Nat} (h : k ≤ ds.length) : cutZ ds none (some (k : Int)) = ds.take k := by
  unfold cutZ
  rw [HT.sIx_none, HT.sIx_nat, Nat.min_eq_left h, Nat.sub_zero]
  rfl
theorem cutZ_drop {ds : List PyData} {k : Nat} (h : k ≤ ds.length) : cutZ ds (some (k : Int)) none = ds.drop k := by
  unfold cutZ
  rw [HT.sIx_none, HT.sIx_nat, Nat.min_eq_left h]
  exact List.take_of_length_le (by rw [List.length_drop]; exact Nat.le_refl _)
theorem co_cut {c : Co} {s : Nat} {e : List Int × Int} (h : s < c.length) : (c.map enD).take s ++ [enD e] ++ (c.map enD).drop (s + 1) = (c.set s e).map enD := by
  rw [List.set_eq_take_append_cons_drop, if_pos h, List.map_append, List.map_take, List.map_cons, List.map_drop, List.append_assoc]
  rfl
section
variable {X : Cx} {δ : Dl} {μ : Cells}
theorem wo_none {QO : Option Int → Cells → Prop} (h : QO none μ) : WO X none δ μ QO := h
theorem wo_some {e : Expr} {QO : Option Int → Cells → Prop} (h : WE X e δ μ fun z μ1 => ∃ i, z = .d (.int i) ∧ QO (some i) μ1) : WO X (some e) δ μ QO := h
end
abbrev T_right (k : Nat) : TrD := fun xs μ R => ∃ (b : Addr) (ds : List PyData) (m : Nat), xs = [.a b] ∧ μ = ([(b, ds)] : Cells) ∧ BoxOk m ds ∧ m + k ≤ 1000000000000 ∧ ∀ ds', BoxOk (m + k) ds' → R (.d (.bool true)) [(b, ds')]
section
variable {X : Cx} {δ : Dl} {μ : Cells} {D : Dn} {st : Stmt}
end
theorem cl_le (c : Co) (b : List Int) : (cl c [] b).length ≤ c.length := by
  have := cl_len c [] b
  unfold cl
  rw [(srt_perm _).length_eq]
  simpa using this
theorem nexts_le (c : Co) (t : List Int) : (nexts c t).length ≤ c.length := by
  unfold nexts
  refine Nat.le_trans (List.length_filter_le _ _) (Nat.le_trans (List.length_filter_le _ _) ?_)
  rw [rng_len]
  exact Nat.le_refl _
abbrev T_law : TrD := fun xs μ R => ∃ ns : List Int, xs = [.s ns] ∧ ns.length ≤ 63 ∧ μ = [] ∧ R (.d (.bool true)) []
theorem law_end {K : PySem.W.Frag} {vs : List V} {H : Hp} {Q : VK} {E : XK} (h : ∃ (a : Addr) (ns : List Int), vs = [.ref a] ∧ SqL K H a (ns.map V.int) ∧ ns.length ≤ 63 ∧ ∀ H', Q (.bl true) H') : spW K T_law vs H Q E := by
  obtain ⟨a, ns, rfl, hs, hl, q⟩ := h
  refine ⟨H, [.s ns], [], fun z _ => z = .d (.bool true), ⟨Same.refl _, List.nodup_nil, fun _ _ z => by cases z⟩, .cons ⟨a, rfl, hs⟩ .nil, ⟨ns, rfl, hl, rfl, rfl⟩, fun v x F' H' μ' _ _ o e => ?_⟩
  subst e
  rw [dp_bl o]
  exact q H'
end Ec
set_option Elab.async false
set_option linter.all false
set_option maxRecDepth 100000
set_option maxHeartbeats 4000000
namespace Ec
open PySem PySem.Spec PyProof.Rows L2
section
variable {prog : Program} {w : World} {A : Around} {E : Value → Shared → Prop} {s : Shared}
theorem gather_tup {t : Addr} {us : List Value} {Q : List Value → Shared → Prop} (ht : s.heap.IsTuple t us.toArray) (hz : us.length ≤ sizeLine)
    (k : Q us { s with heap := (s.heap.push (seqObj "list" #[] 0)).update s.heap.objs.size (Obj.mapSeq (· ++ us.toArray)) }) : wpAny (model prog w) A (collect (.ref t)) Q E s := by
  obtain ⟨o, e1, e2, n, e3⟩ := (show ∃ o, s.heap.get? t = some o ∧ o.cls = .type "tuple" ∧ ∃ n, o.data = .seq us.toArray n from by
    obtain ⟨o, a1, a2, n, a3⟩ := ht
    exact ⟨o, a1, a2, n, a3⟩)
  unfold collect
  refine wpAny_bind (wpAny_runValue (codeAny_builtin entry_proto_collect' (?_ : wpAny _ _ _ _ _ _)))
  have e1' : (s.heap.push (seqObj "list" #[] 0)).get? t = some o := Heap.get?_push_of_some _ e1
  refine wpAny_bind (wpAny_newList ?_)
  refine wpAny_pure ⟨Code.quiet_builtin _ (by decide +kernel), codeAny_builtin entry_list_iadd' (?_ : wpAny _ _ _ _ _ _)⟩
  have eT : (Value.type "tuple" == Value.type "tuple") = true := by rfl
  change wpAny (model prog w) _ (Builtin.List.listExtendWith (.ref s.heap.objs.size) (.ref t) (.ref _)) _ _ { s with heap := s.heap.push (seqObj "list" #[] 0) }
  unfold Builtin.List.listExtendWith
  refine wpAny_bind (wpAny_typeOf ⟨o, e1', e2⟩ ?_)
  rw [if_pos (by rw [eT, Bool.or_true])]
  have e4 : (s.heap.push (seqObj "list" #[] 0)).get? s.heap.objs.size = some (seqObj "list" #[] 0) := Heap.get?_push_size _ rfl
  refine wpAny_bind (listItems_at e1' e3 (wpAny_bind (listItems_at (xs := #[]) (n := 0) e4 rfl ?_)))
  rw [if_neg (by simp)]
  have e5 : (#[] ++ us.toArray : Array Value).size ≤ sizeLine + 1 := by
    simp only [Array.size_append, List.size_toArray, List.length_nil]
    omega
  refine wpAny_bind (listUpdate_at (xs := #[]) (n := 0) e4 rfl (wpAny_pure ?_) (Nat.zero_le _) e5)
  have e6 := get?_update_seq e4 (fun x => x ++ us.toArray)
  have e7 : ((#[] : Array Value) ++ us.toArray).toList = us := by simp
  refine wpAny_bind (wpAny_load e6 ?_)
  change wpAny _ _ (pure ((#[] : Array Value) ++ us.toArray).toList) Q E _
  rw [e7]
  exact wpAny_pure k
theorem sorted_tup {t : Addr} {us : List Value} {ns : List Int} {Q : Value → Shared → Prop} (ht : s.heap.IsTuple t us.toArray) (hI : IntsAre us ns) (h64 : us.length < 64)
    (k : ∀ (out : Array Value) (ms : List Int), IntsAre out.toList ms → ms.Perm ns → ms.Pairwise (· ≤ ·) → Q (.ref (s.heap.objs.size + 1)) { s with heap := sortedAll s.heap us out }) : wpAny (model prog w) A (call (.builtin "sorted") [.ref t]) Q E s := by
  have hz : us.length ≤ sizeLine := by rw [sizeLine_eq]; omega
  refine Calls.call_function_entry kind_sorted plain_sorted entry_sorted (args_sorted1 (.ref t)) (?_ : wpAny _ _ _ _ _ _)
  unfold Builtin.«sorted»
  refine wpAny_bind (m := checkCount _ 1 1 _) (wpAny_pure (wpAny_bind (gather_tup ht hz (wpAny_bind (wpAny_newList ?_ hz)))))
  generalize hh : (s.heap.push (seqObj "list" #[] 0)).update s.heap.objs.size (Obj.mapSeq (· ++ us.toArray)) = h1
  have z1 : h1.objs.size = s.heap.objs.size + 1 := by rw [← hh, Heap.size_update, size_push']
  have z2 : (h1.push (seqObj "list" us.toArray 0)).get? (s.heap.objs.size + 1) = some (seqObj "list" us.toArray 0) := by
    rw [← z1]
    exact Heap.get?_push_size _ rfl
  change wpAny _ _ _ _ _ { s with heap := h1.push (seqObj "list" us.toArray 0) }
  rw [z1]
  refine wpAny_bind (wpAny_holding (wpAny_call_entry slot_list_sort ⟨_, z2, rfl⟩ entry_list_sort (list_sort_tree z2 hI h64 fun out ms a1 a2 a3 => ⟨_, rfl, wpAny_pure ⟨_, rfl, ?_⟩⟩) (args_list_sort _)))
  have z3 := k out ms a1 a2 a3
  unfold sortedAll at z3
  rw [hh] at z3
  exact z3
end
section
variable {X : Cx} {δ : Dl} {μ : Cells} {e a b : Expr} {pos p : Pos} {Q : Vd → Cells → Prop} {es : List Expr} {mg : Str → Option Value}
def rSortTup (K : PySem.W.Frag) : List V → Hp → VK → Prop := fun vs H Q => ∃ (t : Addr) (ns : List Int), vs = [V.ref t] ∧ SqT K H t (ns.map V.int) ∧ ns.length < 64 ∧
  ∀ (ms : List Int) (p : Addr), ms.Perm ns → ms.Pairwise (· ≤ ·) → H p = none → Q (.ref p) (upd H p (.lst (ms.map V.int)))
theorem cr_sortTup : CallR X (.builtin "sorted") (rSortTup X.K) := by
  intro pins s σ H vs us Q I r h
  obtain ⟨t, ns, rfl, hs, h64, q⟩ := h
  obtain ⟨its, rv, hl, _⟩ := I.tuple hs
  rw [Vals.ref1 r]
  have hi := intsAre_of rv
  refine sorted_tup hl hi (by rw [hi.length]; exact h64) fun out ms h1 h2 h3 => ?_
  obtain ⟨n, e1⟩ := PyProof.Rows.sortedAll_at s.heap its out
  have hz : (ms.map V.int).length ≤ sizeLine := by
    rw [List.length_map, h2.length_eq]
    exact small64 h64
  have I2 := I.laid (t' := s.toks) (o := .lst (ms.map V.int)) (fun _ _ => PyProof.Rows.sortedAll_old) (Nat.le_succ _) ⟨hz, out.toList, n, vals_of_ints h1, e1⟩
  exact ⟨.ref (s.heap.objs.size + 1), _, I2, rfl, q ms _ h2 h3 (I.hok.fresh (Nat.le_succ _))⟩
theorem we_sortedT (B : Bl mg) (hg : Gl X "sorted") (h : WE X e δ μ fun x μ1 => ∃ ns, x = .d (.tuple (intsD ns)) ∧ ns.length < 64 ∧ ∀ p, Q (.a p) ((p, intsD (srt ns)) :: μ1)) (hm : X.mg = mg := by rfl) (s1 : starEach [e] X.env = (false, eval e X.env) :: starEach [] X.env := by rfl) (s2 : (backTo pos (starEach [] X.env)).any (·.1) = false := by rfl) :
    WE X (.Call (.Name "sorted" p) [e] [] pos) δ μ Q :=
  we_cb cr_sortTup hg (hm ▸ B.sorted) PyProof.Rows.boot_sorted (wa_one (h.mono fun x μ1 q => fun F H vs m o QV c => by
    obtain ⟨ns, rfl, hz, q⟩ := q
    cases o with
    | cons o1 o2 =>
      cases o2
      obtain ⟨a, us, rfl, hs, hd⟩ := dp_tup o1
      rw [dps_ints hd] at hs
      refine ⟨a, ns, rfl, same_t m.ex hs, hz, fun ns' l pm up nl => ?_⟩
      rw [srt_eq pm up]
      obtain ⟨m2, w2⟩ := m.cell nl (ints_dps (K := X.K) (H := F) (srt ns))
      exact c (.a l) _ _ _ _ w2 m2 rfl (q l)) s1) (he := s1) (hpl := s2)
def posn (v : Int) : List Int → Nat
  | [] => 0
  | x :: r => if x = v then 0 else posn v r + 1
theorem posn_at {v : Int} : ∀ {ns : List Int}, v ∈ ns → ns[posn v ns]? = some v ∧ ∀ m : Nat, m < posn v ns → ∀ z, ns[m]? = some z → z ≠ v
  | [], h => by cases h
  | x :: r, h => by
    unfold posn
    by_cases e : x = v
    · rw [if_pos e]
      exact ⟨by rw [e]; rfl, fun m h => absurd h (Nat.not_lt_zero _)⟩
    · rw [if_neg e]
      rcases List.mem_cons.mp h with h | h
      · exact absurd h.symm e
      · obtain ⟨h1, h2⟩ := posn_at h
        refine ⟨by simpa using h1, fun m hm z hz => ?_⟩
        cases m with
        | zero =>
          simp at hz
          rw [← hz]
          exact e
        | succ m => exact h2 m (by omega) z (by simpa using hz)
theorem flatV_ints (ns : List Int) : (ns.map V.int).all flatV = true := by
  rw [List.all_map]
  exact List.all_eq_true.mpr fun _ _ => rfl
theorem mw_index {K : PySem.W.Frag} {x : Vd} {v : Int} {ns : List Int} (hx : Ct μ x (intsD ns)) (nt : ∀ ds, toC x ≠ .tuple ds) (hv : v ∈ ns) (h : Q (.d (.int (posn v ns : Nat))) μ) : MtW K (rIndex K) x [.d (.int v)] μ Q := fun F H u vs m o1 o2 QV c => by
  cases o2 with
  | cons o2 o3 =>
    cases o3
    obtain ⟨a, us, rfl, hs, hd⟩ := ct_lst m o1 hx nt
    rw [dps_ints hd] at hs
    obtain ⟨h1, h2⟩ := posn_at hv
    refine ⟨a, _, .int v, posn v ns, .int v, rfl, by rw [dp_int o2], hs, rfl, flatV_ints ns, by rw [List.getElem?_map, h1]; rfl, by simp [eqV], fun k z hk hz => ?_, c (.d (.int _)) _ F H μ Fw.refl m (.int _) h⟩
    rw [List.getElem?_map] at hz
    cases q : ns[k]? with
    | none =>
      rw [q] at hz
      cases hz
    | some y =>
      rw [q] at hz
      cases hz
      have := h2 k hk y q
      simp [eqV, this]
theorem we_index {o : Expr} {apos cpos : Pos} (h : WE X o δ μ fun x μ1 => Lk μ1 x ∧ WE X e δ μ1 fun y μ2 => ∃ ns v, Ct μ2 x (intsD ns) ∧ (∀ ds, toC x ≠ .tuple ds) ∧ y = .d (.int v) ∧ v ∈ ns ∧ Q (.d (.int (posn v ns : Nat))) μ2)
    (hbase : attributeBase o "index" X.env (eval o X.env) = eval o X.env := by rfl)
    (hfew : ((backTo cpos (starEach [e] X.env)).all (fun x => !x.1) && (backToKw cpos (keywordEach [] X.env)).all (fun x => x.1.isSome)
      && decide ([e].length + ([] : List Keyword).length + (if ([] : List Keyword).isEmpty then 0 else 1) < 30)) = true := by rfl)
    (hline : (apos.endLine == cpos.line) = true := by rfl) (hs : starEach [e] X.env = (false, eval e X.env) :: starEach [] X.env := by rfl) (hplain : (backTo cpos (starEach [] X.env)).any (·.1) = false := by rfl) :
    WE X (.Call (.Attribute o "index" apos) [e] [] cpos) δ μ Q :=
  we_bmL PySem.F.plainAttrs_list PySem.F.slot_list_index PySem.F.type_list_index mt_index (h.mono fun x μ1 q => by
    obtain ⟨lk, q⟩ := q
    refine ⟨lk, wa_one (q.mono fun y μ2 q => ?_) hs⟩
    obtain ⟨ns, v, hx, nt, rfl, hv, q⟩ := q
    exact mw_index hx nt hv q) hbase hfew hline hs hplain
theorem room65 {k : Nat} {A : Around} (r : Room k A) : A.units + 65 < cLine := by
  have := r.un
  omega
theorem ow_niD {x y : Vd} {d : PyData} {ds : List PyData} (hx : Vt μ x d) (hy : Vt μ y (.list ds)) (sd : SeqAt.shaped d = true) (se : SeqAt.shaped (.list ds) = true) {K : PySem.W.Frag} (h : Q (.d (.bool (!inD d ds))) μ) : OpW K (rNotInD K) x y μ Q := fun F H v u m o1 o2 QV c =>
  ⟨d, ds, (vt_ok m o1 hx).dp, (vt_ok m o2 hy).dp, sd, se, c (.d (.bool _)) _ F H μ Fw.refl m (.bl _) h⟩
theorem wt_chain {op op' : CmpOp} {r r' : R2} {c : Expr} {T : Bool → Cells → Prop} (ho : OpR X (compareOp op) r) (ho' : OpR X (compareOp op') r') (h : WE X a δ μ fun x μ1 => WE X b δ μ1 fun y μ2 => OpW X.K r x y μ2 fun z μ3 => ∃ k, z = .d (.bool k) ∧ if k = true then ∀ y', y' = y → WE X c δ μ3 fun w μ4 => OpW X.K r' y' w μ4 fun z μ5 => ∃ k, z = .d (.bool k) ∧ T k μ5 else T false μ3)
    (hm : lastMarks [op, op'] [b, c] = false := by with_unfolding_all rfl) : WT X (.Compare a [op, op'] [b, c] pos) δ μ T := fun F H σ R QV cc =>
  toT (pt_chain ho ho' (pcE X a) (pcE X b) (pcE X c) hm) (h F H σ R _ fun v x F1 H1 μ1 w1 R1 o1 q1 => q1 F1 H1 σ R1 _ fun u y F2 H2 μ2 w2 R2 o2 q2 => q2 F2 H2 v u R2.m (o1.up w2.f) o2 _ fun z w F3 H3 μ3 w3 m3 o3 q3 => by
    obtain ⟨k, rfl, q3⟩ := q3
    refine ⟨k, dp_bl o3, ?_⟩
    have R3 := R2.to w3.f m3
    have wa := (w1.trans w2).trans w3
    cases k with
    | true => exact (q3 y rfl) F3 H3 σ R3 _ fun w' x4 F4 H4 μ4 w4 R4 o4 q4 => q4 F4 H4 u w' R4.m (o2.up (w3.f.trans w4.f)) o4 _ fun z5 w5' F5 H5 μ5 w5 m5 o5 q5 => by
                obtain ⟨k5, rfl, q5⟩ := q5
                exact ⟨k5, dp_bl o5, cc k5 F5 H5 μ5 ((wa.trans w4).trans w5) (R4.to w5.f m5) q5⟩
    | false => exact ⟨false, rfl, cc false F3 H3 μ3 wa R3 q3⟩)
end
end Ec
set_option Elab.async false
set_option linter.all false
namespace Ec
open PySem PySem.Spec PyProof.Rows L2
def misL (c : Co) (r : List Int) : List Nat := (List.range r.length).filter fun i => !comes c (r.take i) (r.getD i 0)
def misV (c : Co) (r : List Int) : PyData := match misL c r with
  | [] => .none
  | i :: _ => .int (i : Int)
def bh (c : Co) (p : Int) : List Int := (rng c.length).filter fun o => !decide (o = p) && !decide (o ∈ cl c [] [p])
def duoD (q : Int × Int) : PyData := .tuple [.int q.1, .int q.2]
def prs (n : Nat) : List (Int × Int) := (rng n).flatMap fun lo => ((rng n).filter fun h => decide (lo < h)).map fun h => (lo, h)
def mb (c : Co) : List (Int × Int) := (rng c.length).flatMap fun p => (bh c p).map fun o => (p, o)
def fp (c : Co) : List (Int × Int) := (prs c.length).filter fun q => !decide (q ∈ mb c) && !decide ((q.2, q.1) ∈ mb c)
def er (c : Co) (p : Int) : List Int := ((rng c.length).filter fun o => !decide (o = p)).filter fun o => decide (p ∈ bh c o)
abbrev T_lookw : TrD := fun xs μ R => ∃ dc c, xs = [.d dc] ∧ CoD dc c ∧ c.length < 64 ∧ nev c = [] ∧ R (.d .none) μ
abbrev T_lookp : TrD := fun xs μ R => ∃ dc c p, xs = [.d dc, .d (.int p)] ∧ CoD dc c ∧ 0 ≤ p ∧ p < c.length ∧ R (.d .none) μ
abbrev T_misfit : TrD := fun xs μ R => ∃ dc c dr r, xs = [.d dc, .d dr] ∧ CoD dc c ∧ SqD dr (intsD r) ∧ r.length ≤ 1000 ∧ (∀ x ∈ r, 0 ≤ x ∧ x < c.length) ∧ R (.d (misV c r)) μ
abbrev T_pairs : TrD := fun xs μ R => ∃ n : Nat, xs = [.d (.int (n : Int))] ∧ n ≤ 60 ∧ ∀ q, R (.a q) ((q, (prs n).map duoD) :: μ)
abbrev T_behind : TrD := fun xs μ R => ∃ dc c p, xs = [.d dc, .d (.int p)] ∧ CoD dc c ∧ c.length < 63 ∧ ∀ q, R (.a q) ((q, intsD (bh c p)) :: μ)
abbrev T_mb : TrD := fun xs μ R => ∃ dc c, xs = [.d dc] ∧ CoD dc c ∧ c.length < 63 ∧ nev c = [] ∧ ∀ q, R (.a q) ((q, (mb c).map duoD) :: μ)
abbrev T_free : TrD := fun xs μ R => ∃ dc c, xs = [.d dc] ∧ CoD dc c ∧ c.length ≤ 60 ∧ nev c = [] ∧ ∀ q, R (.a q) ((q, (fp c).map duoD) :: μ)
abbrev T_earlier : TrD := fun xs μ R => ∃ dc c p, xs = [.d dc, .d (.int p)] ∧ CoD dc c ∧ c.length < 63 ∧ nev c = [] ∧ 0 ≤ p ∧ p < c.length ∧ R (.d (.tuple (intsD (er c p)))) μ
abbrev T_later : TrD := fun xs μ R => ∃ dc c p, xs = [.d dc, .d (.int p)] ∧ CoD dc c ∧ c.length < 63 ∧ nev c = [] ∧ 0 ≤ p ∧ p < c.length ∧ R (.d (.tuple (intsD (bh c p)))) μ
abbrev T_latest : TrD := fun xs μ R => ∃ dc c p, xs = [.d dc, .d (.int p)] ∧ CoD dc c ∧ c.length < 63 ∧ nev c = [] ∧ 0 ≤ p ∧ p < c.length ∧ R (.d (.int ((cl c [] [p]).length : Nat))) μ
theorem bh_le (c : Co) (p : Int) : (bh c p).length ≤ c.length := by
  unfold bh
  refine Nat.le_trans (List.length_filter_le _ _) ?_
  rw [rng_len]
  exact Nat.le_refl _
theorem flat_le {α β : Type} (f : α → List β) (k : Nat) : ∀ l : List α, (∀ x ∈ l, (f x).length ≤ k) → (l.flatMap f).length ≤ l.length * k
  | [], _ => by simp
  | x :: l, h => by
    rw [List.flatMap_cons, List.length_append, List.length_cons, Nat.succ_mul]
    have := h x List.mem_cons_self
    have := flat_le f k l fun y m => h y (List.mem_cons_of_mem _ m)
    omega
theorem rng_succ (n : Nat) : rng (n + 1) = rng n ++ [(n : Int)] := by
  unfold rng
  rw [List.range_succ, List.map_append]
  rfl
theorem rangeD_from (lo n : Nat) (h : lo ≤ n) : rangeD (lo : Int) (n - lo) = intsD ((rng n).filter fun x => decide ((lo : Int) ≤ x)) := by
  obtain ⟨k, rfl⟩ : ∃ k, n = lo + k := ⟨n - lo, by omega⟩
  rw [Nat.add_sub_cancel_left]
  induction k with
  | zero =>
    have e : (rng (lo + 0)).filter (fun x => decide ((lo : Int) ≤ x)) = [] := List.filter_eq_nil_iff.mpr fun x hx => by
      have := (mem_rng.mp hx).2
      simp
      omega
    rw [e]
    rfl
  | succ k ih =>
    have e : rangeD (lo : Int) (k + 1) = rangeD (lo : Int) k ++ [.int ((lo : Int) + (k : Int))] := by
      unfold rangeD
      rw [List.range_succ, List.map_append]
      rfl
    have e2 : (rng (lo + (k + 1))).filter (fun x => decide ((lo : Int) ≤ x)) = (rng (lo + k)).filter (fun x => decide ((lo : Int) ≤ x)) ++ [((lo : Int) + (k : Int))] := by
      rw [← Nat.add_assoc, rng_succ, List.filter_append]
      have : ((lo + k : Nat) : Int) = (lo : Int) + (k : Int) := by omega
      rw [this]
      have h2 : [((lo : Int) + (k : Int))].filter (fun x => decide ((lo : Int) ≤ x)) = [((lo : Int) + (k : Int))] := by
        rw [List.filter_cons, if_pos (decide_eq_true (by omega))]
        rfl
      rw [h2]
    rw [e, e2, ih (by omega)]
    show _ = List.map PyData.int (_ ++ _)
    rw [List.map_append]
    rfl
theorem eqv_pr (a b : Int × Int) : PyData.eqv (duoD a) (duoD b) = decide (a = b) := by
  obtain ⟨a1, a2⟩ := a
  obtain ⟨b1, b2⟩ := b
  show (PyData.eqv (.int a1) (.int b1) && (PyData.eqv (.int a2) (.int b2) && true)) = _
  simp only [PyData.eqv, Bool.and_true, Prod.mk.injEq, Bool.decide_and]
  congr 1
theorem inD_pr (a : Int × Int) (l : List (Int × Int)) : inD (duoD a) (l.map duoD) = decide (a ∈ l) := by
  unfold inD
  rw [List.any_map]
  rw [Bool.eq_iff_iff]
  simp only [List.any_eq_true, Function.comp, eqv_pr, decide_eq_true_eq]
  constructor
  · rintro ⟨x, hx, rfl⟩
    exact hx
  · exact fun h => ⟨a, h, rfl⟩
theorem pr_fits (q : Int × Int) : fits 1 (duoD q) = true := by
  unfold duoD fits
  simp only [List.all_cons, List.all_nil]
  unfold fits
  rfl
theorem shaped_lst' {n : Nat} {ds : List PyData} (h : ∀ d ∈ ds, fits n d = true) (hn : n + 1 ≤ 64 := by decide) : SeqAt.shaped (.list ds) = true := by
  have ih := fun d m => fits_all n d (h d m)
  unfold SeqAt.shaped
  rw [Bool.and_eq_true_iff]
  refine ⟨canLays_all fun d m => (ih d m).1, decide_eq_true ?_⟩
  simp only [PyData.depth]
  exact Nat.le_trans (Nat.succ_le_succ (depths_le fun d m => (ih d m).2.1)) hn
theorem prs_shaped (l : List (Int × Int)) : SeqAt.shaped (.list (l.map duoD)) = true := shaped_lst' (n := 1) fun d m => by
  obtain ⟨q, _, rfl⟩ := List.mem_map.mp m
  exact pr_fits q
end Ec
set_option Elab.async false
set_option linter.all false
set_option maxRecDepth 100000
set_option maxHeartbeats 4000000
namespace Ec
theorem cnt_two {α : Type} (f : α → Bool) : ∀ L : List α, (L.filter f).length + (L.filter fun p => !f p).length = L.length
  | [] => rfl
  | x :: r => by
    have := cnt_two f r
    rw [List.filter_cons, List.filter_cons]
    cases hf : f x <;> simp <;> omega
theorem nodup_le {as bs : List Int} (ha : as.Nodup) (hb : bs.Nodup) (h : ∀ x ∈ as, x ∈ bs) : as.length ≤ bs.length := by
  have p : as.Perm (bs.filter fun x => decide (x ∈ as)) := perm_of_mem ha (hb.filter _) fun x => by
    rw [List.mem_filter]
    exact ⟨fun m => ⟨h x m, decide_eq_true m⟩, fun m => of_decide_eq_true m.2⟩
  rw [p.length_eq]
  exact List.length_filter_le _ _
theorem len_und {c : Co} {t : List Int} (h : t.Nodup) (hr : ∀ x ∈ t, 0 ≤ x ∧ x < c.length) : t.length + und c t = c.length := by
  have p : t.Perm ((rng c.length).filter fun x => decide (x ∈ t)) := perm_of_mem h ((rng_nodup _).filter _) fun x => by
    rw [List.mem_filter]
    exact ⟨fun m => ⟨mem_rng.mpr (hr x m), decide_eq_true m⟩, fun m => of_decide_eq_true m.2⟩
  have := cnt_two (fun x => decide (x ∈ t)) (rng c.length)
  rw [rng_len] at this
  unfold und
  rw [p.length_eq]
  exact this
theorem gr_nodup (c : Co) : (gr c).Nodup := cl_nodup List.nodup_nil
theorem gr_rng (c : Co) : ∀ x ∈ gr c, 0 ≤ x ∧ x < c.length := cl_rng fun x h => by cases h
theorem whole_iff (c : Co) : nev c = [] ↔ ∀ p : Int, 0 ≤ p → p < c.length → p ∈ gr c := by
  unfold nev
  rw [List.filter_eq_nil_iff]
  constructor
  · intro h p h0 h1
    have := h p (mem_rng.mpr ⟨h0, h1⟩)
    simpa using this
  · intro h p hp
    have := mem_rng.mp hp
    simpa using h p this.1 this.2
theorem whole_len {c : Co} (h : nev c = []) : (gr c).length = c.length := by
  have h1 := nodup_le (gr_nodup c) (rng_nodup c.length) fun x m => mem_rng.mpr (gr_rng c x m)
  have h2 := nodup_le (rng_nodup c.length) (gr_nodup c) fun x m => (whole_iff c).mp h x (mem_rng.mp m).1 (mem_rng.mp m).2
  rw [rng_len] at h1 h2
  omega
theorem whole_of_len {c : Co} (h : c.length ≤ (gr c).length) : nev c = [] := by
  have h1 := len_und (gr_nodup c) (gr_rng c)
  have h2 : und c (gr c) = 0 := by omega
  unfold und at h2
  exact List.length_eq_zero_iff.mp h2
theorem fr_set {c : Co} {s : Nat} {e : List Int × Int} {k : Int} (he : c[s]? = some e) (p : Int) : fr (c.set s (e.1, k)) p = fr c p := by
  unfold fr
  rw [List.getD_eq_getElem?_getD, List.getD_eq_getElem?_getD]
  by_cases hs : s = p.toNat
  · have hl := (List.getElem?_eq_some_iff.mp he).1
    rw [← hs, List.getElem?_set_self hl, he]
    rfl
  · rw [List.getElem?_set_ne hs]
theorem nd_set {c : Co} {s : Nat} {e : List Int × Int} {k : Int} (he : c[s]? = some e) (p : Int) : nd (c.set s (e.1, k)) p = if s = p.toNat then k else nd c p := by
  unfold nd
  rw [List.getD_eq_getElem?_getD, List.getD_eq_getElem?_getD]
  by_cases hs : s = p.toNat
  · have hl := (List.getElem?_eq_some_iff.mp he).1
    rw [if_pos hs, ← hs, List.getElem?_set_self hl]
    rfl
  · rw [List.getElem?_set_ne hs, if_neg hs]
theorem cnt_set {c : Co} {s : Nat} {e : List Int × Int} {k : Int} (he : c[s]? = some e) (t : List Int) (p : Int) : cnt (c.set s (e.1, k)) t p = cnt c t p := by
  unfold cnt
  rw [fr_set he]
theorem ease {c : Co} {s : Nat} {e : List Int × Int} (he : c[s]? = some e) (hs : (s : Int) ∉ gr c) : und (c.set s (e.1, cnt c (gr c) s)) (gr (c.set s (e.1, cnt c (gr c) s))) < und c (gr c) := by
  have hl := (List.getElem?_eq_some_iff.mp he).1
  have hsl : (s : Int) < c.length := by omega
  have hnc : comes c (gr c) s = false := by
    cases q : comes c (gr c) s with
    | false => rfl
    | true => exact absurd (cl_shut c [] [] s (by omega) hsl (by simp) ⟨gr c, fun _ h => h, q⟩) hs
  have hlt : cnt c (gr c) s < nd c s := by
    unfold comes at hnc
    have := of_decide_eq_false hnc
    omega
  generalize hk : cnt c (gr c) s = k at hlt
  have hlen : (c.set s (e.1, k)).length = c.length := List.length_set
  have up : ∀ t p, comes c t p = true → comes (c.set s (e.1, k)) t p = true := fun t p h => by
    unfold comes at h ⊢
    rw [cnt_set he, nd_set he]
    have h1 := of_decide_eq_true h
    refine decide_eq_true ?_
    split
    · rename_i e1
      have e2 : nd c p = nd c s := by
        unfold nd
        rw [← e1, Int.toNat_natCast]
      omega
    · exact h1
  have sub : ∀ x ∈ gr c, x ∈ gr (c.set s (e.1, k)) := cl_in (fun p h0 h1 hb ⟨t, ht, hc⟩ => cl_shut _ [] [] p h0 (by rw [hlen]; exact h1) hb ⟨t, ht, up t p hc⟩) (fun x h => by cases h)
  have low : (s : Int) ∈ gr (c.set s (e.1, k)) := by
    refine cl_shut _ [] [] s (by omega) (by rw [hlen]; exact hsl) (by simp) ⟨gr c, sub, ?_⟩
    unfold comes
    rw [cnt_set he, nd_set he, Int.toNat_natCast, if_pos rfl, hk]
    exact decide_eq_true (Int.le_refl _)
  unfold und
  rw [hlen]
  refine filter_lt (fun x _ h => ?_) ⟨s, mem_rng.mpr ⟨by omega, hsl⟩, by simpa using hs, by simpa using low⟩
  have h1 : x ∉ gr (c.set s (e.1, k)) := by simpa using h
  simpa using fun z => h1 (sub x z)
structure POrd (c : Co) (r : List Int) : Prop where
  nd : r.Nodup
  rg : ∀ x ∈ r, 0 ≤ x ∧ x < c.length
  ok : ∀ i : Nat, ∀ x, r[i]? = some x → comes c (r.take i) x = true
theorem POrd.nil (c : Co) : POrd c [] := ⟨List.nodup_nil, fun x h => (by cases h), fun i x h => (by simp at h)⟩
theorem POrd.add {c : Co} {r : List Int} {x : Int} (h : POrd c r) (h0 : 0 ≤ x) (h1 : x < c.length) (h2 : x ∉ r) (h3 : comes c r x = true) : POrd c (r ++ [x]) where
  nd := List.nodup_append.mpr ⟨h.nd, by simp, fun a ha b hb e => by
    rw [List.mem_singleton] at hb
    subst hb
    subst e
    exact h2 ha⟩
  rg := fun y m => by
    rcases List.mem_append.mp m with m | m
    · exact h.rg y m
    · rw [List.mem_singleton] at m
      subst m
      exact ⟨h0, h1⟩
  ok := fun i y hy => by
    by_cases hi : i < r.length
    · rw [List.getElem?_append_left hi] at hy
      rw [List.take_append_of_le_length (by omega)]
      exact h.ok i y hy
    · have hl := (List.getElem?_eq_some_iff.mp hy).1
      rw [List.length_append, List.length_singleton] at hl
      have e : i = r.length := by omega
      subst e
      rw [List.getElem?_append_right (Nat.le_refl _), Nat.sub_self] at hy
      cases hy
      rw [List.take_append_of_le_length (Nat.le_refl _), List.take_length]
      exact h3
theorem POrd.take {c : Co} {r : List Int} (h : POrd c r) (k : Nat) : POrd c (r.take k) where
  nd := h.nd.sublist (List.take_sublist _ _)
  rg := fun x m => h.rg x (List.mem_of_mem_take m)
  ok := fun i x hx => by
    have hl := (List.getElem?_eq_some_iff.mp hx).1
    rw [List.length_take] at hl
    rw [List.getElem?_take_of_lt (by omega)] at hx
    rw [List.take_take, Nat.min_eq_left (by omega)]
    exact h.ok i x hx
theorem POrd.len {c : Co} {r : List Int} (h : POrd c r) : r.length ≤ c.length := by
  have := nodup_le h.nd (rng_nodup c.length) fun x m => mem_rng.mpr (h.rg x m)
  rw [rng_len] at this
  exact this
theorem POrd.more {c : Co} {r : List Int} (h : POrd c r) (hw : nev c = []) (hl : r.length < c.length) : ∃ x : Int, 0 ≤ x ∧ x < c.length ∧ x ∉ r ∧ comes c r x = true := by
  apply Classical.byContradiction
  intro hn
  have hS : Shut c [] (fun x => x ∈ r) := fun p h0 h1 _ ⟨t, ht, hc⟩ => by
    apply Classical.byContradiction
    intro hp
    exact hn ⟨p, h0, h1, hp, comes_mono ht hc⟩
  have hin := cl_in (t := []) hS (fun x h => by cases h)
  have := nodup_le (gr_nodup c) h.nd hin
  rw [whole_len hw] at this
  omega
theorem POrd.sub {c : Co} {s : Int} : ∀ {r : List Int}, POrd c r → s ∉ r → ∀ x ∈ r, x ∈ cl c [] [s] := fun {r} h hs => by
  have key : ∀ k, ∀ x ∈ r.take k, x ∈ cl c [] [s] := fun k => by
    induction k with
    | zero => intro x hx; simp at hx
    | succ k ih =>
      intro x hx
      cases q : r[k]? with
      | none =>
        rw [List.take_add_one, q] at hx
        exact ih x (by simpa using hx)
      | some y =>
        rw [List.take_add_one, q] at hx
        rcases List.mem_append.mp hx with hx | hx
        · exact ih x hx
        · have e : x = y := by simpa using hx
          subst e
          have hm := List.mem_of_getElem? q
          refine cl_shut c [] [s] x (h.rg x hm).1 (h.rg x hm).2 ?_ ⟨r.take k, ih, h.ok k x q⟩
          intro z
          rw [List.mem_singleton] at z
          exact hs (z ▸ hm)
  intro x hx
  refine key r.length x ?_
  rw [List.take_length]
  exact hx
structure IsOrd (c : Co) (r : List Int) : Prop where
  po : POrd c r
  len : r.length = c.length
theorem IsOrd.mem {c : Co} {r : List Int} (h : IsOrd c r) {x : Int} (h0 : 0 ≤ x) (h1 : x < c.length) : x ∈ r := by
  have p : und c r = 0 := by
    have := len_und h.po.nd h.po.rg
    have := h.len
    omega
  unfold und at p
  have := List.filter_eq_nil_iff.mp (List.length_eq_zero_iff.mp p) x (mem_rng.mpr ⟨h0, h1⟩)
  simpa using this
theorem IsOrd.perm {c : Co} {r : List Int} (h : IsOrd c r) : r.Perm (rng c.length) := perm_of_mem h.po.nd (rng_nodup _) fun x => ⟨fun m => mem_rng.mpr (h.po.rg x m), fun m => h.mem (mem_rng.mp m).1 (mem_rng.mp m).2⟩
theorem rng_up (n : Nat) : (rng n).Pairwise (· ≤ ·) := by
  unfold rng
  rw [List.pairwise_map]
  exact List.pairwise_lt_range.imp fun h => by omega
theorem misL_nil {c : Co} {r : List Int} (h : POrd c r) : misL c r = [] := by
  unfold misL
  refine List.filter_eq_nil_iff.mpr fun i hi => ?_
  have hl := List.mem_range.mp hi
  have := h.ok i r[i] (List.getElem?_eq_getElem hl)
  rw [List.getD_eq_getElem?_getD, List.getElem?_eq_getElem hl]
  simp [this]
theorem posn_lt {v : Int} {r : List Int} (h : v ∈ r) : posn v r < r.length := (List.getElem?_eq_some_iff.mp (posn_at h).1).1
theorem posn_take {v : Int} {r : List Int} (h : v ∈ r) : v ∉ r.take (posn v r) := fun z => by
  obtain ⟨k, hk⟩ := List.mem_iff_getElem?.mp z
  have hl := (List.getElem?_eq_some_iff.mp hk).1
  rw [List.length_take] at hl
  rw [List.getElem?_take_of_lt (by omega)] at hk
  exact (posn_at h).2 k (by omega) v hk rfl
theorem posn_in {v w : Int} {r : List Int} (hv : v ∈ r) (hw : w ∈ r) : w ∈ r.take (posn v r) ↔ posn w r < posn v r := by
  constructor
  · intro z
    obtain ⟨k, hk⟩ := List.mem_iff_getElem?.mp z
    have hl := (List.getElem?_eq_some_iff.mp hk).1
    rw [List.length_take] at hl
    rw [List.getElem?_take_of_lt (by omega)] at hk
    have : ¬ k < posn w r := fun q => (posn_at hw).2 k q w hk rfl
    omega
  · intro z
    refine List.mem_iff_getElem?.mpr ⟨posn w r, ?_⟩
    rw [List.getElem?_take_of_lt z]
    exact (posn_at hw).1
theorem posn_inj {v w : Int} {r : List Int} (hv : v ∈ r) (hw : w ∈ r) (h : posn v r = posn w r) : v = w := by
  have h1 := (posn_at hv).1
  have h2 := (posn_at hw).1
  rw [h, h2] at h1
  exact (Option.some.inj h1).symm
theorem mem_bh {c : Co} {p o : Int} : o ∈ bh c p ↔ (0 ≤ o ∧ o < c.length) ∧ o ≠ p ∧ o ∉ cl c [] [p] := by
  unfold bh
  rw [List.mem_filter, mem_rng]
  simp
theorem er_mem {c : Co} {p o : Int} : o ∈ er c p ↔ (0 ≤ o ∧ o < c.length) ∧ o ≠ p ∧ p ∈ bh c o := by
  unfold er
  rw [List.mem_filter, List.mem_filter, mem_rng]
  simp [and_assoc]
theorem ord_there {c : Co} (hw : nev c = []) : ∃ r, IsOrd c r := by
  have : ∀ k, k ≤ c.length → ∃ r, POrd c r ∧ r.length = k := fun k => by
    induction k with
    | zero => exact fun _ => ⟨[], POrd.nil c, rfl⟩
    | succ k ih =>
      intro hk
      obtain ⟨r, hr, hl⟩ := ih (by omega)
      obtain ⟨x, h0, h1, h2, h3⟩ := hr.more hw (by omega)
      exact ⟨r ++ [x], hr.add h0 h1 h2 h3, by rw [List.length_append, hl]; rfl⟩
  obtain ⟨r, hr, hl⟩ := this c.length (Nat.le_refl _)
  exact ⟨r, hr, hl⟩
structure Led (c : Co) (s : Int) (r : List Int) : Prop where
  po : POrd c r
  off : s ∈ r → ∀ x ∈ cl c [] [s], x ∈ r.take (posn s r)
theorem posn_app {v : Int} {r q : List Int} (h : v ∈ r) : posn v (r ++ q) = posn v r := by
  induction r with
  | nil => cases h
  | cons x t ih =>
    show (if x = v then 0 else posn v (t ++ q) + 1) = if x = v then 0 else posn v t + 1
    split
    · rfl
    · rename_i hx
      rcases List.mem_cons.mp h with h | h
      · exact absurd h.symm hx
      · rw [ih h]
theorem posn_end {v : Int} {r : List Int} (h : v ∉ r) : posn v (r ++ [v]) = r.length := by
  induction r with
  | nil => simp [posn]
  | cons x t ih =>
    show (if x = v then 0 else posn v (t ++ [v]) + 1) = t.length + 1
    rw [if_neg (fun e : x = v => h (by rw [← e]; exact List.mem_cons_self)), ih fun m => h (List.mem_cons_of_mem _ m)]
theorem Led.nil (c : Co) (s : Int) : Led c s [] := ⟨POrd.nil c, fun h => (by cases h)⟩
theorem Led.other {c : Co} {s : Int} {r : List Int} {x : Int} (h : Led c s r) (hp : POrd c (r ++ [x])) (hx : s ∈ r ∨ x ≠ s) : Led c s (r ++ [x]) := ⟨hp, fun m y hy => by
  rcases List.mem_append.mp m with m | m
  · rw [posn_app m, List.take_append_of_le_length (Nat.le_of_lt (posn_lt m))]
    exact h.off m y hy
  · rw [List.mem_singleton] at m
    rcases hx with hx | hx
    · rw [posn_app hx, List.take_append_of_le_length (Nat.le_of_lt (posn_lt hx))]
      exact h.off hx y hy
    · exact absurd m.symm hx⟩
theorem Led.self {c : Co} {s : Int} {r : List Int} (h : Led c s r) (hp : POrd c (r ++ [s])) (hs : s ∉ r) (hno : ∀ x : Int, 0 ≤ x → x < c.length → x ∉ r → comes c r x = true → x = s) : Led c s (r ++ [s]) := ⟨hp, fun _ y hy => by
  rw [posn_end hs, List.take_append_of_le_length (Nat.le_refl _), List.take_length]
  refine cl_in (t := []) (fun p h0 h1 hb ⟨t, ht, hc⟩ => ?_) (fun x h => by cases h) y hy
  apply Classical.byContradiction
  intro hn
  exact hb (List.mem_singleton.mpr (hno p h0 h1 hn (comes_mono ht hc)))⟩
theorem Led.set {c : Co} {s : Int} {r : List Int} (h : Led c s r) (hs : s ∈ r) (x : Int) : x ∈ r.take (posn s r) ↔ x ∈ cl c [] [s] := ⟨(h.po.take _).sub (posn_take hs) x, h.off hs x⟩
theorem Led.place {c : Co} {s : Int} {r : List Int} (h : Led c s r) (hs : s ∈ r) : posn s r = (cl c [] [s]).length := by
  have p : (r.take (posn s r)).Perm (cl c [] [s]) := perm_of_mem (h.po.take _).nd (cl_nodup List.nodup_nil) (h.set hs)
  rw [← p.length_eq, List.length_take]
  have := posn_lt hs
  omega
theorem Led.rest {c : Co} {s : Int} {r : List Int} (h : Led c s r) (hl : r.length = c.length) (h0 : 0 ≤ s) (h1 : s < c.length) : srt (r.drop (posn s r + 1)) = bh c s := by
  have ho : IsOrd c r := ⟨h.po, hl⟩
  have hs := ho.mem h0 h1
  have nd2 : (r.drop (posn s r + 1)).Nodup := h.po.nd.sublist (List.drop_sublist _ _)
  have split : ∀ x, x ∈ r ↔ x ∈ r.take (posn s r) ∨ x = s ∨ x ∈ r.drop (posn s r + 1) := fun x => by
    have e : r = r.take (posn s r) ++ (s :: r.drop (posn s r + 1)) := by
      have h2 := (posn_at hs).1
      obtain ⟨hl2, e2⟩ := List.getElem?_eq_some_iff.mp h2
      conv => lhs; rw [← List.take_append_drop (posn s r) r]
      rw [List.drop_eq_getElem_cons hl2, e2]
    constructor
    · intro m
      rw [e] at m
      rcases List.mem_append.mp m with m | m
      · exact .inl m
      · rcases List.mem_cons.mp m with m | m
        · exact .inr (.inl m)
        · exact .inr (.inr m)
    · rintro (m | rfl | m)
      · exact List.mem_of_mem_take m
      · exact hs
      · exact List.mem_of_mem_drop m
  have dis : ∀ x, x ∈ r.drop (posn s r + 1) → x ∉ r.take (posn s r) ∧ x ≠ s := fun x m => by
    have nd := h.po.nd
    rw [← List.take_append_drop (posn s r + 1) r] at nd
    have d := (List.nodup_append.mp nd).2.2
    have e3 : r.take (posn s r + 1) = r.take (posn s r) ++ [s] := by rw [List.take_add_one, (posn_at hs).1]; rfl
    rw [e3] at d
    exact ⟨fun z => d x (List.mem_append_left _ z) x m rfl, fun z => d s (List.mem_append_right _ (List.mem_singleton.mpr rfl)) x m z.symm⟩
  have up : (bh c s).Pairwise (· ≤ ·) := (rng_up _).sublist List.filter_sublist
  refine srt_one ((srt_perm _).trans ?_) (srt_up _) up
  refine perm_of_mem nd2 ((rng_nodup _).filter _) fun x => ?_
  rw [mem_bh, ← h.set hs]
  constructor
  · intro m
    exact ⟨h.po.rg x (List.mem_of_mem_drop m), (dis x m).2, (dis x m).1⟩
  · rintro ⟨hr, hn, hx⟩
    rcases (split x).mp (ho.mem hr.1 hr.2) with m | m | m
    · exact absurd m hx
    · exact absurd m hn
    · exact m
section
open PySem PySem.Spec PyProof.Rows L2
def Eas (c c' : Co) : Prop := ∀ (i : Nat) (e : List Int × Int), c[i]? = some e → ∃ k, c'[i]? = some (e.1, k) ∧ (k = e.2 ∨ (0 ≤ k ∧ k ≤ e.2))
theorem Eas.refl (c : Co) : Eas c c := fun i e h => ⟨e.2, h, .inl rfl⟩
theorem Eas.step {c0 c : Co} (h : Eas c0 c) {s : Nat} {e : List Int × Int} (he : c[s]? = some e) (hs : (s : Int) ∉ gr c) : Eas c0 (c.set s (e.1, cnt c (gr c) s)) := fun i e0 h0 => by
  obtain ⟨k, h1, h2⟩ := h i e0 h0
  have hl := (List.getElem?_eq_some_iff.mp he).1
  by_cases q : s = i
  · subst q
    rw [he] at h1
    cases h1
    refine ⟨cnt c (gr c) s, List.getElem?_set_self hl, .inr ⟨by unfold cnt; omega, ?_⟩⟩
    have hn : comes c (gr c) s ≠ true := fun z => hs (cl_shut c [] [] s (by omega) (by omega) (by simp) ⟨gr c, fun _ h => h, z⟩)
    unfold comes at hn
    have hd : nd c (s : Int) = k := by
      unfold nd
      rw [Int.toNat_natCast, List.getD_eq_getElem?_getD, he]
      rfl
    rw [hd] at hn
    have hn' : ¬ k ≤ cnt c (gr c) (s : Int) := fun z => hn (decide_eq_true z)
    rcases h2 with h2 | h2 <;> omega
  · exact ⟨k, by rw [List.getElem?_set_ne q]; exact h1, h2⟩
theorem Eas.cow {c c' : Co} (h : Eas c c') (hl : c'.length = c.length) (w : CoW c) : CoW c' := by
  have back : ∀ (i : Nat) (e : List Int × Int), c'[i]? = some e → ∃ e0, c[i]? = some e0 ∧ e.1 = e0.1 ∧ 0 ≤ e.2 ∧ e.2 ≤ 1000 := fun i e hi => by
    have hil := (List.getElem?_eq_some_iff.mp hi).1
    have h0 : c[i]? = some c[i] := List.getElem?_eq_getElem (by omega)
    obtain ⟨k, h1, h2⟩ := h i _ h0
    rw [hi] at h1
    cases h1
    have := w.nn _ (List.mem_of_getElem? h0)
    have := w.nb _ (List.mem_of_getElem? h0)
    exact ⟨_, h0, rfl, by rcases h2 with h2 | h2 <;> (simp only; omega), by rcases h2 with h2 | h2 <;> (simp only; omega)⟩
  have mem : ∀ e ∈ c', ∃ e0 ∈ c, e.1 = e0.1 ∧ 0 ≤ e.2 ∧ e.2 ≤ 1000 := fun e he => by
    obtain ⟨i, hi⟩ := List.mem_iff_getElem?.mp he
    obtain ⟨e0, h1, h2⟩ := back i e hi
    exact ⟨e0, List.mem_of_getElem? h1, h2⟩
  refine ⟨fun e he => ?_, fun e he => ?_, fun e he => ?_, fun e he x hx => ?_, fun i e hi => ?_⟩
  · obtain ⟨e0, h1, h2, _⟩ := mem e he
    rw [h2]
    exact w.up e0 h1
  · obtain ⟨_, _, _, h3, _⟩ := mem e he
    exact h3
  · obtain ⟨_, _, _, _, h4⟩ := mem e he
    exact h4
  · obtain ⟨e0, h1, h2, _⟩ := mem e he
    rw [h2] at hx
    rw [hl]
    exact w.lt e0 h1 x hx
  · obtain ⟨e0, h1, h2, _⟩ := back i e hi
    rw [h2]
    exact w.no i e0 h1
abbrev T_eased : TrD := fun xs μ R => ∃ c, xs = [.d (coD c)] ∧ c.length ≤ 40 ∧ (∀ e ∈ c, e.1.length ≤ 1000) ∧ ∀ c', c'.length = c.length → (∀ e ∈ c', e.1.length ≤ 1000) → nev c' = [] → Eas c c' → R (.d (coD c')) μ
end
end Ec
set_option Elab.async false
set_option linter.all false
set_option maxRecDepth 100000
set_option maxHeartbeats 4000000
namespace Ec
theorem mem_mb {c : Co} {p o : Int} : (p, o) ∈ mb c ↔ (0 ≤ p ∧ p < c.length) ∧ o ∈ bh c p := by
  unfold mb
  simp only [List.mem_flatMap, List.mem_map, Prod.mk.injEq]
  constructor
  · rintro ⟨x, hx, y, hy, rfl, rfl⟩
    exact ⟨mem_rng.mp hx, hy⟩
  · rintro ⟨h, ho⟩
    exact ⟨p, mem_rng.mpr h, o, ho, rfl, rfl⟩
theorem mem_prs {n : Nat} {a b : Int} : (a, b) ∈ prs n ↔ 0 ≤ a ∧ a < b ∧ b < n := by
  unfold prs
  simp only [List.mem_flatMap, List.mem_map, List.mem_filter, Prod.mk.injEq]
  constructor
  · rintro ⟨x, hx, y, ⟨hy, hl⟩, rfl, rfl⟩
    have := mem_rng.mp hx
    have := mem_rng.mp hy
    have := of_decide_eq_true hl
    omega
  · rintro ⟨h1, h2, h3⟩
    exact ⟨a, mem_rng.mpr ⟨h1, by omega⟩, b, ⟨mem_rng.mpr ⟨by omega, h3⟩, decide_eq_true h2⟩, rfl, rfl⟩
theorem flat_nodup {β : Type} (f : Int → List β) : ∀ {l : List Int}, l.Nodup → (∀ x ∈ l, (f x).Nodup) → (∀ x ∈ l, ∀ y ∈ l, x ≠ y → ∀ z, z ∈ f x → z ∉ f y) → (l.flatMap f).Nodup
  | [], _, _, _ => by simp
  | x :: l, nd, h1, h2 => by
    obtain ⟨n1, n2⟩ := List.nodup_cons.mp nd
    rw [List.flatMap_cons]
    refine List.nodup_append.mpr ⟨h1 x List.mem_cons_self, flat_nodup f n2 (fun y m => h1 y (List.mem_cons_of_mem _ m)) (fun y m z k => h2 y (List.mem_cons_of_mem _ m) z (List.mem_cons_of_mem _ k)), fun a ha b hb e => ?_⟩
    subst e
    obtain ⟨y, hy, hz⟩ := List.mem_flatMap.mp hb
    exact h2 x List.mem_cons_self y (List.mem_cons_of_mem _ hy) (fun e => n1 (e ▸ hy)) a ha hz
theorem map_nodup {α β : Type} {f : α → β} (hf : ∀ x y, f x = f y → x = y) {l : List α} (h : l.Nodup) : (l.map f).Nodup := by
  rw [List.nodup_iff_pairwise_ne, List.pairwise_map]
  exact (List.nodup_iff_pairwise_ne.mp h).imp fun hn e => hn (hf _ _ e)
theorem prs_nodup (n : Nat) : (prs n).Nodup := flat_nodup _ (rng_nodup _) (fun x _ => map_nodup (fun a b e => (Prod.mk.inj e).2) ((rng_nodup _).filter _)) fun x _ y _ hn z hz => by
  obtain ⟨a, _, rfl⟩ := List.mem_map.mp hz
  intro h
  obtain ⟨b, _, e⟩ := List.mem_map.mp h
  exact hn (Prod.mk.inj e).1.symm
theorem prs_len : ∀ n : Nat, 2 * (prs n).length = n * (n - 1) := by
  have step : ∀ n : Nat, (prs (n + 1)).length = (prs n).length + n := fun n => by
    have p : (prs (n + 1)).Perm (prs n ++ (rng n).map fun a => (a, (n : Int))) := by
      refine (List.perm_ext_iff_of_nodup (prs_nodup _) (List.nodup_append.mpr ⟨prs_nodup n, map_nodup (fun a b e => (Prod.mk.inj e).1) (rng_nodup n), fun x hx y hy e => ?_⟩)).mpr fun x => ?_
      · subst e
        obtain ⟨x1, x2⟩ := x
        obtain ⟨a, _, e⟩ := List.mem_map.mp hy
        have := (Prod.mk.inj e).2
        have := mem_prs.mp hx
        omega
      · obtain ⟨x1, x2⟩ := x
        rw [List.mem_append, mem_prs, mem_prs, List.mem_map]
        constructor
        · rintro ⟨h1, h2, h3⟩
          by_cases hx : x2 = n
          · exact .inr ⟨x1, mem_rng.mpr ⟨h1, by omega⟩, by rw [hx]⟩
          · exact .inl ⟨h1, h2, by omega⟩
        · rintro (⟨h1, h2, h3⟩ | ⟨a, ha, e⟩)
          · exact ⟨h1, h2, by omega⟩
          · obtain ⟨e1, e2⟩ := Prod.mk.inj e
            have := mem_rng.mp ha
            omega
    rw [p.length_eq, List.length_append, List.length_map, rng_len]
  intro n
  induction n with
  | zero => rfl
  | succ n ih =>
    rw [step, Nat.mul_add, ih, Nat.add_sub_cancel]
    cases n with
    | zero => rfl
    | succ k =>
      rw [Nat.add_sub_cancel]
      have : (k + 1 + 1) * (k + 1) = (k + 1) * k + 2 * (k + 1) := by
        rw [Nat.add_mul, Nat.mul_comm (k + 1) k, Nat.add_mul]
        omega
      omega
section
open PySem PySem.Spec PyProof.Rows L2
end
end Ec
set_option Elab.async false
set_option linter.all false
namespace Ec
open PySem PySem.Spec PyProof.Rows L2
theorem mem_fp {c : Co} {a b : Int} : (a, b) ∈ fp c ↔ 0 ≤ a ∧ a < b ∧ b < c.length ∧ (a, b) ∉ mb c ∧ (b, a) ∉ mb c := by
  unfold fp
  rw [List.mem_filter, mem_prs]
  simp [and_assoc]
end Ec
set_option Elab.async false
set_option linter.all false
set_option maxRecDepth 100000
set_option maxHeartbeats 4000000
namespace Ec
open PySem PySem.Spec PyProof.Rows L2
section
variable {X : Cx} {δ : Dl} {μ : Cells} {e a b tg : Expr} {pos p : Pos} {Q : Vd → Cells → Prop} {D : Dn} {QI : List PyData → Cells → Prop} {mg : Str → Option Value}
theorem wi_rng (hg : Gl X "range") (hm : X.mg "range" = none) (h : WE X a δ μ fun x μ1 => ∃ n : Nat, x = .d (.int (n : Int)) ∧ n ≤ 100000 ∧ QI (intsD (rng n)) μ1) (hs : starEach [a] X.env = [(false, eval a X.env)] := by rfl) :
    WI X tg (.Call (.Name "range" p) [a] [] pos) δ μ QI :=
  wi_range1 hg hm (wa_one (h.mono fun x μ1 q => by
    obtain ⟨n, rfl, hn, q⟩ := q
    refine ⟨_, rfl, by omega, by omega, ?_⟩
    rw [Int.toNat_natCast, rangeD_eq]
    exact q) (by rw [hs]; rfl)) hs
theorem eqv_dint (i j : Int) : PyData.eqv (.int i) (.int j) = decide (i = j) := by simp only [PyData.eqv]; rfl
theorem enum_eq (r : List Int) : enumD (intsD r) = (List.range r.length).map fun i : Nat => .tuple [.int (i : Int), .int (r.getD i 0)] := by
  refine List.ext_getElem? fun j => ?_
  unfold enumD
  rw [List.getElem?_mapIdx, List.getElem?_map, List.getElem?_map]
  by_cases hj : j < r.length
  · rw [List.getElem?_range hj]
    simp [List.getD_eq_getElem?_getD, List.getElem?_eq_getElem hj]
  · rw [List.getElem?_eq_none (by omega), List.getElem?_eq_none (by rw [List.length_range]; omega)]
    rfl
end
end Ec
set_option Elab.async false
set_option linter.all false
set_option maxRecDepth 100000
set_option maxHeartbeats 4000000
namespace Ec
open PySem PySem.Spec PyProof.Rows L2
theorem atI_ints {r : List Int} {i : Nat} (h : i < r.length) : atI (intsD r) (i : Int) = some (.int (r.getD i 0)) := by
  refine atI_nat (j := i) ?_
  rw [List.getElem?_map, List.getElem?_eq_getElem h, List.getD_eq_getElem?_getD, List.getElem?_eq_getElem h]
  rfl
theorem ints_app (a b : List Int) : intsD (a ++ b) = intsD a ++ intsD b := List.map_append
def swp (r : List Int) (i : Nat) : List Int := r.take i ++ [r.getD (i + 1) 0, r.getD i 0] ++ r.drop (i + 2)
theorem swp_perm {r : List Int} {i : Nat} (h : i + 1 < r.length) : (swp r i).Perm r := by
  have e1 : r.drop i = r.getD i 0 :: r.drop (i + 1) := by
    rw [List.drop_eq_getElem_cons (by omega), List.getD_eq_getElem?_getD, List.getElem?_eq_getElem (by omega)]
    rfl
  have e2 : r.drop (i + 1) = r.getD (i + 1) 0 :: r.drop (i + 2) := by
    rw [List.drop_eq_getElem_cons h, List.getD_eq_getElem?_getD, List.getElem?_eq_getElem h]
    rfl
  have e3 : r.take i ++ (r.getD i 0 :: r.getD (i + 1) 0 :: r.drop (i + 2)) = r := by
    rw [← e2, ← e1, List.take_append_drop]
  refine List.Perm.trans ?_ (List.Perm.of_eq e3)
  unfold swp
  rw [List.append_assoc]
  exact List.Perm.append_left _ (List.Perm.swap _ _ _)
theorem swp_len {r : List Int} {i : Nat} (h : i + 1 < r.length) : (swp r i).length = r.length := (swp_perm h).length_eq
theorem misV_none (c : Co) (r : List Int) : isNone (misV c r) = (misL c r).isEmpty := by
  unfold misV
  cases misL c r <;> rfl
abbrev natsD (l : List Nat) : List PyData := l.map fun i : Nat => .int (i : Int)
theorem rangeD_nats (n : Nat) : rangeD 0 n = natsD (List.range n) := by
  unfold rangeD natsD
  refine List.map_congr_left fun i _ => ?_
  rw [Int.zero_add]
def frp (c : Co) (r : List Int) : List Nat := (List.range (r.length - 1)).filter fun i => (misL c (swp r i)).isEmpty
abbrev T_swap : TrD := fun xs μ R => ∃ dr r, ∃ i : Nat, xs = [.d dr, .d (.int (i : Int))] ∧ SqD dr (intsD r) ∧ i + 1 < r.length ∧ r.length ≤ 1000 ∧ R (.d (.tuple (intsD (swp r i)))) μ
abbrev T_looko : TrD := fun xs μ R => ∃ dc c dr r, xs = [.d dc, .d dr] ∧ CoD dc c ∧ SqD dr (intsD r) ∧ r.length ≤ 1000 ∧ (∀ x ∈ r, 0 ≤ x ∧ x < c.length) ∧ misL c r = [] ∧ R (.d .none) μ
abbrev T_lookos : TrD := fun xs μ R => ∃ dc c d1 r1 d2 r2, xs = [.d dc, .d d1, .d d2] ∧ CoD dc c ∧ c.length < 64 ∧ nev c = [] ∧ SqD d1 (intsD r1) ∧ IsOrd c r1 ∧ SqD d2 (intsD r2) ∧ IsOrd c r2 ∧ R (.d .none) μ
abbrev T_frp : TrD := fun xs μ R => ∃ dc c dr r, xs = [.d dc, .d dr] ∧ CoD dc c ∧ SqD dr (intsD r) ∧ r.length ≤ 1000 ∧ (∀ x ∈ r, 0 ≤ x ∧ x < c.length) ∧ ∀ q, R (.a q) ((q, natsD (frp c r)) :: μ)
abbrev T_exs : TrD := fun xs μ R => ∃ dc c dr r, xs = [.d dc, .d dr] ∧ CoD dc c ∧ c.length < 64 ∧ nev c = [] ∧ SqD dr (intsD r) ∧ IsOrd c r ∧ ∀ q, R (.a q) ((q, natsD (frp c r)) :: μ)
theorem IsOrd.rows {c : Co} {r : List Int} (h : IsOrd c r) : ∀ x ∈ r, 0 ≤ x ∧ x < c.length := h.po.rg
theorem IsOrd.lens {c : Co} {r : List Int} (h : IsOrd c r) : r.length = c.length := by
  have := h.perm.length_eq
  rw [rng_len] at this
  exact this
section
variable {X : Cx} {δ : Dl} {μ : Cells} {a b c tg : Expr} {pos p : Pos} {QI : List PyData → Cells → Prop}
end
theorem rng_item {n i : Nat} {d : PyData} (h : (intsD (rng n))[i]? = some d) : i < n ∧ d = .int (i : Int) := by
  have hl := (List.getElem?_eq_some_iff.mp h).1
  rw [List.length_map, rng_len] at hl
  unfold intsD rng at h
  rw [List.getElem?_map, List.getElem?_map, List.getElem?_range hl] at h
  cases h
  exact ⟨hl, rfl⟩
theorem map_item {α : Type} {f : α → PyData} {l : List α} {i : Nat} {d : PyData} (h : (l.map f)[i]? = some d) : ∃ x, l[i]? = some x ∧ d = f x := by
  rw [List.getElem?_map] at h
  cases q : l[i]? with
  | none =>
    rw [q] at h
    cases h
  | some x =>
    rw [q] at h
    cases h
    exact ⟨x, rfl, rfl⟩
theorem rng_items (n : Nat) : (intsD (rng n)).length = n := by rw [List.length_map, rng_len]
theorem eqv_dbool (i j : Bool) : PyData.eqv (.bool i) (.bool j) = decide (i = j) := by cases i <;> cases j <;> simp [PyData.eqv]
def crs (n : Nat) (r1 r2 : List Int) : List (Int × Int) := (prs n).filter fun x => !decide (decide (((posn x.1 r1 : Nat) : Int) < ((posn x.2 r1 : Nat) : Int)) = decide (((posn x.1 r2 : Nat) : Int) < ((posn x.2 r2 : Nat) : Int)))
theorem crs_le (n : Nat) (r1 r2 : List Int) : (crs n r1 r2).length ≤ n * n := by
  unfold crs
  refine Nat.le_trans (List.length_filter_le _ _) ?_
  have := prs_len n
  have h2 : n * (n - 1) ≤ n * n := Nat.mul_le_mul_left _ (by omega)
  omega
abbrev T_cross : TrD := fun xs μ R => ∃ dc c d1 r1 d2 r2, xs = [.d dc, .d d1, .d d2] ∧ CoD dc c ∧ c.length ≤ 60 ∧ nev c = [] ∧ SqD d1 (intsD r1) ∧ IsOrd c r1 ∧ SqD d2 (intsD r2) ∧ IsOrd c r2 ∧ ∀ q, R (.a q) ((q, (crs c.length r1 r2).map duoD) :: μ)
abbrev T_dist : TrD := fun xs μ R => ∃ dc c d1 r1 d2 r2, xs = [.d dc, .d d1, .d d2] ∧ CoD dc c ∧ c.length ≤ 60 ∧ nev c = [] ∧ SqD d1 (intsD r1) ∧ IsOrd c r1 ∧ SqD d2 (intsD r2) ∧ IsOrd c r2 ∧ R (.d (.int ((crs c.length r1 r2).length : Nat))) μ
end Ec
set_option Elab.async false
set_option linter.all false
namespace Ec
open PySem PySem.Spec PyProof.Rows L2
theorem posn_eq {v : Int} {r : List Int} {k : Nat} (h : r.Nodup) (e : r[k]? = some v) : posn v r = k := by
  have hm : v ∈ r := List.mem_of_getElem? e
  have h1 := (posn_at hm).1
  exact (List.getElem?_inj (posn_lt hm) h).mp (h1.trans e.symm)
structure Row (n : Nat) (r : List Int) : Prop where
  nd : r.Nodup
  rg : ∀ x, x ∈ r ↔ 0 ≤ x ∧ x < n
theorem IsOrd.row {c : Co} {r : List Int} (h : IsOrd c r) : Row c.length r := ⟨h.po.nd, fun x => ⟨h.po.rg x, fun g => h.mem g.1 g.2⟩⟩
theorem Row.len {n : Nat} {r : List Int} (h : Row n r) : r.length = n := by
  have := (perm_of_mem h.nd (rng_nodup n) fun x => (h.rg x).trans mem_rng.symm).length_eq
  rw [rng_len] at this
  exact this
theorem Row.swp {n : Nat} {r : List Int} (h : Row n r) {i : Nat} (hi : i + 1 < r.length) : Row n (swp r i) :=
  ⟨(swp_perm hi).nodup_iff.mpr h.nd, fun x => (swp_perm hi).mem_iff.trans (h.rg x)⟩
theorem Row.at {n : Nat} {r : List Int} (h : Row n r) {i : Nat} (hi : i < r.length) : r[i]? = some (r.getD i 0) := by
  rw [List.getD_eq_getElem?_getD, List.getElem?_eq_getElem hi]
  rfl
theorem Row.posn {n : Nat} {r : List Int} (h : Row n r) {i : Nat} (hi : i < r.length) : posn (r.getD i 0) r = i := posn_eq h.nd (h.at hi)
theorem Row.ne {n : Nat} {r : List Int} (h : Row n r) {i j : Nat} (hi : i < r.length) (hj : j < r.length) (hn : i ≠ j) : r.getD i 0 ≠ r.getD j 0 := fun e => hn (by rw [← h.posn hi, ← h.posn hj, e])
def xd (r s : List Int) (x : Int × Int) : Bool := !decide (decide (((posn x.1 r : Nat) : Int) < ((posn x.2 r : Nat) : Int)) = decide (((posn x.1 s : Nat) : Int) < ((posn x.2 s : Nat) : Int)))
theorem crs_eq (n : Nat) (r s : List Int) : crs n r s = (prs n).filter (xd r s) := rfl
theorem xd_iff {r s : List Int} {x : Int × Int} : xd r s x = true ↔ ¬ (posn x.1 r < posn x.2 r ↔ posn x.1 s < posn x.2 s) := by
  unfold xd
  rw [Bool.not_eq_true', decide_eq_false_iff_not, decide_eq_decide]
  simp only [Int.ofNat_lt]
theorem mem_crs {n : Nat} {r s : List Int} {a b : Int} : (a, b) ∈ crs n r s ↔ (0 ≤ a ∧ a < b ∧ b < n) ∧ ¬ (posn a r < posn b r ↔ posn a s < posn b s) := by
  rw [crs_eq, List.mem_filter, mem_prs, xd_iff]
theorem frp_ok {c : Co} {r : List Int} (h : IsOrd c r) {i : Nat} : i ∈ frp c r ↔ i + 1 < r.length ∧ IsOrd c (swp r i) := by
  unfold frp
  rw [List.mem_filter, List.mem_range]
  constructor
  · rintro ⟨h1, h2⟩
    have hi : i + 1 < r.length := by omega
    refine ⟨hi, ⟨(h.row.swp hi).nd, fun x hx => ((h.row.swp hi).rg x).mp hx, fun j x hj => ?_⟩, by rw [swp_len hi]; exact h.lens⟩
    have e : misL c (swp r i) = [] := List.isEmpty_iff.mp h2
    unfold misL at e
    have hl := (List.getElem?_eq_some_iff.mp hj).1
    have := List.filter_eq_nil_iff.mp e j (List.mem_range.mpr hl)
    rw [List.getD_eq_getElem?_getD, hj] at this
    simpa using this
  · rintro ⟨h1, h2⟩
    exact ⟨by omega, by rw [misL_nil h2.po]; rfl⟩
inductive Pth (c : Co) : List Int → List Nat → List Int → Prop
  | nil (r : List Int) : Pth c r [] r
  | snoc {r s : List Int} {ps : List Nat} {i : Nat} (h : Pth c r ps s) (hi : i ∈ frp c s) : Pth c r (ps ++ [i]) (swp s i)
theorem Pth.ord {c : Co} {r s : List Int} {ps : List Nat} (h : Pth c r ps s) (ho : IsOrd c r) : IsOrd c s := by
  induction h with
  | nil => exact ho
  | snoc _ hi ih => exact ((frp_ok ih).mp hi).2
theorem natsD_ints (l : List Nat) : natsD l = intsD (l.map fun i : Nat => (i : Int)) := by simp [natsD, intsD]
end Ec
set_option Elab.async false
set_option linter.all false
set_option maxRecDepth 100000
set_option maxHeartbeats 4000000
namespace Ec
open PySem PySem.Spec PyProof.Rows L2
section
variable {K : PySem.W.Frag} {μ : Cells} {Q : Vd → Cells → Prop}
end
section
variable {prog : Program} {w : World} {A : Around} {E : Value → Shared → Prop} {s : Shared}
end
section
variable {X : Cx} {δ : Dl} {μ : Cells} {e a b c : Expr} {pos p : Pos} {Q : Vd → Cells → Prop} {mg : Str → Option Value}
end
section
variable {X : Cx} {δ : Dl} {μ : Cells} {a b c : Expr} {pos : Pos} {D : Dn}
end
end Ec
set_option Elab.async false
set_option linter.all false
namespace Ec
open PySem PySem.Spec PyProof.Rows L2
theorem ints_le : ∀ {a b : List Int}, a.length = b.length → (∀ (k : Nat) (x y : Int), a.take k = b.take k → a[k]? = some x → b[k]? = some y → x ≤ y) → a ≤ b
  | [], [], _, _ => List.le_refl _
  | x :: xs, y :: ys, hl, h => by
    have h0 : x ≤ y := h 0 x y rfl rfl rfl
    rw [List.cons_le_cons_iff]
    by_cases e : x = y
    · refine .inr ⟨e, ints_le (by simpa using hl) fun k u v h1 h2 h3 => h (k + 1) u v ?_ (by simpa using h2) (by simpa using h3)⟩
      rw [List.take_succ_cons, List.take_succ_cons, h1, e]
    · exact .inl (by omega)
  | [], y :: ys, hl, _ => by simp at hl
  | x :: xs, [], hl, _ => by simp at hl
theorem rng_ltp (n : Nat) : (rng n).Pairwise (· < ·) := by
  unfold rng
  rw [List.pairwise_map]
  exact List.pairwise_lt_range.imp fun h => by omega
theorem nexts_up (c : Co) (t : List Int) : (nexts c t).Pairwise (· < ·) := ((rng_ltp _).filter _).filter _
def foS (c : Co) : Nat → List Int
  | 0 => []
  | i + 1 => foS c i ++ [(nexts c (foS c i)).getD 0 0]
def laS (c : Co) : Nat → List Int
  | 0 => []
  | i + 1 => laS c i ++ [(nexts c (laS c i)).getLastD 0]
def fo (c : Co) : List Int := foS c c.length
def la (c : Co) : List Int := laS c c.length
theorem nexts_ne {c : Co} {r : List Int} (h : POrd c r) (hw : nev c = []) (hl : r.length < c.length) : nexts c r ≠ [] := fun z => by
  obtain ⟨x, h0, h1, h2, h3⟩ := h.more hw hl
  have : x ∈ nexts c r := mem_nexts.mpr ⟨⟨h0, h1⟩, h2, h3⟩
  rw [z] at this
  cases this
theorem getD0_mem {l : List Int} (h : l ≠ []) : l.getD 0 0 ∈ l := by
  cases l with
  | nil => exact absurd rfl h
  | cons x r => exact List.mem_cons_self
theorem last_mem {l : List Int} (h : l ≠ []) : l.getLastD 0 ∈ l := by
  rw [List.getLastD_eq_getLast?, List.getLast?_eq_some_getLast h]
  exact List.getLast_mem h
theorem foS_ok {c : Co} (hw : nev c = []) : ∀ i, i ≤ c.length → POrd c (foS c i) ∧ (foS c i).length = i
  | 0, _ => ⟨POrd.nil c, rfl⟩
  | i + 1, h => by
    obtain ⟨h1, h2⟩ := foS_ok hw i (by omega)
    obtain ⟨⟨g0, g1⟩, g2, g3⟩ := mem_nexts.mp (getD0_mem (nexts_ne h1 hw (by omega)))
    exact ⟨h1.add g0 g1 g2 g3, by show (foS c i ++ [_]).length = _; rw [List.length_append, h2]; rfl⟩
theorem laS_ok {c : Co} (hw : nev c = []) : ∀ i, i ≤ c.length → POrd c (laS c i) ∧ (laS c i).length = i
  | 0, _ => ⟨POrd.nil c, rfl⟩
  | i + 1, h => by
    obtain ⟨h1, h2⟩ := laS_ok hw i (by omega)
    obtain ⟨⟨g0, g1⟩, g2, g3⟩ := mem_nexts.mp (last_mem (nexts_ne h1 hw (by omega)))
    exact ⟨h1.add g0 g1 g2 g3, by show (laS c i ++ [_]).length = _; rw [List.length_append, h2]; rfl⟩
theorem foS_take {c : Co} (hw : nev c = []) {i : Nat} : ∀ {k}, i ≤ k → k ≤ c.length → (foS c k).take i = foS c i
  | 0, h, _ => by
    have : i = 0 := by omega
    subst this
    rfl
  | k + 1, h, hk => by
    have hl := (foS_ok hw k (by omega)).2
    by_cases e : i = k + 1
    · subst e
      exact List.take_of_length_le (by rw [(foS_ok hw (k + 1) hk).2]; exact Nat.le_refl _)
    · show (foS c k ++ [_]).take i = _
      rw [List.take_append_of_le_length (by omega), foS_take hw (by omega) (by omega)]
theorem laS_take {c : Co} (hw : nev c = []) {i : Nat} : ∀ {k}, i ≤ k → k ≤ c.length → (laS c k).take i = laS c i
  | 0, h, _ => by
    have : i = 0 := by omega
    subst this
    rfl
  | k + 1, h, hk => by
    have hl := (laS_ok hw k (by omega)).2
    by_cases e : i = k + 1
    · subst e
      exact List.take_of_length_le (by rw [(laS_ok hw (k + 1) hk).2]; exact Nat.le_refl _)
    · show (laS c k ++ [_]).take i = _
      rw [List.take_append_of_le_length (by omega), laS_take hw (by omega) (by omega)]
theorem fo_ord {c : Co} (hw : nev c = []) : IsOrd c (fo c) := ⟨(foS_ok hw _ (Nat.le_refl _)).1, (foS_ok hw _ (Nat.le_refl _)).2⟩
theorem la_ord {c : Co} (hw : nev c = []) : IsOrd c (la c) := ⟨(laS_ok hw _ (Nat.le_refl _)).1, (laS_ok hw _ (Nat.le_refl _)).2⟩
theorem foS_at {c : Co} (hw : nev c = []) {k : Nat} (hk : k < c.length) : (fo c)[k]? = some ((nexts c (foS c k)).getD 0 0) := by
  have e := foS_take hw (i := k + 1) (k := c.length) hk (Nat.le_refl _)
  have h2 := (foS_ok hw k (by omega)).2
  have : ((fo c).take (k + 1))[k]? = some ((nexts c (foS c k)).getD 0 0) := by
    unfold fo
    rw [e]
    show (foS c k ++ [_])[k]? = _
    rw [List.getElem?_append_right (by omega), h2, Nat.sub_self]
    rfl
  rwa [List.getElem?_take_of_lt (by omega)] at this
theorem laS_at {c : Co} (hw : nev c = []) {k : Nat} (hk : k < c.length) : (la c)[k]? = some ((nexts c (laS c k)).getLastD 0) := by
  have e := laS_take hw (i := k + 1) (k := c.length) hk (Nat.le_refl _)
  have h2 := (laS_ok hw k (by omega)).2
  have : ((la c).take (k + 1))[k]? = some ((nexts c (laS c k)).getLastD 0) := by
    unfold la
    rw [e]
    show (laS c k ++ [_])[k]? = _
    rw [List.getElem?_append_right (by omega), h2, Nat.sub_self]
    rfl
  rwa [List.getElem?_take_of_lt (by omega)] at this
theorem ord_next {c : Co} {r : List Int} (h : IsOrd c r) {k : Nat} {y : Int} (e : r[k]? = some y) : y ∈ nexts c (r.take k) := by
  refine mem_nexts.mpr ⟨h.po.rg y (List.mem_of_getElem? e), fun m => ?_, h.po.ok k y e⟩
  obtain ⟨j, hj, e2⟩ := List.mem_take_iff_getElem.mp m
  have hk := (List.getElem?_eq_some_iff.mp e).1
  have e3 : r[j]? = some y := by rw [List.getElem?_eq_getElem (by omega), e2]
  have := (List.getElem?_inj (by omega) h.po.nd).mp (e3.trans e.symm)
  omega
theorem min_head : ∀ {l : List Int}, l.Pairwise (· < ·) → ∀ x ∈ l, l.getD 0 0 ≤ x
  | [], _, _, h => by cases h
  | a :: l, hp, x, h => by
    show a ≤ x
    rcases List.mem_cons.mp h with rfl | h
    · exact Int.le_refl _
    · exact Int.le_of_lt ((List.pairwise_cons.mp hp).1 x h)
theorem max_last {l : List Int} (hp : l.Pairwise (· < ·)) : ∀ x ∈ l, x ≤ l.getLastD 0 := fun x h => by
  have ne : l ≠ [] := fun z => by rw [z] at h; cases h
  rw [List.getLastD_eq_getLast?, List.getLast?_eq_some_getLast ne]
  show x ≤ l.getLast ne
  have e := List.dropLast_concat_getLast ne
  rw [← e] at hp h
  rcases List.mem_append.mp h with m | m
  · exact Int.le_of_lt ((List.pairwise_append.mp hp).2.2 x m _ (List.mem_singleton.mpr rfl))
  · rw [List.mem_singleton.mp m]
    exact Int.le_refl _
theorem fo_le {c : Co} (hw : nev c = []) {r : List Int} (h : IsOrd c r) : fo c ≤ r := by
  have hf := fo_ord hw
  refine ints_le (by rw [hf.lens, h.lens]) fun k x y h1 h2 h3 => ?_
  have hk : k < c.length := by
    have := (List.getElem?_eq_some_iff.mp h3).1
    rw [h.lens] at this
    exact this
  have hn := ord_next h h3
  rw [← h1] at hn
  have e : (fo c).take k = foS c k := foS_take hw (by omega) (Nat.le_refl _)
  rw [e] at hn
  rw [foS_at hw hk] at h2
  cases h2
  exact min_head (nexts_up _ _) y hn
theorem le_la {c : Co} (hw : nev c = []) {r : List Int} (h : IsOrd c r) : r ≤ la c := by
  have hf := la_ord hw
  refine ints_le (by rw [hf.lens, h.lens]) fun k y x h1 h3 h2 => ?_
  have hk : k < c.length := by
    have := (List.getElem?_eq_some_iff.mp h3).1
    rw [h.lens] at this
    exact this
  have hn := ord_next h h3
  rw [h1] at hn
  have e : (la c).take k = laS c k := laS_take hw (by omega) (Nat.le_refl _)
  rw [e] at hn
  rw [laS_at hw hk] at h2
  cases h2
  exact max_last (nexts_up _ _) y hn
theorem atI_lastI {l : List Int} (h : l ≠ []) : atI (intsD l) (-1) = some (.int (l.getLastD 0)) := by
  have e := List.dropLast_concat_getLast h
  have e2 : l.getLastD 0 = l.getLast h := by rw [List.getLastD_eq_getLast?, List.getLast?_eq_some_getLast h]; rfl
  rw [e2]
  conv => lhs; rw [← e]
  rw [ints_app]
  exact atI_last _ _
abbrev T_fo : TrD := fun xs μ R => ∃ dc c, xs = [.d dc] ∧ CoD dc c ∧ c.length < 64 ∧ nev c = [] ∧ R (.d (.tuple (intsD (fo c)))) μ
abbrev T_la : TrD := fun xs μ R => ∃ dc c, xs = [.d dc] ∧ CoD dc c ∧ c.length < 64 ∧ nev c = [] ∧ R (.d (.tuple (intsD (la c)))) μ
end Ec
set_option Elab.async false
set_option linter.all false
namespace Ec
open PySem PySem.Spec PyProof.Rows L2
theorem cutZ_takeA {ds : List PyData} {k : Nat} : cutZ ds none (some (k : Int)) = ds.take k := by
  unfold cutZ
  rw [HT.sIx_none]
  have : HT.sIx ds.length ds.length (some (k : Int)) = min k ds.length := HT.sIx_nat _ _ k
  rw [this]
  simp only [List.drop_zero, Nat.sub_zero]
  by_cases h : k ≤ ds.length
  · rw [Nat.min_eq_left h]
  · rw [Nat.min_eq_right (by omega), List.take_of_length_le (Nat.le_refl _), List.take_of_length_le (by omega)]
end Ec
set_option Elab.async false
set_option linter.all false
namespace Ec
open PySem PySem.Spec PyProof.Rows L2
def sh (n : Nat) (l : List Int) : List Int := l.map fun x => x + (n : Int)
theorem mem_sh {n : Nat} {l : List Int} {x : Int} : x ∈ sh n l ↔ x - n ∈ l := by
  unfold sh
  rw [List.mem_map]
  exact ⟨fun ⟨y, h, e⟩ => by rw [show x - n = y by omega]; exact h, fun h => ⟨x - n, h, by omega⟩⟩
structure Mix (c d : Co) (t t1 t2 : List Int) : Prop where
  l : ∀ x : Int, 0 ≤ x → x < c.length → (x ∈ t ↔ x ∈ t1)
  r : ∀ x : Int, 0 ≤ x → x < d.length → (x + (c.length : Int) ∈ t ↔ x ∈ t2)
theorem Mix.nil (c d : Co) : Mix c d [] [] [] := ⟨fun x _ _ => by simp, fun x _ _ => by simp⟩
theorem Mix.more {c d : Co} {t t1 t2 u1 u2 : List Int} (m : Mix c d t t1 t2) (h1 : ∀ x ∈ u1, 0 ≤ x ∧ x < c.length) (h2 : ∀ x ∈ u2, 0 ≤ x ∧ x < d.length) : Mix c d (t ++ (u1 ++ sh c.length u2)) (t1 ++ u1) (t2 ++ u2) where
  l := fun x g0 g1 => by
    rw [List.mem_append, List.mem_append, List.mem_append, m.l x g0 g1, mem_sh]
    refine ⟨fun h => ?_, fun h => ?_⟩
    · rcases h with h | h | h
      · exact .inl h
      · exact .inr h
      · have := h2 _ h
        omega
    · rcases h with h | h
      · exact .inl h
      · exact .inr (.inl h)
  r := fun x g0 g1 => by
    rw [List.mem_append, List.mem_append, List.mem_append, m.r x g0 g1, mem_sh, Int.add_sub_cancel]
    refine ⟨fun h => ?_, fun h => ?_⟩
    · rcases h with h | h | h
      · exact .inl h
      · have := h1 _ h
        omega
      · exact .inr h
    · rcases h with h | h
      · exact .inl h
      · exact .inr (.inr h)
theorem stp_nil (c : Co) (t : List Int) : stp c t [] = nexts c t := by
  unfold stp
  exact List.filter_eq_self.mpr fun x _ => by simp
end Ec
set_option Elab.async false
set_option linter.all false
namespace Ec
open PySem PySem.Spec PyProof.Rows L2
theorem misL_iff {c : Co} {r : List Int} : misL c r = [] ↔ ∀ pre x post, r = pre ++ x :: post → comes c pre x = true := by
  unfold misL
  rw [List.filter_eq_nil_iff]
  constructor
  · intro h pre x post e
    have := h pre.length (List.mem_range.mpr (by rw [e]; simp))
    rw [e] at this
    simpa using this
  · intro h i hi
    have hl := List.mem_range.mp hi
    have e : r = r.take i ++ r.getD i 0 :: r.drop (i + 1) := by
      have : r.drop i = r.getD i 0 :: r.drop (i + 1) := by
        rw [List.drop_eq_getElem_cons hl, List.getD_eq_getElem?_getD, List.getElem?_eq_getElem hl]
        rfl
      rw [← this, List.take_append_drop]
    have := h _ _ _ e
    simpa [List.getD_eq_getElem?_getD] using this
structure Il (n : Nat) (q a b : List Int) : Prop where
  l : q.filter (fun x => decide (x < (n : Int))) = a
  r : q.filter (fun x => !decide (x < (n : Int))) = sh n b
def un (n : Nat) (l : List Int) : List Int := l.map fun x => x - (n : Int)
theorem mem_un {n : Nat} {l : List Int} {x : Int} : x ∈ un n l ↔ x + n ∈ l := by
  unfold un
  rw [List.mem_map]
  exact ⟨fun ⟨y, h, e⟩ => by rw [show x + (n : Int) = y by omega]; exact h, fun h => ⟨_, h, by omega⟩⟩
theorem Mix.of (c d : Co) (u : List Int) : Mix c d u (u.filter fun x => decide (x < (c.length : Int))) (un c.length (u.filter fun x => !decide (x < (c.length : Int)))) where
  l := fun x g0 g1 => by
    rw [List.mem_filter]
    simp [g1]
  r := fun x g0 g1 => by
    rw [mem_un, List.mem_filter]
    have : ¬ x + (c.length : Int) < c.length := by omega
    simp [this]
theorem Row.srt {n : Nat} {r : List Int} (h : Row n r) : srt r = rng n :=
  srt_one ((srt_perm r).trans (perm_of_mem h.nd (rng_nodup n) fun x => (h.rg x).trans mem_rng.symm)) (srt_up r) (rng_up n)
theorem Row.il {n m : Nat} {q a b : List Int} (h : Il n q a b) (ha : Row n a) (hb : Row m b) : Row (n + m) q := by
  have hp : q.Perm (a ++ sh n b) := by
    rw [← h.l, ← h.r]
    exact (List.filter_append_perm _ q).symm
  refine ⟨hp.nodup_iff.mpr (List.nodup_append.mpr ⟨ha.nd, map_nodup (fun x y e => by omega) hb.nd, fun x hx y hy e => ?_⟩), fun x => ?_⟩
  · subst e
    have := ((ha.rg x).mp hx).2
    have := ((hb.rg _).mp (mem_sh.mp hy)).1
    omega
  · rw [hp.mem_iff, List.mem_append, mem_sh, ha.rg, hb.rg]
    omega
end Ec
set_option Elab.async false
set_option linter.all false
set_option maxRecDepth 100000
set_option maxHeartbeats 4000000
namespace Ec
open PySem PySem.Spec PyProof.Rows L2
abbrev T_plain : TrD := fun xs μ R => ∃ (dc : PyData) (c : Co), xs = [.d dc] ∧ CoD dc c ∧ R (.d (coD c)) μ
abbrev T_rnds : TrD := fun xs μ R => ∃ dc c, xs = [.d dc] ∧ CoD dc c ∧ ∀ q, R (.a q) ((q, tups (AR c [] [])) :: μ)
inductive Mx : List Int → List Int → List Int → Prop
  | nil : Mx [] [] []
  | l {q a b : List Int} (x : Int) (h : Mx q a b) : Mx (x :: q) (x :: a) b
  | r {q a b : List Int} (x : Int) (h : Mx q a b) : Mx (x :: q) a (x :: b)
theorem Mx.len {q a b : List Int} (h : Mx q a b) : q.length = a.length + b.length := by
  induction h with
  | nil => rfl
  | l x _ ih => simp only [List.length_cons, ih]; omega
  | r x _ ih => simp only [List.length_cons, ih]; omega
theorem Mx.il {n : Nat} {q a b : List Int} (h : Mx q a b) (ha : ∀ x ∈ a, x < (n : Int)) (hb : ∀ x ∈ b, (n : Int) ≤ x) : q.filter (fun x => decide (x < (n : Int))) = a ∧ q.filter (fun x => !decide (x < (n : Int))) = b := by
  induction h with
  | nil => exact ⟨rfl, rfl⟩
  | @l q a b x h ih =>
    obtain ⟨h1, h2⟩ := ih (fun y hy => ha y (List.mem_cons_of_mem _ hy)) hb
    have := ha x List.mem_cons_self
    rw [List.filter_cons, List.filter_cons, if_pos (decide_eq_true this), h1, if_neg (by simp [this]), h2]
    exact ⟨rfl, rfl⟩
  | @r q a b x h ih =>
    obtain ⟨h1, h2⟩ := ih ha (fun y hy => hb y (List.mem_cons_of_mem _ hy))
    have : ¬ x < (n : Int) := by have := hb x List.mem_cons_self; omega
    rw [List.filter_cons, List.filter_cons, if_neg (by simp [this]), h1, if_pos (by simp [this]), h2]
    exact ⟨rfl, rfl⟩
def inn (n : Nat) (i : Int) : List (Int × Int) := ((rng n).filter fun h => decide (i < h)).map fun h => (i, h)
end Ec
set_option Elab.async false
set_option linter.all false
namespace Ec
open PySem PySem.Spec PyProof.Rows L2
theorem tups_shaped (rs : List (List Int)) : SeqAt.shaped (.list (tups rs)) = true := by
  have h : ∀ d ∈ tups rs, d.canLay0 = true ∧ d.depth ≤ 1 := fun d hd => by
    obtain ⟨r, _, rfl⟩ := List.mem_map.mp hd
    refine ⟨canLays_ints r, ?_⟩
    simp only [PyData.depth, depth_ints]
    decide
  unfold SeqAt.shaped
  rw [Bool.and_eq_true_iff]
  refine ⟨canLays_all fun d m => (h d m).1, decide_eq_true ?_⟩
  simp only [PyData.depth]
  exact Nat.le_trans (Nat.succ_le_succ (depths_le fun d m => (h d m).2)) (by decide)
theorem misL_ord {c : Co} {r : List Int} (h : Row c.length r) (hm : misL c r = []) : IsOrd c r where
  po := ⟨h.nd, fun x m => (h.rg x).mp m, fun i x hi => by
    have hl := (List.getElem?_eq_some_iff.mp hi).1
    have e := (List.getElem?_eq_some_iff.mp hi).2
    have : r = r.take i ++ x :: r.drop (i + 1) := by
      rw [← e, ← List.drop_eq_getElem_cons hl, List.take_append_drop]
    exact misL_iff.mp hm _ _ _ this⟩
  len := h.len
theorem AR_row {c : Co} : ∀ r ∈ AR c [] [], r.length ≤ c.length := fun r hr => by
  have h := cl_len c [] []
  have : r.length ≤ ((AR c [] []).flatten).length := by
    obtain ⟨s, t, e⟩ := List.append_of_mem hr
    rw [e, List.flatten_append, List.flatten_cons, List.length_append, List.length_append]
    omega
  simp at h
  have := this
  simp at this
  omega
theorem AR_len {c : Co} : (AR c [] []).length ≤ c.length + 1 := by
  unfold AR
  have : ∀ k t b, (rnds k c t b).length ≤ k := fun k => by
    induction k with
    | zero => intros; exact Nat.le_refl _
    | succ k ih =>
      intro t b
      unfold rnds
      split
      · simp
      · rw [List.length_cons]
        exact Nat.succ_le_succ (ih _ _)
  exact this _ _ _
theorem atI_map {α : Type} {f : α → PyData} {l : List α} {i : Nat} (z : α) (h : i < l.length) : atI (l.map f) (i : Int) = some (f (l.getD i z)) := by
  refine atI_nat ?_
  rw [List.getElem?_map, List.getD_eq_getElem?_getD, List.getElem?_eq_getElem h]
  rfl
theorem gr_len' (c : Co) : (gr c).length ≤ c.length := by
  have h := nodup_le (gr_nodup c) (rng_nodup c.length) fun x hx => mem_rng.mpr (gr_rng c x hx)
  rw [rng_len] at h
  exact h
end Ec
set_option Elab.async false
set_option linter.all false
set_option maxRecDepth 100000
set_option maxHeartbeats 4000000
namespace Ec
open PySem PySem.Spec PyProof.Rows L2
end Ec
set_option Elab.async false
set_option linter.all false
namespace Ec
open PySem PySem.Spec PyProof.Rows L2
def ren (nw : List Int) (x : Int) : Int := nw.getD x.toNat 0
abbrev Rn (n : Nat) (nw : List Int) : Prop := nw.Perm (rng n)
abbrev Rg (n : Nat) (t : List Int) : Prop := ∀ x ∈ t, 0 ≤ x ∧ x < n
theorem Rn.len {n : Nat} {nw : List Int} (h : Rn n nw) : nw.length = n := by rw [List.Perm.length_eq h, rng_len]
theorem ren_at {n : Nat} {nw : List Int} (h : Rn n nw) {x : Int} (h0 : 0 ≤ x) (h1 : x < n) : nw[x.toNat]? = some (ren nw x) := by
  have hl : x.toNat < nw.length := by rw [h.len]; omega
  unfold ren
  rw [List.getD_eq_getElem?_getD, List.getElem?_eq_getElem hl]
  rfl
theorem ren_inj {n : Nat} {nw : List Int} (h : Rn n nw) {x y : Int} (hx : 0 ≤ x ∧ x < n) (hy : 0 ≤ y ∧ y < n) (e : ren nw x = ren nw y) : x = y := by
  have nd : nw.Nodup := h.nodup_iff.mpr (rng_nodup n)
  have h1 := ren_at h hx.1 hx.2
  have h2 := ren_at h hy.1 hy.2
  have l1 := (List.getElem?_eq_some_iff.mp h1).1
  rw [e, ← h2] at h1
  have := (List.getElem?_inj l1 nd).mp h1
  omega
theorem mem_ren {n : Nat} {nw t : List Int} (h : Rn n nw) (ht : Rg n t) {x : Int} (h0 : 0 ≤ x) (h1 : x < n) : ren nw x ∈ t.map (ren nw) ↔ x ∈ t := by
  rw [List.mem_map]
  constructor
  · rintro ⟨y, hy, e⟩
    have := ren_inj h (ht y hy) ⟨h0, h1⟩ e
    subst this
    exact hy
  · exact fun m => ⟨x, m, rfl⟩
abbrev Mp (n : Nat) (nw t t' : List Int) : Prop := ∀ x : Int, 0 ≤ x → x < n → (ren nw x ∈ t' ↔ x ∈ t)
theorem Mp.nil (n : Nat) (nw : List Int) : Mp n nw [] [] := fun x _ _ => by simp
theorem Mp.map {n : Nat} {nw t : List Int} (h : Rn n nw) (ht : Rg n t) : Mp n nw t (t.map (ren nw)) := fun x h0 h1 => mem_ren h ht h0 h1
end Ec
set_option Elab.async false
set_option linter.all false
namespace Ec
open PySem PySem.Spec PyProof.Rows L2
theorem rng_lt (n : Nat) : (rng n).Pairwise (· < ·) := by
  unfold rng
  rw [List.pairwise_map]
  exact List.pairwise_lt_range.imp fun h => by omega
end Ec
set_option Elab.async false
set_option linter.all false
namespace Ec
open PySem PySem.Spec PyProof.Rows L2
theorem crs_len64 {n : Nat} (h : n ≤ 10) (r s : List Int) : (crs n r s).length ≤ 100 := by
  have := crs_le n r s
  have : n * n ≤ 10 * 10 := Nat.mul_le_mul h h
  omega
end Ec
set_option Elab.async false
set_option linter.all false
namespace Ec
open PySem PySem.Spec PyProof.Rows L2
theorem AR_rg {c : Co} : ∀ r ∈ AR c [] [], ∀ y ∈ r, 0 ≤ y ∧ y < c.length := fun r hr y hy => by
  have := (rnds_nodup (c.length + 1) c [] []).2 y (List.mem_flatten.mpr ⟨r, hr, hy⟩)
  exact this.2
theorem natsD_shaped (l : List Nat) : SeqAt.shaped (.list (natsD l)) = true := by
  rw [natsD_ints]
  exact shaped_lst _
theorem nexts_le9 (c : Co) (t : List Int) : (nexts c t).length ≤ c.length := by
  unfold nexts
  refine Nat.le_trans (List.length_filter_le _ _) (Nat.le_trans (List.length_filter_le _ _) ?_)
  rw [rng_len]
  exact Nat.le_refl _
end Ec
set_option Elab.async false
set_option linter.all false
set_option maxRecDepth 100000
set_option maxHeartbeats 4000000
namespace Ec
open PySem PySem.Spec PyProof.Rows L2
def getI : List (Int × PyData) → Int → Option PyData
  | [], _ => none
  | p :: r, k => if p.1 = k then some p.2 else getI r k
inductive Dv (μ : Cells) : Vd → Cont → Prop
  | c (j : Nat) {p : Addr} {c : Cont} (h : μ[j]? = some (p, c)) : Dv μ (.a p) c
  | k (p : Addr) (c : Cont) : Dv μ (.k p c) c
  | z (p : Addr) (kvs : List (List Int × PyData)) : Dv μ (.z p kvs) (.t kvs)
section
variable {X : Cx} {δ : Dl} {μ : Cells} {Q : Vd → Cells → Prop} {a b o i : Expr} {pos : Pos}
end
def NF (u : HO) : Prop := (∀ xs, u ≠ .tup xs) ∧ ∀ o v, u ≠ .frz o v
section
variable {K : PySem.W.Frag} {F H : Hp} {p : Addr} {od : Obj} {u : HO}
theorem CelOk.dict {c : Cont} (h : CelOk K F H p c) (nl : ∀ ds, c ≠ .l ds) : ∃ u, H p = some u ∧ Mut (some u) ∧ NF u ∧ (∀ F' od, Same F F' → F' p = some (.frz od u) → LkOk K F' p c) ∧ ∀ F' H', Same F F' → H' p = some u → CelOk K F' H' p c := by
  cases c with
  | l ds => exact absurd rfl (nl ds)
  | i kvs =>
    obtain ⟨ws, h1, h2⟩ := h
    exact ⟨_, h2, trivial, ⟨(fun xs z => by cases z), fun o v z => by cases z⟩, fun F' od e g => ⟨od, ws, dps_up e _ _ h1, g⟩, fun F' H' e g => ⟨ws, dps_up e _ _ h1, g⟩⟩
  | t kvs =>
    obtain ⟨xs, h1, h2⟩ := h
    have up : ∀ F', Same F F' → Paired (DtE K F') xs kvs := fun F' e => Paired.mapP h2 fun x p ⟨e1, ⟨o, e2, e3⟩, w, e4, e5⟩ => ⟨e1, ⟨o, e _ _ e2, e3⟩, w, e4, dp_up e _ _ e5⟩
    exact ⟨_, h1, trivial, ⟨(fun xs z => by cases z), fun o v z => by cases z⟩, fun F' od e g => ⟨od, xs, g, up F' e⟩, fun F' H' e g => ⟨xs, g, up F' e⟩⟩
  | o C fs =>
    obtain ⟨dx, vs, h1, h2⟩ := h
    exact ⟨_, h1, trivial, ⟨(fun xs z => by cases z), fun o v z => by cases z⟩, fun F' od e g => ⟨od, dx, vs, g, FlE.up e h2⟩, fun F' H' e g => ⟨dx, vs, g, FlE.up e h2⟩⟩
theorem RpM.locked {μ : Cells} {c : Cont} (r : RpM K F H ((p, c) :: μ)) (od : Obj) : RpM K (upd F p (.frz od u)) (upd H p (.frz od u)) μ ∧ Same F (upd F p (.frz od u)) := by
  obtain ⟨f, _⟩ := r.cel p c List.mem_cons_self
  obtain ⟨out, nd⟩ := List.nodup_cons.mp r.nd
  refine ⟨⟨fun b x q => ?_, nd, fun b es m => ?_⟩, same_new f⟩
  · by_cases hb : b = p
    · subst hb
      rw [upd_same] at q ⊢
      exact q
    · rw [upd_ne hb] at q ⊢
      exact r.ex b x q
  · obtain ⟨f', g⟩ := r.cel b es (List.mem_cons_of_mem _ m)
    have nb : b ≠ p := fun z => out (z ▸ List.mem_map.mpr ⟨_, m, rfl⟩)
    exact ⟨by rw [upd_ne nb]; exact f', g.to (same_new f) fun o e => by rw [upd_ne nb]; exact e⟩
end
section
variable {X : Cx} {δ : Dl} {μ : Cells} {Q : Vd → Cells → Prop} {e : Expr} {D : Dn} {st : Stmt}
theorem perm_at {μ : Cells} {i : Nat} {p : Addr} {c : Cont} (hi : μ[i]? = some (p, c)) : μ.Perm ((p, c) :: μ.eraseIdx i) := by
  obtain ⟨hl, e⟩ := List.getElem?_eq_some_iff.mp hi
  rw [← e]
  exact perm_erase hl
end
section
variable {X : Cx} {δ : Dl} {μ : Cells} {e tg : Expr} {QI : List PyData → Cells → Prop}
end
def putI : List (Int × PyData) → Int → PyData → List (Int × PyData)
  | [], k, d => [(k, d)]
  | p :: r, k, d => if p.1 = k then (k, d) :: r else p :: putI r k d
def mergeI (kvs more : List (Int × PyData)) : List (Int × PyData) := more.foldl (fun acc q => putI acc q.1 q.2) kvs
def ndI (kvs : List (Int × PyData)) : Prop := (kvs.map Prod.fst).Nodup
theorem getI_none {k : Int} : ∀ {kvs : List (Int × PyData)}, getI kvs k = none ↔ k ∉ kvs.map Prod.fst
  | [] => by simp [getI]
  | p :: r => by
    unfold getI
    rw [List.map_cons, List.mem_cons]
    by_cases e : p.1 = k
    · rw [if_pos e]
      exact ⟨(fun z => by cases z), fun z => absurd (Or.inl e.symm) z⟩
    · rw [if_neg e, getI_none]
      exact ⟨fun h z => z.elim (fun y => e y.symm) h, fun h z => h (.inr z)⟩
theorem putI_nd {k : Int} {d : PyData} : ∀ {kvs : List (Int × PyData)}, ndI kvs → ndI (putI kvs k d) ∧ ∀ x, x ∈ (putI kvs k d).map Prod.fst ↔ x = k ∨ x ∈ kvs.map Prod.fst
  | [], _ => ⟨by simp [ndI, putI], fun x => by simp [putI]⟩
  | p :: r, h => by
    obtain ⟨n1, n2⟩ := List.nodup_cons.mp h
    obtain ⟨g1, g2⟩ := putI_nd (k := k) (d := d) n2
    unfold putI
    by_cases e : p.1 = k
    · rw [if_pos e]
      refine ⟨List.nodup_cons.mpr ⟨by rw [← e]; exact n1, n2⟩, fun x => ?_⟩
      rw [List.map_cons, List.map_cons, List.mem_cons, List.mem_cons, e]
      exact ⟨fun z => .inr z, fun z => z.elim .inl id⟩
    · rw [if_neg e]
      refine ⟨List.nodup_cons.mpr ⟨fun z => ((g2 p.1).mp z).elim e n1, g1⟩, fun x => ?_⟩
      rw [List.map_cons, List.map_cons, List.mem_cons, List.mem_cons, g2]
      exact ⟨fun z => z.elim (fun y => .inr (.inl y)) fun y => y.elim .inl fun y => .inr (.inr y), fun z => z.elim (fun y => .inr (.inl y)) fun y => y.elim .inl fun y => .inr (.inr y)⟩
theorem mergeI_nd : ∀ {more kvs : List (Int × PyData)}, ndI kvs → ndI (mergeI kvs more)
  | [], _, h => h
  | q :: more, kvs, h => mergeI_nd (more := more) (putI_nd (k := q.1) (d := q.2) h).1
section
variable {X : Cx} {δ : Dl} {μ : Cells} {Q : Vd → Cells → Prop} {o e : Expr} {apos cpos : Pos}
end
end Ec
set_option Elab.async false
set_option linter.all false
namespace Ec
open PySem PySem.Spec PyProof.Rows L2
structure Wid (c c' : Co) : Prop where
  len : c'.length = c.length
  fr : ∀ p : Int, 0 ≤ p → p < c.length → ∀ x ∈ fr c p, x ∈ Ec.fr c' p
  nd : ∀ p : Int, 0 ≤ p → p < c.length → Ec.nd c' p ≤ Ec.nd c p
theorem fr_nodup {c : Co} (w : CoW c) {p : Int} (h0 : 0 ≤ p) (h1 : p < c.length) : (fr c p).Nodup := by
  have hl : p.toNat < c.length := by omega
  have e : c.getD p.toNat ([], 0) = c[p.toNat] := by rw [List.getD_eq_getElem?_getD, List.getElem?_eq_getElem hl]; rfl
  unfold fr
  rw [e]
  exact (w.up _ (List.getElem_mem hl)).imp fun h => by omega
theorem Wid.comes {c c' : Co} (h : Wid c c') (w : CoW c) (w' : CoW c') {t t' : List Int} (ht : ∀ x ∈ t, x ∈ t') {p : Int} (h0 : 0 ≤ p) (h1 : p < c.length) (hc : comes c t p = true) : comes c' t' p = true := by
  have hn := h.nd p h0 h1
  have hl : cnt c t p ≤ cnt c' t' p := by
    unfold cnt
    refine Int.ofNat_le.mpr (nodup_le ((fr_nodup w h0 h1).filter _) ((fr_nodup w' h0 (by rw [h.len]; exact h1)).filter _) fun x hx => ?_)
    rw [List.mem_filter] at hx ⊢
    exact ⟨h.fr p h0 h1 x hx.1, decide_eq_true (ht x (of_decide_eq_true hx.2))⟩
  unfold Ec.comes at *
  rw [decide_eq_true_eq] at *
  omega
theorem Wid.cl {c c' : Co} (h : Wid c c') (w : CoW c) (w' : CoW c') (b : List Int) : ∀ x ∈ cl c [] b, x ∈ Ec.cl c' [] b :=
  cl_in (S := fun x => x ∈ Ec.cl c' [] b) (fun p h0 h1 hb ⟨t, ht, hc⟩ => cl_shut c' [] b p h0 (by rw [h.len]; exact h1) hb ⟨t, ht, h.comes w w' (fun _ m => m) h0 h1 hc⟩) fun x m => by cases m
theorem Wid.nexts {c c' : Co} (h : Wid c c') (w : CoW c) (w' : CoW c') {t : List Int} : ∀ x ∈ nexts c t, x ∈ Ec.nexts c' t := fun x hx => by
  obtain ⟨⟨h0, h1⟩, h2, h3⟩ := mem_nexts.mp hx
  exact mem_nexts.mpr ⟨⟨h0, by rw [h.len]; exact h1⟩, h2, h.comes w w' (fun _ m => m) h0 h1 h3⟩
theorem cl_lt {c : Co} (b : List Int) : (cl c [] b).Pairwise (· < ·) := by
  have nd : (cl c [] b).Nodup := cl_nodup List.nodup_nil
  exact ((srt_up _ : (cl c [] b).Pairwise (· ≤ ·)).and nd).imp fun ⟨h1, h2⟩ => by omega
theorem Wid.misL {c c' : Co} (h : Wid c c') (w : CoW c) (w' : CoW c') {r : List Int} (hr : Rg c.length r) (hm : misL c r = []) : Ec.misL c' r = [] := by
  rw [misL_iff] at *
  intro pre x post e
  have hx := hr x (by rw [e]; simp)
  exact h.comes w w' (fun _ m => m) hx.1 hx.2 (hm pre x post e)
theorem Wid.ord {c c' : Co} (h : Wid c c') (w : CoW c) (w' : CoW c') {r : List Int} (hr : IsOrd c r) : IsOrd c' r := by
  refine misL_ord (by rw [h.len]; exact hr.row) (h.misL w w' hr.po.rg (misL_nil hr.po))
theorem Wid.nev {c c' : Co} (h : Wid c c') (w : CoW c) (w' : CoW c') (hn : nev c = []) : Ec.nev c' = [] := by
  unfold Ec.nev at *
  rw [List.filter_eq_nil_iff] at *
  rw [h.len]
  intro x hx z
  have := hn x hx
  simp at this z
  exact z (h.cl w w' [] x this)
end Ec
set_option Elab.async false
set_option linter.all false
namespace Ec
open PySem PySem.Spec PyProof.Rows L2
def cmp (c : Co) (t : List Int) : List Int := (rng c.length).filter fun p => !decide (p ∈ t)
theorem mem_cmp {c : Co} {t : List Int} {x : Int} : x ∈ cmp c t ↔ (0 ≤ x ∧ x < c.length) ∧ x ∉ t := by
  unfold cmp
  rw [List.mem_filter, mem_rng]
  simp
theorem nexts_congr {c : Co} {s t : List Int} (h : ∀ x, x ∈ s ↔ x ∈ t) : nexts c s = nexts c t := by
  unfold nexts
  have e : ((rng c.length).filter fun p => !decide (p ∈ s)) = (rng c.length).filter fun p => !decide (p ∈ t) := List.filter_congr fun x _ => by rw [show decide (x ∈ s) = decide (x ∈ t) from decide_eq_decide.mpr (h x)]
  rw [e]
  exact List.filter_congr fun x _ => comes_same h x
theorem cl_anti {c : Co} {a b : List Int} (h : ∀ x : Int, 0 ≤ x → x < c.length → x ∈ b → x ∈ a) : ∀ x ∈ cl c [] a, x ∈ cl c [] b :=
  cl_in (S := fun x => x ∈ cl c [] b) (fun p h0 h1 hb ht => cl_shut c [] b p h0 h1 (fun z => hb (h p h0 h1 z)) ht) fun x m => by cases m
structure Ps (c : Co) (t : List Int) : Prop where
  up : t.Pairwise (· < ·)
  rg : Rg c.length t
  inn : ∀ x ∈ t, x ∈ cl c [] (cmp c t)
theorem Ps.gr {c : Co} {t : List Int} (h : Ps c t) : ∀ x ∈ t, x ∈ Ec.gr c := fun x m => cl_anti (fun x _ _ z => by cases z) x (h.inn x m)
theorem Ps.nil (c : Co) : Ps c [] := ⟨.nil, fun x m => (by cases m), fun x m => by cases m⟩
theorem srt_lt {l : List Int} (h : l.Nodup) : (srt l).Pairwise (· < ·) :=
  ((srt_up l).and ((srt_perm l).nodup_iff.mpr h)).imp fun ⟨h1, h2⟩ => by omega
theorem Ps.more {c : Co} {t s : List Int} (h : Ps c t) (hs : ∀ x ∈ s, x ∈ nexts c t) (hn : s.Nodup) : Ps c (srt (t ++ s)) := by
  have hm : ∀ x, x ∈ srt (t ++ s) ↔ x ∈ t ∨ x ∈ s := fun x => by rw [mem_srt, List.mem_append]
  have htc : ∀ x ∈ t, x ∈ cl c [] (cmp c (srt (t ++ s))) := fun x m => cl_anti (fun y h0 h1 z => mem_cmp.mpr ⟨⟨h0, h1⟩, fun w => (mem_cmp.mp z).2 ((hm y).mpr (.inl w))⟩) x (h.inn x m)
  have hd : (t ++ s).Nodup := List.nodup_append.mpr ⟨h.up.imp fun z => by omega, hn, fun x mx y my e => by
    subst e
    exact (mem_nexts.mp (hs x my)).2.1 mx⟩
  refine ⟨srt_lt hd, fun x m => ?_, fun x m => ?_⟩
  · rcases (hm x).mp m with m | m
    · exact h.rg x m
    · exact (mem_nexts.mp (hs x m)).1
  · rcases (hm x).mp m with m2 | m2
    · exact htc x m2
    · obtain ⟨⟨h0, h1⟩, _, h3⟩ := mem_nexts.mp (hs x m2)
      exact cl_shut c [] _ x h0 h1 (fun z => (mem_cmp.mp z).2 m) ⟨t, htc, h3⟩
theorem gr_shut {c : Co} {p : Int} (h0 : 0 ≤ p) (h1 : p < c.length) {t : List Int} (ht : ∀ x ∈ t, x ∈ gr c) (hc : comes c t p = true) : p ∈ gr c := cl_shut c [] [] p h0 h1 (fun z => by cases z) ⟨t, ht, hc⟩
theorem gr_lt (c : Co) : (gr c).Pairwise (· < ·) := cl_lt _
theorem Ps.all (c : Co) : Ps c (Ec.gr c) := by
  refine ⟨gr_lt c, gr_rng c, ?_⟩
  refine cl_in (S := fun x => x ∈ cl c [] (cmp c (Ec.gr c))) (fun p h0 h1 _ ⟨t, ht, hc⟩ => ?_) fun x m => by cases m
  refine cl_shut c [] _ p h0 h1 (fun z => (mem_cmp.mp z).2 (gr_shut h0 h1 (fun x m => ?_) hc)) ⟨t, ht, hc⟩
  exact cl_anti (fun y _ _ w => by cases w) x (ht x m)
theorem nexts_gr (c : Co) : nexts c (gr c) = [] := by
  rw [List.eq_nil_iff_forall_not_mem]
  intro x m
  obtain ⟨⟨h0, h1⟩, h2, h3⟩ := mem_nexts.mp m
  exact h2 (gr_shut h0 h1 (fun _ z => z) h3)
theorem rnds_at {c : Co} : ∀ (n : Nat) (t : List Int) (i : Nat) (s : List Int), (rnds n c t [])[i]? = some s → s = nexts c (t ++ ((rnds n c t []).take i).flatten) ∧ s ≠ []
  | 0, _, _, _, h => by cases h
  | n + 1, t, i, s, h => by
    unfold rnds at h ⊢
    rw [stp_nil] at h ⊢
    split at h
    · cases h
    · rename_i hne
      rw [if_neg hne]
      cases i with
      | zero =>
        cases h
        exact ⟨by simp, hne⟩
      | succ i =>
        rw [List.getElem?_cons_succ] at h
        obtain ⟨h1, h2⟩ := rnds_at n _ i s h
        refine ⟨?_, h2⟩
        rw [List.take_succ_cons, List.flatten_cons, ← List.append_assoc]
        exact h1
def sof (c : Co) (i : Nat) : List Int := srt ((AR c [] []).take i).flatten
theorem srt_nil : srt [] = [] := List.Perm.eq_nil (srt_perm [])
theorem sof_zero (c : Co) : sof c 0 = [] := by
  unfold sof
  rw [List.take_zero]
  exact srt_nil
theorem sof_all (c : Co) : sof c (AR c [] []).length = gr c := by
  unfold sof gr cl
  rw [List.take_length]
  rfl
theorem AR_at {c : Co} {i : Nat} {s : List Int} (h : (AR c [] [])[i]? = some s) : s = nexts c (sof c i) ∧ s ≠ [] := by
  obtain ⟨h1, h2⟩ := rnds_at _ _ i s h
  refine ⟨h1.trans (nexts_congr fun x => ?_), h2⟩
  unfold sof AR
  rw [mem_srt]
  simp
theorem sof_succ {c : Co} {i : Nat} {s : List Int} (h : (AR c [] [])[i]? = some s) : srt (sof c i ++ s) = sof c (i + 1) := by
  unfold sof
  refine srt_one ((srt_perm _).trans (((srt_perm _).append_right _).trans ?_)) (srt_up _) (srt_up _)
  refine List.Perm.trans ?_ (srt_perm _).symm
  have e : (AR c [] []).take (i + 1) = (AR c [] []).take i ++ [s] := by
    rw [List.take_add_one, h]
    rfl
  rw [e, List.flatten_append]
  simp
theorem Ps.sof (c : Co) : ∀ i, i ≤ (AR c [] []).length → Ps c (Ec.sof c i)
  | 0, _ => by
    rw [sof_zero]
    exact Ps.nil c
  | i + 1, h => by
    have hi : i < (AR c [] []).length := h
    have e := List.getElem?_eq_getElem hi
    obtain ⟨h1, _⟩ := AR_at e
    rw [← sof_succ e]
    refine (Ps.sof c i (Nat.le_of_lt hi)).more (fun x m => by rw [h1] at m; exact m) ?_
    rw [h1]
    exact (nexts_up c _).imp fun z => by omega
end Ec
set_option Elab.async false
set_option linter.all false
set_option maxRecDepth 100000
set_option maxHeartbeats 4000000
namespace Ec
open PySem PySem.Spec PyProof.Rows L2
section
variable {X : Cx} {δ : Dl} {μ : Cells} {Q : Vd → Cells → Prop}
end
end Ec
set_option Elab.async false
set_option linter.all false
set_option maxRecDepth 100000
set_option maxHeartbeats 4000000
namespace Ec
open PySem PySem.Spec PyProof.Rows L2
structure Bas (B newId initId : String) (bmB : List Value) : Prop where
  F : ExcBaseFacts B newId initId bmB
  S : StoreFacts B bmB "object.__setattr__" "object"
  tl : PySem.W.excTail bmB bmB = true
  ty : typeOf (.type B) = pure (.type "type")
  bt : ∃ x : Str, bootBuiltins x = some (.type B)
theorem bas_VE : Bas "ValueError" "ValueError.__new__" "ValueError.__init__" [.type "ValueError", .type "Exception", .type "BaseException", .type "object"] :=
  ⟨F.excBase_ValueError, F.store_ValueError, by decide +kernel, by kernel_rfl, "ValueError", by kernel_rfl⟩
theorem bas_LE : Bas "LookupError" "LookupError.__new__" "LookupError.__init__" [.type "LookupError", .type "Exception", .type "BaseException", .type "object"] :=
  ⟨F.excBase_LookupError, F.store_LookupError, by decide +kernel, by kernel_rfl, "LookupError", by kernel_rfl⟩
theorem bas_OE : Bas "OverflowError" "OverflowError.__new__" "OverflowError.__init__" [.type "OverflowError", .type "ArithmeticError", .type "Exception", .type "BaseException", .type "object"] :=
  ⟨F.excBase_OverflowError, F.store_OverflowError, by decide +kernel, by kernel_rfl, "OverflowError", by kernel_rfl⟩
structure Oxg (K : PySem.W.Frag) (C : Addr) (newId : String) (bmB : List Value) : Prop where
  cl : ∃ nm q N bs sn sub ab col dd k0 k1 k2 k3 k5, K.lookup C = some (excClassObj nm q C N bs bmB true sn sub ab col dd k0 k1 k2 k3 k5 newId)
  sa : PySem.W.findIn K (.ref C) "__setattr__" = some (some (.builtin "object.__setattr__"))
  exC : PySem.W.subIn K (.ref C) (.type "BaseException") = some true
  tyC : PySem.W.typeIn K (.ref C) = some (.type "type")
  kC : PySem.W.keepIn K (.ref C) = true
section
variable {X : Cx} {pins : List (Addr × Obj)} {σ : L2.St} {H : Hp} {s : Shared} {a C dx : Addr} {f : Str} {y : V} {u : Value} {E : Value → Shared → Prop} {A : Around} {B newId initId : String} {bmB : List Value}
theorem Oxg.obj (T : Oxg X.K C newId bmB) (I : Inv X pins σ H s) : ∃ nm q N bs sn sub ab col dd k0 k1 k2 k3 k5, s.heap.get? C = some (excClassObj nm q C N bs bmB true sn sub ab col dd k0 k1 k2 k3 k5 newId) := by
  obtain ⟨nm, q, N, bs, sn, sub, ab, col, dd, k0, k1, k2, k3, k5, h⟩ := T.cl
  exact ⟨nm, q, N, bs, sn, sub, ab, col, dd, k0, k1, k2, k3, k5, I.kIn _ _ h⟩
theorem ini_base {us : List Value} {Q : Value → Shared → Prop} (Z : Bas B newId initId bmB) (T : Oxg X.K C newId bmB) (I : Inv X pins σ H s) (e : H a = some (exo a C none)) (hl : us.length ≤ sizeLine) (h : ∀ s', Inv X pins σ H s' → Q .none s') :
    wpAny (model X.prog X.w) A (call (.builtin initId) (.ref a :: us)) Q E s := by
  obtain ⟨nm, q, N, bs, sn, sub, ab, col, dd, k0, k1, k2, k3, k5, hC⟩ := T.obj I
  obtain ⟨t1, ho⟩ := exo_at I.hok e
  obtain ⟨hp, g, d, t, os⟩ := s
  refine wpAny_call (PySem.HandSPX.init_base Z.F (fun _ => rfl) hC ho hl fun h' t2 k hx => ?_)
  have same : upd H a (exo a C none) = H := by
    funext b
    by_cases hb : b = a
    · rw [hb, upd_same, e]
    · rw [upd_ne hb]
  have J := I.write (t' := t) (x := a) (e := a) (o := exo a C none) (by rw [e]; trivial) (.inl rfl) k ⟨_, hx⟩ (exo_ok hx)
  rw [same] at J
  exact h _ J
theorem sto_base {Q : Unit → Shared → Prop} (Z : Bas B newId initId bmB) (T : Oxg X.K C newId bmB) (I : Inv X pins σ H s) (e : H a = some (exo a C none)) (hno : PySem.W.findIn X.K (.ref C) f = some none) (ry : RelV y u)
    (h : ∀ dx s', H dx = none → dx ≠ a → Inv X pins σ (upd (upd H dx (exd dx [(f, y)])) a (exo a C (some dx))) s' → Q () s') : wpAny (model X.prog X.w) A (setAttr (.ref a) f u) Q E s := by
  obtain ⟨nm, q, N, bs, sn, sub, ab, col, dd, k0, k1, k2, k3, k5, hC⟩ := T.cl
  have hcl : PySem.W.clsIn X.K C = some { name := nm, bases := bs, mro := .ref C :: bmB, ns := N, qualname := q, hasDict := true, slotNames := sn, subclasses := sub, abstract := ab, collection := col, hasDel := false } := by
    unfold PySem.W.clsIn
    rw [hC]
  have hov : PySem.W.excOver X.K C bmB = true := by
    unfold PySem.W.excOver
    rw [hcl]
    show (C == C && PySem.W.excTail bmB bmB) = true
    rw [Z.tl, beq_self_eq_true]
    rfl
  have htk : PySem.W.takerIn X.K C f = some none := by
    unfold PySem.W.takerIn
    rw [hno]
    rfl
  obtain ⟨t1, ho⟩ := exo_at I.hok e
  obtain ⟨hp, g, d, t, os⟩ := s
  have hcls : PySem.W.Looks (model X.prog X.w) hp (classData C) _ := PySem.W.looks_clsIn I.kIn hcl
  have hxs : a ≠ hp.objs.size := Nat.ne_of_lt (Heap.lt_size ho)
  refine PySem.W.set_plain I.kIn (ox := { cls := .ref C, dict := none, data := .fields #[.ref t1, .none, .none, .none, .bool false, .none] }) (od := none) ⟨ho, rfl, rfl, trivial⟩ T.sa ?_
  refine PySem.W.osa_openX (od := none) Z.S I.kIn ⟨ho, rfl, rfl, trivial⟩ hov htk fun b => ?_
  show wpAny _ _ (Builtin.ObjectAttr.storeInOwnDict (.ref a) (.ref C) (.str f t) f u b) _ _ _
  unfold Builtin.ObjectAttr.storeInOwnDict Builtin.ObjectAttr.ownDictForStores
  repeat (first | with_reducible refine PySem.HandSPX.store_in_new ?_ ?_ | with_reducible refine wpAny_loadPart_at ho ?_ | with_reducible refine hcls.at ?_ | wp_step)
  · exact ⟨_, #[], _, (Heap.get?_update_ne _ _ _ _ hxs.symm).trans (Heap.get?_push_at rfl rfl), rfl, fun e he => absurd he (by simp), fun _ => rfl⟩
  · intro h' tk' hn hs
    have h1 : (hp.push { cls := .type "dict", data := .dict #[] }).get? a = some { cls := .ref C, dict := none, data := .fields #[.ref t1, .none, .none, .none, .bool false, .none] } := Heap.get?_push_of_some _ ho
    have k : ∀ b o, b ≠ a → hp.get? b = some o → h'.get? b = some o := fun b o hb q => (hs.2 b (Nat.ne_of_lt (Heap.lt_size q))).trans ((Heap.get?_update_ne _ _ _ _ hb).trans (Heap.get?_push_of_some _ q))
    have hx : h'.get? a = some { cls := .ref C, dict := some hp.objs.size, data := .fields #[.ref t1, .none, .none, .none, .bool false, .none] } := (hs.2 a hxs).trans (Heap.get?_update_self _ h1 rfl)
    have hnd : H hp.objs.size = none := I.hok.fresh (Nat.le_refl _)
    have nd : ∀ {b : Addr} {o : Obj}, hp.get? b = some o → b ≠ hp.objs.size := fun q => Nat.ne_of_lt (Heap.lt_size q)
    have na : ∀ {b : Addr}, H b = none → b ≠ a := fun n z => by
      rw [z, e] at n
      cases n
    have U : Un X.fs [] H (upd (upd H hp.objs.size (exd hp.objs.size [(f, y)])) a (exo a C (some hp.objs.size))) hp h' := {
      keep := fun b o q n _ _ => k b o (na n) q
      slot := fun b o q n _ _ => ⟨o.slots, k b o (na n) q⟩
      free := fun b o q n _ => by
        rw [upd_ne (na n), upd_ne (nd q)]
        exact n
      there := fun b o q _ => by
        by_cases hb : b = a
        · exact ⟨_, by rw [hb]; exact hx⟩
        · exact ⟨o, k b o hb q⟩
      tups := fun b xs q => by
        rw [upd_ne (at_ne e q exo_tup), upd_ne (ne_of_none q hnd)]
        exact q
      frzs := fun b o v q => by
        rw [upd_ne (at_ne e q exo_frz), upd_ne (ne_of_none q hnd)]
        exact q
      tbls := fun b ps q => ⟨#[], by
        rw [upd_ne (at_ne e q exo_tbl), upd_ne (ne_of_none q hnd), q]
        simp⟩ }
    refine h hp.objs.size _ hnd hxs.symm (I.un (t' := tk') U fun b o q => ?_)
    by_cases hb : b = a
    · subst hb
      rw [upd_same] at q
      cases q
      exact exo_ok hx
    · rw [upd_ne hb] at q
      by_cases hd : b = hp.objs.size
      · subst hd
        rw [upd_same] at q
        cases q
        exact exd_ok hn (relO_put (fs := []) ry fun g => trivial)
      · rw [upd_ne hd] at q
        refine (I.hok b o q).stay (fun c v hc z => k c v ?_ z) (fun c hc => ?_) fun c xs hc => ?_
        · rcases hc with hc | hc
          · rw [hc]
            exact hb
          · exact at_ne e hc exo_own
        · rw [upd_ne (at_ne e hc exo_own), upd_ne (ne_of_none hc hnd)]
          exact hc
        · rw [upd_ne (at_ne e hc exo_tup), upd_ne (ne_of_none hc hnd)]
          exact hc
end
def tIni (K : PySem.W.Frag) (newId : String) (bmB : List Value) (ta : TA) : TE := fun σ H Q => ta σ H fun vs H1 => ∃ (a C : Addr) (ws : List V), vs = .ref a :: ws ∧ ws.length ≤ 1000 ∧ Oxg K C newId bmB ∧ H1 a = some (exo a C none) ∧ Q .non H1
def tSto (K : PySem.W.Frag) (newId : String) (bmB : List Value) (f : Str) (to te : TE) : TS := fun D σ H => te σ H fun y H1 => to σ H1 fun x H2 => ∃ a C : Addr, x = .ref a ∧ Oxg K C newId bmB ∧ PySem.W.findIn K (.ref C) f = some none ∧ H2 a = some (exo a C none) ∧
  ∀ dx, H2 dx = none → dx ≠ a → D.nx σ (upd (upd H2 dx (exd dx [(f, y)])) a (exo a C (some dx)))
section
variable {X : Cx} {B newId initId : String} {bmB : List Value} {x f : Str} {o e : Expr} {es : List Expr} {to te : TE} {ta : TA} {p p' p1 p2 pos : Pos}
theorem pe_ini {pl : Sem Bool} (Z : Bas B newId initId bmB) (hg : Gl X x) (hm : X.mg x = none) (hv : bootBuiltins x = some (.type B)) (vV : PySem.W.findCls X.K (.type B) (.type "type") "__init__" = some (.val (.builtin initId)))
    (hst : Manifest.isStub B = false) (hh : PySem.W.handedIn (.builtin initId) = true) (hn : x ≠ "__name__") (hdb : (x == ("__debug__" : Str)) = false) (ha : PA X (e :: es) ta)
    (hc : eval (.Call (.Attribute (.Name x p1) "__init__" p2) (e :: es) [] pos) X.env = (do
      let ov ← eval (.Name x p1) X.env
      standAt p2.atName
      let (g, first) ← holding [ov] (getMethod ov "__init__" pl)
      callWith pos g first (backTo pos (starEach (e :: es) X.env)) (backToKw pos (keywordEach [] X.env))) := by rfl)
    (he : starEach (e :: es) X.env = (false, eval e X.env) :: starEach es X.env := by rfl) (hpl : (backTo pos (starEach es X.env)).any (·.1) = false := by rfl) :
    PE X (.Call (.Attribute (.Name x p1) "__init__" p2) (e :: es) [] pos) (tIni X.K newId bmB ta) := ⟨fun pins s σ H Q I h => by
  refine PySem.W.methodCall_KW (ld_blt I hg hm hv ?_ hn hdb) hc
  obtain ⟨m, fr⟩ := I.fr
  refine PySem.W.method_type fr I.ok.mod.kin Z.ty hst vV hh ?_
  show wpAny _ _ (callWith pos (Value.builtin initId) [] _ []) _ _ _
  refine PyProof.Rows.callWith_method1 (thn (ha.run pos pins _ σ H _ (I.tok _) h) fun us s1 hq => ?_) he hpl
  obtain ⟨vs, H1, I1, r1, a, C, ws, rfl, hl, T, ea, q⟩ := hq
  cases r1 with
  | cons ra rs =>
    cases ra
    refine ini_base Z T I1 ea ?_ fun s' J => ⟨.non, H1, J, rfl, q⟩
    rw [← Paired.length rs, sizeLine_eq]
    omega⟩
theorem ps_sto (Z : Bas B newId initId bmB) (ho : PE X o to) (he : PE X e te) (hs : swapsWith e (some (.Attribute o f p')) pos.line X.env = pure false := by rfl) : PS X (.Assign [.Attribute o f p'] e pos) (tSto X.K newId bmB f to te) := ⟨fun pins s σ H D I h => by
  refine plainObj_wpAny_Assign_Attribute (thn (he.run pins s σ H _ I h) fun v s1 h1 => ?_) hs
  obtain ⟨y, H1, I1, r1, q1⟩ := h1
  refine thn (ho.run pins s1 σ H1 _ I1 q1) fun u s2 h2 => ?_
  obtain ⟨z, H2, I2, r2, a, C, rfl, T, hno, ea, q⟩ := h2
  cases r2
  exact sto_base Z T I2 ea hno r1 fun dx s' n ne J => ⟨σ, _, J, q dx n ne⟩⟩
end
inductive Fm (K : PySem.W.Frag) (H : Hp) : V → Prop
  | int (i : Int) (h : i.natAbs.log2 < 1920) : Fm K H (.int i)
  | tup {a : Addr} {ns : List Int} (h : SqT K H a (ns.map V.int)) (l : ns.length ≤ 1000) (b : ∀ i ∈ ns, i.natAbs.log2 < 1920) : Fm K H (.ref a)
theorem int_txt {i : Int} (h : i.natAbs.log2 < 1920) : ((PySem.Str.ofString (toString i)) : Str).length ≤ 1921 := int_text_len_1921 h
theorem repr_ints {prog : Program} {w : World} : ∀ {l : List Int} {its : List Value}, Vals (l.map V.int) its → (∀ i ∈ l, i.natAbs.log2 < 1920) → ReprAll prog w its (l.map fun i => PySem.Str.ofString (toString i))
  | [], _, r, _ => by
    cases r
    exact .nil
  | i :: l, _, r, h => by
    cases r with
    | cons r1 r2 =>
      obtain ⟨t, rfl⟩ := r1
      exact .cons (ReprIs.int t (h i List.mem_cons_self)) (repr_ints r2 fun z hz => h z (List.mem_cons_of_mem _ hz))
theorem ints_piled : ∀ l : List Int, (∀ i ∈ l, i.natAbs.log2 < 1920) → piled (l.map fun i => PySem.Str.ofString (toString i)) ≤ 1930 * l.length
  | [], _ => Nat.zero_le _
  | i :: l, h => by
    have h1 := int_txt (h i List.mem_cons_self)
    have h2 := ints_piled l fun z hz => h z (List.mem_cons_of_mem _ hz)
    rw [List.map_cons, piled_cons, List.length_cons]
    omega
def tFmD (K : PySem.W.Frag) (te : TE) : TE := fun σ H Q => te σ H fun x H1 => Fm K H1 x ∧ ∀ m : Str, m.length ≤ 2000000 → Q (.str m) H1
theorem pe_fmD {X : Cx} {e : Expr} {te : TE} {pos : Pos} {k : Nat} (hr : Room k X.A) (he : PE X e te) : PE X (.FormattedValue e (-1) none pos) (tFmD X.K te) := ⟨fun pins s σ H Q I h => by
  refine wpAny_FormattedValue_plain (thn (he.run pins s σ H _ I h) fun v s1 hv => ?_)
  obtain ⟨x, H1, I1, r1, hf, q⟩ := hv
  cases hf with
  | int i hz =>
    obtain ⟨t, rfl⟩ := r1
    exact wpAny_formatField_int hz ⟨.str (toString i), H1, I1.tok _, ⟨_, rfl⟩, q _ (Nat.le_trans (int_txt hz) (by decide))⟩
  | tup ht hl hb =>
    rename_i a ns
    cases r1
    obtain ⟨its, rv, ⟨o, ho, hcl, n, hd⟩, _⟩ := I1.tuple ht
    have hu := hr.units
    have hp := ints_piled ns hb
    have htx := fmt_text (ns.map fun i => PySem.Str.ofString (toString i))
    refine fmt_tuple (by omega) ho hcl hd (repr_ints rv hb) (by rw [sizeLine_eq]; omega) fun m u tk hm => ⟨.str m, H1, I1.tok _, ⟨u, rfl⟩, q m (by omega)⟩⟩
def spIni (C : Addr) (f : Str) (Fx : Hp → V → Prop) : Sp := fun vs H Q _ => ∃ (a : Addr) (y : V), vs = [.ref a, y] ∧ H a = some (exo a C none) ∧ Fx H y ∧ ∀ dx, H dx = none → dx ≠ a → Q .non (upd (upd H dx (exd dx [(f, y)])) a (exo a C (some dx)))
end Ec
set_option Elab.async false
set_option linter.all false
set_option maxRecDepth 100000
set_option maxHeartbeats 4000000
namespace Ec
open PySem PySem.Spec PyProof.Rows L2
section
variable {M : Model} {A : Around} {E : Value → Shared → Prop} {s : Shared}
end
section
variable {X : Cx} {a : Addr} {pn : List (Addr × Obj)} {σ : L2.St} {H : Hp} {s : Shared}
end
end Ec
set_option Elab.async false
set_option linter.all false
set_option maxRecDepth 100000
set_option maxHeartbeats 4000000
namespace Ec
open PySem PySem.Spec PyProof.Rows L2
structure Exn where
  C : Addr
  f : Str
  x : PyData
def ExOk (K : PySem.W.Frag) (F : Hp) (ex : Exn) (cls : Value) (d : Option Addr) : Prop := cls = .ref ex.C ∧ ∃ dd w, d = some dd ∧ F dd = some (.xd [(ex.f, w)]) ∧ De K F w ex.x
abbrev ErP := Exn → Dl → Cells → Prop
def ErB (K : PySem.W.Frag) (W : WX) (F H : Hp) (μ : Cells) (er : ErP) : Prop := ∀ ex cls d F' H' σ' δ' μ', Fw (ks μ) (ks μ') F H F' H' → Rp K F' H' σ' δ' μ' → ExOk K F' ex cls d → er ex δ' μ' → W cls d σ' H'
theorem ErB.next {K : PySem.W.Frag} {W : WX} {F H F' H' : Hp} {μ μ' : Cells} {er : ErP} (b : ErB K W F H μ er) (w : Fw (ks μ) (ks μ') F H F' H') : ErB K W F' H' μ' er := fun ex cls d F2 H2 σ2 δ2 μ2 w2 => b ex cls d F2 H2 σ2 δ2 μ2 (w.trans w2)
section
variable {X : Cx} {W : WX} {er : ErP} {δ : Dl} {μ : Cells} {e a b : Expr} {es : List Expr} {pos p : Pos} {Q : Vd → Cells → Prop} {D : Dn} {st : Stmt} {rest : List Stmt}
end
def ExcM (P : Program) (w : World) (K : PySem.W.Frag) (mg : Str → Option Value) (base : Heap) (k : Nat) (x f : Str) (C : Addr) : Prop :=
  ∃ (B newId initId : String) (bmB : List Value) (fI : Addr) (fd : FuncData) (ps : List Str), Bas B newId initId bmB ∧ Oxg K C newId bmB ∧ PySem.W.findIn K (.ref C) "__init__" = some (some (.ref fI)) ∧ PySem.W.typeIn K (.ref fI) = some (.type "function") ∧
    FnOk P w K mg base CX0 k fI fd ps (spIni C f (Fm K)) ∧ Binds K fd ps [] ∧ mg x = some (.ref C)
section
variable {X : Cx} {W : WX} {er : ErP} {δ : Dl} {μ : Cells} {e : Expr} {pos p pos' : Pos} {D : Dn}
end
section
variable {X : Cx} {W : WX} {er : ErP} {δ : Dl} {μ : Cells} {e E : Expr} {es : List Expr} {kws : List Keyword} {pos p : Pos} {Q : Vd → Cells → Prop}
end
section
variable {X : Cx} {W : WX} {er : ErP} {δ : Dl} {μ : Cells} {D : Dn} {n y : Str} {i j : Nat} {body : List Stmt} {t : Expr} {cs : List Value} {p1 p2 p3 hpos pos : Pos}
end
inductive ClsN (X : Cx) : Expr → V → Value → Prop
  | own {x : Str} {p : Pos} {C : Addr} (hg : Gl X x) (hm : X.mg x = some (.ref C)) (hd : (x == ("__debug__" : Str)) = false) : ClsN X (.Name x p) (.ref C) (.ref C)
  | blt {x : Str} {p : Pos} {T : String} (hg : Gl X x) (hm : X.mg x = none) (hv : bootBuiltins x = some (.type T)) (hn : x ≠ "__name__") (hd : (x == ("__debug__" : Str)) = false) : ClsN X (.Name x p) (.ty T) (.type T)
theorem ClsN.pe {X : Cx} {e : Expr} {c : V} {cv : Value} (h : ClsN X e c cv) : PE X e (tC c) := by
  cases h with
  | own hg hm hd => exact ⟨fun pins s σ H Q I q => ld_glob I hg hm ⟨.ref _, H, I, (rfl : _ = _), q⟩ hd⟩
  | blt hg hm hv hn hd => exact pe_bltn (v := .ty _) hg hm hv rfl hn hd
theorem ClsN.rel {X : Cx} {e : Expr} {c : V} {cv : Value} (h : ClsN X e c cv) {u : Value} (r : RelV c u) : u = cv := by
  cases h with
  | own hg hm hd => exact r
  | blt hg hm hv hn hd => exact r
inductive ClsA (X : Cx) : List Expr → List V → List Value → Prop
  | nil : ClsA X [] [] []
  | cons {e : Expr} {es : List Expr} {c : V} {cs : List V} {v : Value} {vs : List Value} (h : ClsN X e c v) (hs : starEach (e :: es) X.env = (false, eval e X.env) :: starEach es X.env) (r : ClsA X es cs vs) : ClsA X (e :: es) (c :: cs) (v :: vs)
def tCs : List V → TA
  | [] => tNil
  | c :: cs => tCons (tC c) (tCs cs)
theorem ClsA.pa {X : Cx} {es : List Expr} {cs : List V} {vs : List Value} (h : ClsA X es cs vs) : PA X es (tCs cs) := by
  induction h with
  | nil => exact pa_nil
  | cons h hs r ih => exact pa_cons h.pe ih hs
theorem ClsA.rel {X : Cx} {es : List Expr} {cs : List V} {vs : List Value} (h : ClsA X es cs vs) : ∀ us, Vals cs us → us = vs := by
  induction h with
  | nil =>
    intro us r
    cases r
    rfl
  | cons h hs r ih =>
    intro us q
    cases q with
    | cons q1 q2 => rw [h.rel q1, ih _ q2]
section
variable {X : Cx} {δ : Dl} {μ : Cells} {e : Expr} {pos p : Pos} {Q : Vd → Cells → Prop} {mg : Str → Option Value}
end
def clsS (st : Stmt) (j : Nat) : Stmt := match st with
  | .ClassDef _ _ _ body _ _ _ _ _ _ _ => body.getD j (.Pass ⟨0, 0, 0, 0⟩)
  | _ => .Pass ⟨0, 0, 0, 0⟩
def Txt (X : Cx) (e : Expr) (n : Nat) : Prop := ∃ t, PE X e t ∧ ∀ σ H Q v, σ[1]? = some (some v) → Fm X.K H v → (∀ m : Str, m.length ≤ n → Q (.str m) H) → t σ H Q
theorem txt_c {X : Cx} {x : Str} {j : Nat} {pos : Pos} (n : Nat) (h : x.length ≤ n) : Txt X (.Constant (.str x) j pos) n := ⟨_, pe_str, fun _ _ _ _ _ _ q => q x h⟩
theorem txt_v {X : Cx} {x : Str} {k : Nat} {pos p : Pos} (hr : Room k X.A) (hN : X.N[1]? = some x) (hv : Vis X.env.scope x) (hd : (x == ("__debug__" : Str)) = false) (hcd : (x == ("__classdict__" : Str)) = false) : Txt X (.FormattedValue (.Name x p) (-1) none pos) 2000000 :=
  ⟨_, pe_fmD hr (pe_var hN hv hd hcd), fun σ H Q v e f q => ⟨v, e, f, q⟩⟩
inductive Parts (X : Cx) : List Expr → Nat → Prop
  | nil : Parts X [] 0
  | cons {e : Expr} {es : List Expr} {n m : Nat} (h : Txt X e n) (r : Parts X es m) : Parts X (e :: es) (n + m)
theorem Parts.run {X : Cx} {es : List Expr} {n : Nat} (h : Parts X es n) : ∃ ts, PJ X es ts ∧ ∀ (acc : Str) σ H (Q : Str → Hp → Prop) v, σ[1]? = some (some v) → Fm X.K H v → acc.length + n ≤ sizeLine → (∀ out, Q out H) → tJs ts acc σ H Q := by
  induction h with
  | nil => exact ⟨[], .nil, fun acc σ H Q v _ _ _ q => q acc⟩
  | @cons e es n m h r ih =>
    obtain ⟨ts, h1, h2⟩ := ih
    obtain ⟨t, g1, g2⟩ := h
    refine ⟨t :: ts, .cons g1 h1, fun acc σ H Q v e1 e2 hz q => g2 σ H _ v e1 e2 fun y hy => ⟨y, rfl, ?_, h2 _ σ H Q v e1 e2 ?_ q⟩⟩
    · rw [strLen_append]
      omega
    · rw [strLen_append]
      omega
theorem ini_fn {P : Program} {w : World} {K : PySem.W.Frag} {mg : Str → Option Value} {base : Heap} {qual : Str} {st : Stmt} {f : Addr} {fd : FuncData} {k : Nat} {B newId initId : String} {bmB : List Value} {bx arg fld : Str} {C : Addr} {v1 v2 : Expr} {vs : List Expr} {p1 p2 p3 p4 p5 p6 p7 p8 p9 pj : Pos}
    (F : Fun K "__init__" qual st f fd) (S : FnScope ["self", arg] ["self", arg] (defScope st)) (Z : Bas B newId initId bmB) (T : Oxg K C newId bmB) (hno : PySem.W.findIn K (.ref C) fld = some none) (hm : mg bx = none) (hv : bootBuiltins bx = some (.type B))
    (vV : PySem.W.findCls K (.type B) (.type "type") "__init__" = some (.val (.builtin initId))) (hst : Manifest.isStub B = false) (hh : PySem.W.handedIn (.builtin initId) = true) (hn : bx ≠ "__name__") (hdb : (bx == ("__debug__" : Str)) = false)
    (hb : defBody st = [.Expr (.Call (.Attribute (.Name bx p1) "__init__" p2) [.Name "self" p3, .JoinedStr (v1 :: v2 :: vs) pj] [] p4) p5, .Assign [.Attribute (.Name "self" p6) fld p7] (.Name arg p8) p9])
    (h0 : (defScope st).names.lookup ("self" : Str) = some .local) (h1 : (defScope st).names.lookup arg = some .local) (ha1 : (arg == ("__debug__" : Str)) = false) (ha2 : (arg == ("__classdict__" : Str)) = false)
    (hg : ∀ X : Cx, X.env.scope = defScope st → Gl X bx) (pl : Cx → Sem Bool)
    (hc : ∀ X : Cx, X.env.scope = defScope st → eval (.Call (.Attribute (.Name bx p1) "__init__" p2) [.Name "self" p3, .JoinedStr (v1 :: v2 :: vs) pj] [] p4) X.env = (do
      let ov ← eval (.Name bx p1) X.env
      standAt p2.atName
      let (g, first) ← holding [ov] (getMethod ov "__init__" (pl X))
      callWith p4 g first (backTo p4 (starEach [.Name "self" p3, .JoinedStr (v1 :: v2 :: vs) pj] X.env)) (backToKw p4 (keywordEach [] X.env))))
    (hp : ∀ X : Cx, Room k X.A → X.N[1]? = some arg → X.env.scope = defScope st → ∃ n, Parts X (v1 :: v2 :: vs) n ∧ n ≤ 16000000)
    (q1 : ∀ X : Cx, X.env.scope = defScope st → swapsWith (.Call (.Attribute (.Name bx p1) "__init__" p2) [.Name "self" p3, .JoinedStr (v1 :: v2 :: vs) pj] [] p4) none p5.line X.env = pure false)
    (q2 : ∀ X : Cx, X.env.scope = defScope st → swapsWith (.Name arg p8) (some (.Attribute (.Name "self" p6) fld p7)) p9.line X.env = pure false) : FnOk P w K mg base CX0 (k + 1) f fd ["self", arg] (spIni C fld (Fm K)) := by
  refine F.ok S (fun vs H Q E h => ?_) fun cdv A outer s H vs' Q E hr h => ?_
  · obtain ⟨a, y, rfl, _⟩ := h
    rfl
  · obtain ⟨a, y, rfl, ea, hf, hq⟩ := h
    rw [hb]
    obtain ⟨n, hpn, hle⟩ := hp (cxOf CX0 P w K mg base ["self", arg] qual (defScope st) f cdv A outer s H E).nox hr rfl rfl
    obtain ⟨ts, hj, hrun⟩ := hpn.run
    refine ⟨_, pss_cons (ps_expr (pe_ini Z (hg _ rfl) hm hv vV hst hh hn hdb (pa_cons (pe_var (i := 0) rfl (.inl h0)) (pa_cons (pe_joined hj) pa_nil)) (hc _ rfl)) (q1 _ rfl)) (pss_one (ps_sto Z (pe_var (i := 0) rfl (.inl h0)) (pe_var (i := 1) rfl (.inl h1) ha1 ha2) (q2 _ rfl))), ?_⟩
    refine ⟨.ref a, rfl, hrun Str.empty _ H _ y rfl hf (by rw [sizeLine_eq]; exact Nat.le_trans (Nat.add_le_add_left hle _) (by decide)) fun out => ?_⟩
    refine ⟨a, C, [.str out], rfl, (by decide : 1 ≤ 1000), T, ea, ?_⟩
    exact ⟨y, rfl, .ref a, rfl, a, C, rfl, T, hno, ea, fun dx hdx ne => hq dx hdx ne⟩
end Ec
set_option Elab.async false
set_option linter.all false
set_option maxRecDepth 100000
set_option maxHeartbeats 4000000
namespace Ec
open PySem PySem.Spec PyProof.Rows L2
theorem Ps.len {c : Co} {t : List Int} (h : Ps c t) : t.length ≤ c.length := by
  have := nodup_le (h.up.imp fun z => by omega) (rng_nodup c.length) fun x m => mem_rng.mpr (h.rg x m)
  rwa [rng_len] at this
end Ec
set_option Elab.async false
set_option linter.all false
namespace Ec
open PySem PySem.Spec PyProof.Rows L2
def wn (c : Co) (p v : Int) : Co := c.set p.toNat ((c.getD p.toNat ([], 0)).1, v)
theorem wn_len (c : Co) (p v : Int) : (wn c p v).length = c.length := List.length_set
theorem wn_at {c : Co} {p : Int} (h0 : 0 ≤ p) (h1 : p < c.length) : c[p.toNat]? = some (c.getD p.toNat ([], 0)) := by
  have hl : p.toNat < c.length := by omega
  rw [List.getD_eq_getElem?_getD, List.getElem?_eq_getElem hl]
  rfl
theorem wn_mem {c : Co} {p : Int} (h0 : 0 ≤ p) (h1 : p < c.length) : c.getD p.toNat ([], 0) ∈ c := List.mem_of_getElem? (wn_at h0 h1)
theorem wn_fr {c : Co} {p v : Int} (h0 : 0 ≤ p) (h1 : p < c.length) (q : Int) : fr (wn c p v) q = fr c q := fr_set (wn_at h0 h1) q
theorem wn_nd {c : Co} {p v : Int} (h0 : 0 ≤ p) (h1 : p < c.length) (q : Int) : nd (wn c p v) q = if p.toNat = q.toNat then v else nd c q := nd_set (wn_at h0 h1) q
theorem wn_frs {c : Co} {p v : Int} (h0 : 0 ≤ p) (h1 : p < c.length) {n : Nat} (h : ∀ e ∈ c, e.1.length ≤ n) : ∀ e ∈ wn c p v, e.1.length ≤ n := fun e he => by
  rcases List.mem_or_eq_of_mem_set he with m | rfl
  · exact h e m
  · exact h (c.getD p.toNat ([], 0)) (wn_mem h0 h1)
theorem wn_cow {c : Co} {p v : Int} (h0 : 0 ≤ p) (h1 : p < c.length) (hv : 0 ≤ v) (hv2 : v ≤ 1000) (w : CoW c) : CoW (wn c p v) where
  up := fun e he => by
    rcases List.mem_or_eq_of_mem_set he with m | rfl
    · exact w.up e m
    · exact w.up (c.getD p.toNat ([], 0)) (wn_mem h0 h1)
  nn := fun e he => by
    rcases List.mem_or_eq_of_mem_set he with m | rfl
    · exact w.nn e m
    · exact hv
  nb := fun e he => by
    rcases List.mem_or_eq_of_mem_set he with m | rfl
    · exact w.nb e m
    · exact hv2
  lt := fun e he => by
    rw [wn_len]
    rcases List.mem_or_eq_of_mem_set he with m | rfl
    · exact w.lt e m
    · exact w.lt (c.getD p.toNat ([], 0)) (wn_mem h0 h1)
  no := fun i e he => by
    unfold wn at he
    by_cases hi : p.toNat = i
    · subst hi
      rw [List.getElem?_set_self (by omega)] at he
      cases he
      exact w.no p.toNat (c.getD p.toNat ([], 0)) (wn_at h0 h1)
    · rw [List.getElem?_set_ne hi] at he
      exact w.no i e he
def inv (c : Co) (t : List Int) : Co := t.foldl (fun c p => wn c p 0) c
theorem inv_len : ∀ (t : List Int) (c : Co), (inv c t).length = c.length
  | [], _ => rfl
  | p :: t, c => (inv_len t (wn c p 0)).trans (wn_len c p 0)
theorem inv_snoc (c : Co) (t : List Int) (p : Int) : inv c (t ++ [p]) = wn (inv c t) p 0 := by
  unfold inv
  rw [List.foldl_append]
  rfl
theorem inv_cow : ∀ (t : List Int) {c : Co}, Rg c.length t → CoW c → CoW (inv c t)
  | [], _, _, w => w
  | p :: t, c, hr, w => inv_cow t (c := wn c p 0) (fun x m => by rw [wn_len]; exact hr x (List.mem_cons_of_mem _ m)) (wn_cow (hr p List.mem_cons_self).1 (hr p List.mem_cons_self).2 (Int.le_refl 0) (by decide) w)
theorem inv_frs : ∀ (t : List Int) {c : Co} {n : Nat}, Rg c.length t → (∀ e ∈ c, e.1.length ≤ n) → ∀ e ∈ inv c t, e.1.length ≤ n
  | [], _, _, _, h => h
  | p :: t, c, n, hr, h => inv_frs t (c := wn c p 0) (fun x m => by rw [wn_len]; exact hr x (List.mem_cons_of_mem _ m)) (wn_frs (hr p List.mem_cons_self).1 (hr p List.mem_cons_self).2 h)
theorem inv_fr : ∀ (t : List Int) {c : Co}, Rg c.length t → ∀ q, fr (inv c t) q = fr c q
  | [], _, _, _ => rfl
  | p :: t, c, hr, q => (inv_fr t (c := wn c p 0) (fun x m => by rw [wn_len]; exact hr x (List.mem_cons_of_mem _ m)) q).trans (wn_fr (hr p List.mem_cons_self).1 (hr p List.mem_cons_self).2 q)
theorem inv_nd : ∀ (t : List Int) {c : Co}, Rg c.length t → ∀ q : Int, 0 ≤ q → nd (inv c t) q = if q ∈ t then 0 else nd c q
  | [], _, _, _, _ => by simp [inv]
  | p :: t, c, hr, q, hq => by
    have hp := hr p List.mem_cons_self
    have e := inv_nd t (c := wn c p 0) (fun x m => by rw [wn_len]; exact hr x (List.mem_cons_of_mem _ m)) q hq
    refine (show nd (inv c (p :: t)) q = nd (inv (wn c p 0) t) q from rfl).trans (e.trans ?_)
    rw [wn_nd hp.1 hp.2]
    by_cases h1 : q ∈ t
    · rw [if_pos h1, if_pos (List.mem_cons_of_mem _ h1)]
    · rw [if_neg h1]
      by_cases h2 : q = p
      · subst h2
        rw [if_pos rfl, if_pos List.mem_cons_self]
      · rw [if_neg (by omega), if_neg (by
          intro z
          rcases List.mem_cons.mp z with z | z
          · exact h2 z
          · exact h1 z)]
theorem Wid.refl (c : Co) : Wid c c := ⟨rfl, fun _ _ _ _ h => h, fun _ _ _ => Int.le_refl _⟩
theorem Wid.trans {a b c : Co} (h : Wid a b) (g : Wid b c) : Wid a c := ⟨g.len.trans h.len, fun p h0 h1 x m => g.fr p h0 (by rw [h.len]; exact h1) x (h.fr p h0 h1 x m), fun p h0 h1 => Int.le_trans (g.nd p h0 (by rw [h.len]; exact h1)) (h.nd p h0 h1)⟩
theorem nd_nn {c : Co} (w : CoW c) {p : Int} (h0 : 0 ≤ p) (h1 : p < c.length) : 0 ≤ nd c p := by
  unfold nd
  exact w.nn _ (List.mem_of_getElem? (wn_at h0 h1))
theorem inv_wid {c : Co} {t : List Int} (w : CoW c) (hr : Rg c.length t) : Wid c (inv c t) := ⟨inv_len t c, fun p _ _ x m => by rw [inv_fr t hr]; exact m, fun p h0 h1 => by
  rw [inv_nd t hr p h0]
  split
  · exact nd_nn w h0 h1
  · exact Int.le_refl _⟩
abbrev T_withn : TrD := fun xs μ R => ∃ (dc : PyData) (c : Co) (p v : Int), xs = [.d dc, .d (.int p), .d (.int v)] ∧ CoD dc c ∧ 0 ≤ p ∧ p < c.length ∧ R (.d (coD (wn c p v))) μ
abbrev T_inv : TrD := fun xs μ R => ∃ (dc : PyData) (c : Co) (dp : PyData) (t : List Int), xs = [.d dc, .d dp] ∧ CoD dc c ∧ SqD dp (intsD t) ∧ Rg c.length t ∧ R (.d (coD (inv c t))) μ
theorem coD_wn {c : Co} {k : Nat} {v : Int} (h : k < c.length) : (c.map enD).set k (.tuple [.tuple (intsD (c.getD k ([], 0)).1), .int v]) = (wn c (k : Int) v).map enD := by
  unfold wn
  rw [List.map_set]
  rfl
theorem atI_enD {c : Co} {k : Nat} (h : k < c.length) : atI (c.map enD) (k : Int) = some (enD (c.getD k ([], 0))) := atI_map _ h
def Esr (c c2 : Co) : Prop := ∀ (j : Nat) (e : List Int × Int), c2[j]? = some e → e.1.Sublist (rng c.length) ∧ (j : Int) ∉ e.1 ∧ (∀ x ∈ fr c (j : Int), x ∈ e.1) ∧ 0 ≤ e.2 ∧ e.2 ≤ nd c (j : Int)
theorem Esr.nil (c : Co) : Esr c [] := fun j e h => by simp at h
theorem Esr.add {c c2 : Co} {e : List Int × Int} (h : Esr c c2) (h1 : e.1.Sublist (rng c.length)) (h2 : (c2.length : Int) ∉ e.1) (h3 : ∀ x ∈ fr c (c2.length : Int), x ∈ e.1) (h4 : 0 ≤ e.2) (h5 : e.2 ≤ nd c (c2.length : Int)) : Esr c (c2 ++ [e]) := fun j x hj => by
  by_cases hl : j < c2.length
  · rw [List.getElem?_append_left hl] at hj
    exact h j x hj
  · rw [List.getElem?_append_right (by omega)] at hj
    have e0 : j - c2.length = 0 := by
      have := (List.getElem?_eq_some_iff.mp hj).1
      simp at this
      omega
    rw [e0] at hj
    cases hj
    have ej : j = c2.length := by omega
    subst ej
    exact ⟨h1, h2, h3, h4, h5⟩
theorem Esr.all {c c2 : Co} (w : CoW c) (h : Esr c c2) (hl : c2.length = c.length) : Wid c c2 ∧ CoW c2 := by
  have at_ : ∀ p : Int, 0 ≤ p → p < c.length → ∃ e, c2[p.toNat]? = some e ∧ fr c2 p = e.1 ∧ nd c2 p = e.2 ∧ ((p.toNat : Nat) : Int) = p := fun p h0 h1 => by
    have hi : p.toNat < c2.length := by omega
    refine ⟨c2[p.toNat], List.getElem?_eq_getElem hi, ?_, ?_, by omega⟩
    · unfold fr
      rw [List.getD_eq_getElem?_getD, List.getElem?_eq_getElem hi]
      rfl
    · unfold nd
      rw [List.getD_eq_getElem?_getD, List.getElem?_eq_getElem hi]
      rfl
  refine ⟨⟨hl, fun p h0 h1 x m => ?_, fun p h0 h1 => ?_⟩, CoP.whole fun j e hj => ?_⟩
  · obtain ⟨e, e1, e2, e3, e4⟩ := at_ p h0 h1
    rw [e2]
    exact (h _ e e1).2.2.1 x (by rw [e4]; exact m)
  · obtain ⟨e, e1, e2, e3, e4⟩ := at_ p h0 h1
    rw [e3]
    have := (h _ e e1).2.2.2.2
    rwa [e4] at this
  · obtain ⟨g1, g2, _, g4, g5⟩ := h j e hj
    have hj2 := (List.getElem?_eq_some_iff.mp hj).1
    have hnb := w.nb _ (wn_mem (c := c) (p := (j : Int)) (by omega) (by omega))
    rw [hl]
    exact ⟨g1, g2, g4, Int.le_trans g5 hnb⟩
theorem getI_put {k : Int} {d : PyData} {k' : Int} : ∀ {kvs : List (Int × PyData)}, getI (putI kvs k d) k' = if k' = k then some d else getI kvs k'
  | [] => by
    unfold putI getI
    by_cases e : k = k'
    · rw [if_pos e, if_pos e.symm]
    · rw [if_neg e, if_neg fun z => e z.symm]
      rfl
  | p :: r => by
    unfold putI
    by_cases e : p.1 = k
    · rw [if_pos e]
      unfold getI
      by_cases e2 : k = k'
      · rw [if_pos e2, if_pos e2.symm]
      · rw [if_neg e2, if_neg (fun z => e2 z.symm), if_neg (by rw [e]; exact e2)]
    · rw [if_neg e]
      unfold getI
      by_cases e2 : p.1 = k'
      · rw [if_pos e2, if_pos e2, if_neg (by rw [← e2]; exact e)]
      · rw [if_neg e2, if_neg e2, getI_put]
theorem getI_merge {v : PyData} {k' : Int} : ∀ (s : List Int) {kvs : List (Int × PyData)}, getI (mergeI kvs (s.map fun y => (y, v))) k' = if k' ∈ s then some v else getI kvs k'
  | [], _ => by simp [mergeI]
  | y :: s, kvs => by
    refine (show getI (mergeI kvs ((y :: s).map fun y => (y, v))) k' = getI (mergeI (putI kvs y v) (s.map fun y => (y, v))) k' from rfl).trans ?_
    rw [getI_merge s, getI_put]
    by_cases h1 : k' ∈ s
    · rw [if_pos h1, if_pos (List.mem_cons_of_mem _ h1)]
    · rw [if_neg h1]
      by_cases h2 : k' = y
      · rw [if_pos h2, if_pos (by rw [h2]; exact List.mem_cons_self)]
      · rw [if_neg h2, if_neg (by
          intro z
          rcases List.mem_cons.mp z with z | z
          · exact h2 z
          · exact h1 z)]
structure Rd (c : Co) (i : Nat) (kvs : List (Int × PyData)) : Prop where
  nd : ndI kvs
  key : ∀ x, x ∈ kvs.map Prod.fst ↔ x ∈ sof c i
  val : ∀ x d, getI kvs x = some d → ∃ (j : Nat) (s : List Int), j < i ∧ d = .int (j : Int) ∧ (AR c [] [])[j]? = some s ∧ x ∈ s
theorem Rd.zero (c : Co) : Rd c 0 [] := ⟨List.nodup_nil, fun x => by rw [sof_zero]; simp, fun x d h => by cases h⟩
theorem Rd.step {c : Co} {i : Nat} {kvs : List (Int × PyData)} {s : List Int} (h : Rd c i kvs) (hs : (AR c [] [])[i]? = some s) : Rd c (i + 1) (mergeI kvs (s.map fun y => (y, .int (i : Int)))) := by
  have hn := mergeI_nd (more := s.map fun y => (y, PyData.int (i : Int))) h.nd
  refine ⟨hn, fun x => ?_, fun x d hd => ?_⟩
  · rw [← sof_succ hs, mem_srt, List.mem_append]
    have k : x ∈ (mergeI kvs (s.map fun y => (y, PyData.int (i : Int)))).map Prod.fst ↔ getI (mergeI kvs (s.map fun y => (y, PyData.int (i : Int)))) x ≠ none :=
      ⟨fun m z => getI_none.mp z m, fun z => by
        by_cases e : x ∈ (mergeI kvs (s.map fun y => (y, PyData.int (i : Int)))).map Prod.fst
        · exact e
        · exact absurd (getI_none.mpr e) z⟩
    rw [k, getI_merge]
    by_cases e : x ∈ s
    · rw [if_pos e]
      simp [e]
    · rw [if_neg e]
      constructor
      · intro z
        refine .inl ((h.key x).mp ?_)
        by_cases e2 : x ∈ kvs.map Prod.fst
        · exact e2
        · exact absurd (getI_none.mpr e2) z
      · rintro (z | z)
        · intro q
          exact getI_none.mp q ((h.key x).mpr z)
        · exact absurd z e
  · rw [getI_merge] at hd
    by_cases e : x ∈ s
    · rw [if_pos e] at hd
      cases hd
      exact ⟨i, s, by omega, rfl, hs, e⟩
    · rw [if_neg e] at hd
      obtain ⟨j, t, h1, h2, h3, h4⟩ := h.val x d hd
      exact ⟨j, t, by omega, h2, h3, h4⟩
theorem sof_mono {c : Co} {x : Int} : ∀ {i j : Nat}, i ≤ j → x ∈ sof c i → x ∈ sof c j := fun {i j} h m => by
  unfold sof at *
  rw [mem_srt] at *
  have e : (AR c [] []).take j = (AR c [] []).take i ++ ((AR c [] []).take j).drop i := by
    have z := List.take_append_drop i ((AR c [] []).take j)
    rw [List.take_take, Nat.min_eq_left h] at z
    exact z.symm
  rw [e, List.flatten_append]
  exact List.mem_append_left _ m
theorem sof_big {c : Co} {i : Nat} (h : (AR c [] []).length ≤ i) : sof c i = gr c := by
  rw [← sof_all]
  unfold sof
  rw [List.take_of_length_le h, List.take_length]
theorem Wid.sof {c c' : Co} (h : Wid c c') (w : CoW c) (w' : CoW c') {x : Int} : ∀ i, x ∈ sof c i → x ∈ Ec.sof c' i
  | 0, m => by
    rw [sof_zero] at m
    cases m
  | i + 1, m => by
    have up : x ∈ Ec.sof c i → x ∈ Ec.sof c' (i + 1) := fun z => sof_mono (Nat.le_succ i) (Wid.sof h w w' i z)
    by_cases hi : i < (AR c [] []).length
    · have e := List.getElem?_eq_getElem hi
      rw [← sof_succ e, mem_srt, List.mem_append] at m
      rcases m with m | m
      · exact up m
      · rw [(AR_at e).1] at m
        obtain ⟨⟨h0, h1⟩, h2, h3⟩ := mem_nexts.mp m
        have hc := h.comes w w' (t := Ec.sof c i) (t' := Ec.sof c' i) (fun y my => Wid.sof h w w' i (x := y) my) h0 h1 h3
        by_cases hx : x ∈ Ec.sof c' i
        · exact sof_mono (Nat.le_succ i) hx
        · have hn : x ∈ Ec.nexts c' (Ec.sof c' i) := mem_nexts.mpr ⟨⟨h0, by rw [h.len]; exact h1⟩, hx, hc⟩
          by_cases hi' : i < (AR c' [] []).length
          · have e' := List.getElem?_eq_getElem hi'
            rw [← sof_succ e', mem_srt, List.mem_append]
            refine .inr ?_
            rw [(AR_at e').1]
            exact hn
          · rw [sof_big (by omega), nexts_gr] at hn
            cases hn
    · have e : Ec.sof c (i + 1) = Ec.sof c i := by rw [sof_big (by omega), sof_big (by omega)]
      rw [e] at m
      exact up m
theorem Wid.fo {c c' : Co} (h : Wid c c') (w : CoW c) (w' : CoW c') (hn : Ec.nev c = []) : ¬ (Ec.fo c < Ec.fo c') := List.not_lt.mpr (fo_le (h.nev w w' hn) (h.ord w w' (fo_ord hn)))
theorem Wid.la {c c' : Co} (h : Wid c c') (w : CoW c) (w' : CoW c') (hn : Ec.nev c = []) : ¬ (Ec.la c' < Ec.la c) := List.not_lt.mpr (le_la (h.nev w w' hn) (h.ord w w' (la_ord hn)))
end Ec
set_option Elab.async false
set_option linter.all false
set_option maxRecDepth 100000
set_option maxHeartbeats 4000000
namespace Ec
open PySem PySem.Spec PyProof.Rows L2
inductive RefA (X : Cx) : List Expr → List Addr → Prop
  | nil : RefA X [] []
  | cons {x : Str} {p : Pos} {a : Addr} {es : List Expr} {as : List Addr} (hg : Gl X x) (hm : X.mg x = some (.ref a)) (hd : (x == ("__debug__" : Str)) = false) (hs : starEach (.Name x p :: es) X.env = (false, eval (.Name x p) X.env) :: starEach es X.env) (r : RefA X es as) : RefA X (.Name x p :: es) (a :: as)
theorem pe_ref {X : Cx} {x : Str} {p : Pos} {a : Addr} (hg : Gl X x) (hm : X.mg x = some (.ref a)) (hd : (x == ("__debug__" : Str)) = false) : PE X (.Name x p) (tC (.ref a)) :=
  ⟨fun pins s σ H Q I q => ld_glob I hg hm ⟨.ref _, H, I, (rfl : _ = _), q⟩ hd⟩
theorem RefA.pa {X : Cx} {es : List Expr} {as : List Addr} (h : RefA X es as) : PA X es (tCs (as.map V.ref)) := by
  induction h with
  | nil => exact pa_nil
  | cons hg hm hd hs r ih => exact pa_cons (pe_ref hg hm hd) ih hs
section
variable {X : Cx} {W : WX} {er : ErP} {δ : Dl} {μ : Cells} {e ix : Expr} {es fs : List Expr} {pos p1 p2 : Pos}
end
end Ec
set_option Elab.async false
set_option linter.all false
set_option maxRecDepth 100000
set_option maxHeartbeats 4000000
namespace Ec
open PySem PySem.Spec PyProof.Rows L2
def tieN (c : Co) (i : Nat) : List (Int × Int) := ((rng c.length).take i).flatMap fun p => (bh c p).map fun o => (p, o)
def frN (c : Co) (i : Nat) : List (Int × Int) := ((rng c.length).take i).flatMap fun lo => (((rng c.length).filter fun h => decide (lo < h)).filter fun h => !decide ((lo, h) ∈ mb c) && !decide ((h, lo) ∈ mb c)).map fun h => (lo, h)
theorem tieN_all (c : Co) : tieN c c.length = mb c := by
  unfold tieN
  rw [List.take_of_length_le (by rw [rng_len]; exact Nat.le_refl _)]
  rfl
theorem filter_flatMap' {α β : Type} (f : α → List β) (p : β → Bool) : ∀ l : List α, (l.flatMap f).filter p = l.flatMap fun x => (f x).filter p
  | [] => rfl
  | x :: l => by
    rw [List.flatMap_cons, List.flatMap_cons, List.filter_append, filter_flatMap' f p l]
theorem frN_all (c : Co) : frN c c.length = fp c := by
  unfold frN fp prs
  rw [List.take_of_length_le (by rw [rng_len]; exact Nat.le_refl _), filter_flatMap']
  congr 1
  funext lo
  rw [List.filter_map]
  rfl
theorem tieN_len (c : Co) (i : Nat) (hl : c.length ≤ 20) : (tieN c i).length ≤ 400 := by
  have h := flat_le (fun p => (bh c p).map fun o => (p, o)) c.length ((rng c.length).take i) fun x _ => by
    rw [List.length_map]
    exact bh_le c x
  rw [List.length_take, rng_len] at h
  exact Nat.le_trans h (Nat.mul_le_mul (Nat.le_trans (Nat.min_le_right _ _) hl) hl)
theorem frN_len (c : Co) (i : Nat) (hl : c.length ≤ 20) : (frN c i).length ≤ 400 := by
  have h := flat_le (fun lo => (((rng c.length).filter fun h => decide (lo < h)).filter fun h => !decide ((lo, h) ∈ mb c) && !decide ((h, lo) ∈ mb c)).map fun h => (lo, h)) c.length ((rng c.length).take i) fun x _ => by
    rw [List.length_map]
    exact Nat.le_trans (List.length_filter_le _ _) (Nat.le_trans (List.length_filter_le _ _) (by rw [rng_len]; exact Nat.le_refl _))
  rw [List.length_take, rng_len] at h
  exact Nat.le_trans h (Nat.mul_le_mul (Nat.le_trans (Nat.min_le_right _ _) hl) hl)
end Ec
set_option Elab.async false
set_option linter.all false
set_option maxRecDepth 100000
set_option maxHeartbeats 4000000
namespace Ec
open PySem PySem.Spec PyProof.Rows L2
theorem misV_some {c : Co} {r : List Int} (h : misL c r ≠ []) : ∃ i : Nat, misV c r = .int (i : Int) ∧ i < r.length := by
  unfold misV
  cases e : misL c r with
  | nil => exact absurd e h
  | cons i t =>
    refine ⟨i, rfl, ?_⟩
    have : i ∈ misL c r := by rw [e]; exact List.mem_cons_self
    unfold misL at this
    exact List.mem_range.mp (List.mem_filter.mp this).1
theorem misV_empty {c : Co} {r : List Int} (h : misL c r = []) : misV c r = .none := by unfold misV; rw [h]
def Mate (c c2 : Co) : Prop := ∀ (j : Nat) (e : List Int × Int), c2[j]? = some e → ∃ e', c[j]? = some e' ∧ e.1 = e'.1 ∧ 0 ≤ e.2 ∧ e.2 ≤ 1000
theorem Mate.nil (c : Co) : Mate c [] := fun j e h => by simp at h
theorem Mate.add {c c2 : Co} {x : List Int × Int} {v : Int} (h : Mate c c2) (hx : c[c2.length]? = some x) (hv : 0 ≤ v) (hv2 : v ≤ 1000) : Mate c (c2 ++ [(x.1, v)]) := fun j e hj => by
  by_cases hl : j < c2.length
  · rw [List.getElem?_append_left hl] at hj
    exact h j e hj
  · rw [List.getElem?_append_right (by omega)] at hj
    have hz : j - c2.length = 0 := by
      have := (List.getElem?_eq_some_iff.mp hj).1
      simp at this
      omega
    have hj2 : j = c2.length := by omega
    rw [hz] at hj
    cases hj
    subst hj2
    exact ⟨x, hx, rfl, hv, hv2⟩
theorem Mate.cow {c c2 : Co} (h : Mate c c2) (hl : c2.length = c.length) (w : CoW c) : CoW c2 where
  up := fun e he => by
    obtain ⟨j, hj⟩ := List.mem_iff_getElem?.mp he
    obtain ⟨e', h1, h2, _⟩ := h j e hj
    rw [h2]
    exact w.up e' (List.mem_of_getElem? h1)
  nn := fun e he => by
    obtain ⟨j, hj⟩ := List.mem_iff_getElem?.mp he
    exact (h j e hj).choose_spec.2.2.1
  nb := fun e he => by
    obtain ⟨j, hj⟩ := List.mem_iff_getElem?.mp he
    exact (h j e hj).choose_spec.2.2.2
  lt := fun e he => by
    obtain ⟨j, hj⟩ := List.mem_iff_getElem?.mp he
    obtain ⟨e', h1, h2, _⟩ := h j e hj
    rw [h2, hl]
    exact w.lt e' (List.mem_of_getElem? h1)
  no := fun j e hj => by
    obtain ⟨e', h1, h2, _⟩ := h j e hj
    rw [h2]
    exact w.no j e' h1
end Ec
set_option Elab.async false
set_option linter.all false
set_option maxRecDepth 100000
set_option maxHeartbeats 4000000
namespace Ec
open PySem PySem.Spec PyProof.Rows L2
theorem shownAll_map : ∀ ds : List PyData, PyData.shownAll ds = ds.map PyData.shown
  | [] => by simp only [PyData.shownAll, List.map_nil]
  | d :: ds => by simp only [PyData.shownAll, List.map_cons, shownAll_map ds]
theorem showableAll_of : ∀ {ds : List PyData}, (∀ d ∈ ds, d.showable = true) → PyData.showableAll ds = true
  | [], _ => by simp only [PyData.showableAll]
  | d :: ds, h => by
    simp only [PyData.showableAll, Bool.and_eq_true]
    exact ⟨h d List.mem_cons_self, showableAll_of fun x m => h x (List.mem_cons_of_mem _ m)⟩
theorem hasDictAll_of : ∀ {ds : List PyData}, (∀ d ∈ ds, d.hasDict = false) → PyData.hasDictAll ds = false
  | [], _ => by simp only [PyData.hasDictAll]
  | d :: ds, h => by
    simp only [PyData.hasDictAll, Bool.or_eq_false_iff]
    exact ⟨h d List.mem_cons_self, hasDictAll_of fun x m => h x (List.mem_cons_of_mem _ m)⟩
theorem depthAll_of {n : Nat} : ∀ {ds : List PyData}, (∀ d ∈ ds, d.depth ≤ n) → PyData.depthAll ds ≤ n
  | [], _ => by simp only [PyData.depthAll]; exact Nat.zero_le _
  | d :: ds, h => by
    simp only [PyData.depthAll]
    exact Nat.max_le.mpr ⟨h d List.mem_cons_self, depthAll_of fun x m => h x (List.mem_cons_of_mem _ m)⟩
structure Shw (n k : Nat) (d : PyData) : Prop where
  sh : d.showable = true
  nd : d.hasDict = false
  dp : d.depth ≤ k
  ln : d.shown.length ≤ n
theorem Shw.mono {n m k : Nat} {d : PyData} (h : Shw n k d) (l : n ≤ m) : Shw m k d := ⟨h.sh, h.nd, h.dp, Nat.le_trans h.ln l⟩
theorem Shw.int {i : Int} (h : i.natAbs < 10 ^ 9) : Shw 10 0 (.int i) := by
  refine ⟨?_, by simp only [PyData.hasDict], by simp only [PyData.depth]; exact Nat.le_refl _, ?_⟩
  · simp only [PyData.showable]
    refine decide_eq_true ?_
    by_cases h0 : i.natAbs = 0
    · rw [h0]
      decide
    · exact (Nat.log2_lt h0).mpr (Nat.lt_of_lt_of_le h (Nat.le_trans (by decide : 10 ^ 9 ≤ 2 ^ 100) (Nat.pow_le_pow_right (by decide) (by decide))))
  · simp only [PyData.shown]
    have e := int_text_length_le10 (k := 9) (by decide) h
    refine Nat.le_trans ?_ e
    show (Str.ofString (toString i)).length ≤ _
    rw [PySem.ofString_length]
    exact Nat.le_refl _
theorem sum_le {n : Nat} : ∀ {l : List Nat}, (∀ x ∈ l, x ≤ n) → l.sum ≤ l.length * n
  | [], _ => by simp
  | x :: l, h => by
    have h1 := h x List.mem_cons_self
    have h2 := sum_le (n := n) (l := l) fun y m => h y (List.mem_cons_of_mem _ m)
    rw [List.sum_cons, List.length_cons, Nat.succ_mul]
    omega
theorem shown_sum {n k : Nat} {ds : List PyData} (h : ∀ d ∈ ds, Shw n k d) : ((PyData.shownAll ds).map (·.length)).sum + 2 * (PyData.shownAll ds).length + 3 ≤ ds.length * (n + 2) + 3 := by
  rw [shownAll_map, List.map_map]
  have := sum_le (n := n) (l := ds.map ((fun t : Str => t.length) ∘ PyData.shown)) fun x m => by
    obtain ⟨d, hd, rfl⟩ := List.mem_map.mp m
    exact (h d hd).ln
  rw [List.length_map] at this ⊢
  rw [Nat.mul_add]
  omega
theorem Shw.tup {n k : Nat} {ds : List PyData} (h : ∀ d ∈ ds, Shw n k d) : Shw (ds.length * (n + 2) + 3) (k + 1) (.tuple ds) := by
  refine ⟨?_, ?_, ?_, ?_⟩
  · simp only [PyData.showable]
    exact showableAll_of fun d m => (h d m).sh
  · simp only [PyData.hasDict]
    exact hasDictAll_of fun d m => (h d m).nd
  · have := depthAll_of fun d m => (h d m).dp
    simp only [PyData.depth]
    omega
  · simp only [PyData.shown]
    exact Nat.le_trans (tupleText_len_le _) (shown_sum h)
theorem Shw.lst {n k : Nat} {ds : List PyData} (h : ∀ d ∈ ds, Shw n k d) : Shw (ds.length * (n + 2) + 3) (k + 1) (.list ds) := by
  refine ⟨?_, ?_, ?_, ?_⟩
  · simp only [PyData.showable]
    exact showableAll_of fun d m => (h d m).sh
  · simp only [PyData.hasDict]
    exact hasDictAll_of fun d m => (h d m).nd
  · have := depthAll_of fun d m => (h d m).dp
    simp only [PyData.depth]
    omega
  · simp only [PyData.shown]
    exact Nat.le_trans (listText_len_le _) (shown_sum h)
theorem Shw.up {n k j : Nat} {d : PyData} (h : Shw n k d) (l : k ≤ j) : Shw n j d := ⟨h.sh, h.nd, Nat.le_trans h.dp l, h.ln⟩
theorem CoW.shw {c : Co} (w : CoW c) (hl : c.length ≤ 40) (hf : ∀ e ∈ c, e.1.length ≤ 1000) : Shw 1000000 3 (coD c) := by
  have he : ∀ e ∈ c, Shw 24013 2 (enD e) := fun e m => by
    have h1 : Shw 12003 1 (.tuple (intsD e.1)) := (Shw.tup (n := 10) (k := 0) fun d hd => by
      obtain ⟨i, hi, rfl⟩ := List.mem_map.mp hd
      have := w.lt e m i hi
      exact Shw.int (Nat.lt_of_le_of_lt (by omega : i.natAbs ≤ 1000) (by decide))).mono (by
        have := hf e m
        rw [List.length_map]
        omega)
    have h2 : Shw 12003 1 (.int e.2) := ((Shw.int (Nat.lt_of_le_of_lt (by
      have := w.nn e m
      have := w.nb e m
      omega : e.2.natAbs ≤ 1000) (by decide))).mono (by decide)).up (by decide)
    refine Shw.tup (n := 12003) (k := 1) (ds := [.tuple (intsD e.1), .int e.2]) fun d hd => ?_
    simp only [List.mem_cons, List.mem_nil_iff, or_false] at hd
    rcases hd with rfl | rfl
    · exact h1
    · exact h2
  refine (Shw.tup (n := 24013) (k := 2) (ds := c.map enD) fun d hd => ?_).mono ?_
  · obtain ⟨e, m, rfl⟩ := List.mem_map.mp hd
    exact he e m
  · rw [List.length_map]
    omega
section
variable {K : PySem.W.Frag} {μ : Cells} {Q : Vd → Cells → Prop} {a b : Str}
theorem ow_eqS (h : Q (.d (.bool (decide (a = b)))) μ) : OpW K rEq (.d (.str a)) (.d (.str b)) μ Q := fun F H v u m o1 o2 QV c => by
  have e1 := dp_str o1
  have e2 := dp_str o2
  subst e1 e2
  refine ⟨rfl, c (.d (.bool _)) _ F H μ Fw.refl m ?_ h⟩
  rw [show decide (V.str a = V.str b) = decide (a = b) by rw [decide_eq_decide]; exact ⟨fun z => V.str.inj z, fun z => by rw [z]⟩]
  exact .bl _
theorem ow_neS (h : Q (.d (.bool (!decide (a = b)))) μ) : OpW K rNe (.d (.str a)) (.d (.str b)) μ Q := fun F H v u m o1 o2 QV c => by
  have e1 := dp_str o1
  have e2 := dp_str o2
  subst e1 e2
  refine ⟨rfl, c (.d (.bool _)) _ F H μ Fw.refl m ?_ h⟩
  rw [show decide (V.str a = V.str b) = decide (a = b) by rw [decide_eq_decide]; exact ⟨fun z => V.str.inj z, fun z => by rw [z]⟩]
  exact .bl _
end
end Ec
set_option Elab.async false
set_option linter.all false
set_option maxRecDepth 100000
set_option maxHeartbeats 4000000
namespace Ec
open PySem PySem.Spec PyProof.Rows L2
end Ec
set_option Elab.async false
set_option linter.all false
set_option maxRecDepth 100000
set_option maxHeartbeats 4000000
namespace Ec
open PySem PySem.Spec PyProof.Rows L2
def stepP (c : Co) (s : List Int) : List (List Int) := (((rng c.length).filter fun p => !decide (p ∈ s)).filter fun p => comes c s p).map fun p => s ++ [p]
def allP (c : Co) : Nat → List (List Int)
  | 0 => [[]]
  | k + 1 => (allP c k).flatMap (stepP c)
theorem POrd.init {c : Co} {r : List Int} {x : Int} (h : POrd c (r ++ [x])) : POrd c r ∧ 0 ≤ x ∧ x < c.length ∧ x ∉ r ∧ comes c r x = true := by
  have h1 := h.take r.length
  rw [List.take_left] at h1
  have hx := h.rg x (by simp)
  have hn := (List.nodup_append.mp h.nd).2.2
  refine ⟨h1, hx.1, hx.2, fun m => hn x m x (by simp) rfl, ?_⟩
  have := h.ok r.length x (by simp)
  rwa [List.take_left] at this
theorem mem_allP {c : Co} : ∀ {k : Nat} {r : List Int}, r ∈ allP c k ↔ POrd c r ∧ r.length = k
  | 0, r => by
    unfold allP
    constructor
    · intro h
      cases List.mem_singleton.mp h
      exact ⟨POrd.nil c, rfl⟩
    · rintro ⟨_, h⟩
      rw [List.length_eq_zero_iff.mp h]
      exact List.mem_singleton_self _
  | k + 1, r => by
    unfold allP
    rw [List.mem_flatMap]
    constructor
    · rintro ⟨s, hs, hr⟩
      obtain ⟨h1, h2⟩ := mem_allP.mp hs
      unfold stepP at hr
      obtain ⟨p, hp, rfl⟩ := List.mem_map.mp hr
      obtain ⟨hp1, hp2⟩ := List.mem_filter.mp hp
      obtain ⟨hp3, hp4⟩ := List.mem_filter.mp hp1
      obtain ⟨g0, g1⟩ := mem_rng.mp hp3
      exact ⟨h1.add g0 g1 (by simpa using hp4) hp2, by rw [List.length_append, h2]; rfl⟩
    · rintro ⟨h, hl⟩
      rcases List.eq_nil_or_concat r with rfl | ⟨s, x, rfl⟩
      · simp at hl
      · rw [List.concat_eq_append] at h hl ⊢
        obtain ⟨h1, h2, h3, h4, h5⟩ := h.init
        rw [List.length_append, List.length_singleton] at hl
        refine ⟨s, mem_allP.mpr ⟨h1, by omega⟩, ?_⟩
        unfold stepP
        exact List.mem_map.mpr ⟨x, List.mem_filter.mpr ⟨List.mem_filter.mpr ⟨mem_rng.mpr ⟨h2, h3⟩, by simpa using h4⟩, h5⟩, rfl⟩
theorem flatI_le {α β : Type} (f : α → List β) (n : Nat) : ∀ l : List α, (∀ x ∈ l, (f x).length ≤ n) → (l.flatMap f).length ≤ l.length * n
  | [], _ => by simp
  | x :: l, h => by
    have h1 := h x List.mem_cons_self
    have h2 := flatI_le f n l fun y m => h y (List.mem_cons_of_mem _ m)
    rw [List.flatMap_cons, List.length_append, List.length_cons, Nat.succ_mul]
    omega
theorem mem_all {c : Co} {r : List Int} : r ∈ allP c c.length ↔ IsOrd c r := by
  rw [mem_allP]
  exact ⟨fun h => ⟨h.1, h.2⟩, fun h => ⟨h.po, h.len⟩⟩
theorem step_take {c : Co} {k j : Nat} {s : List Int} (h : (allP c k)[j]? = some s) : ((allP c k).take (j + 1)).flatMap (stepP c) = ((allP c k).take j).flatMap (stepP c) ++ stepP c s := by
  rw [List.take_add_one, h, List.flatMap_append]
  simp
theorem we_lendE {X : Cx} {δ : Dl} {μ : Cells} {Q : Vd → Cells → Prop} {e : Expr} (δ' : Dl) (hl : δ'.length = δ.length) (hv : ∀ (i : Nat) (y : Vd), δ'[i]? = some (some y) → δ[i]? = some (some y) ∨ ∃ p d, y = .d d ∧ δ[i]? = some (some (.a p)) ∧ LView μ p d)
    (h : WE X e δ' [] fun z μ' => noLv z = true ∧ (∀ y ∈ μ', noLc y.2 = true) ∧ Q z (μ' ++ μ)) : WE X e δ μ Q := fun F H σ R QV kk => by
  obtain ⟨sf, sh, hc⟩ := R.m.all
  have hG : ∀ b ∈ ks μ, allF F H (ks μ) b = H b := fun b hb => if_pos hb
  have m0 : RpM X.K (allF F H (ks μ)) H [] := ⟨sh, List.nodup_nil, fun _ _ z => by cases z⟩
  have R0 : Rp X.K (allF F H (ks μ)) H σ δ' [] := ⟨m0, by rw [hl]; exact R.len, fun i y hy => by
    rcases hv i y hy with h1 | ⟨p, d, rfl, h1, h2⟩
    · obtain ⟨v, g1, g2⟩ := R.env i y h1
      exact ⟨v, g1, g2.up sf⟩
    · obtain ⟨v, g1, g2⟩ := R.env i _ h1
      have ev : v = .ref p := g2
      subst ev
      exact ⟨_, g1, lview_gen R.m sf hG h2⟩⟩
  refine h _ H σ R0 QV fun v z F2 H2 μ2 w2 R2 o2 q2 => ?_
  have m2 := R2.m
  obtain ⟨q2, q3, q4⟩ := q2
  have f2 : ∀ b ∈ ks μ, ∃ o, F2 b = some o ∧ Own o := fun b hb => by
    obtain ⟨_, us, e, ow⟩ := hc b hb
    exact ⟨us, w2.f b _ e, ow⟩
  have f12 : Same F (cutS F2 (ks μ)) := fun b o hb => by
    rw [cutS_ne fun z => by rw [(hc b z).1] at hb; cases hb]
    exact w2.f b o (sf b o hb)
  have live : ∀ b ∈ ks μ, H b ≠ none := fun b hb z => by
    obtain ⟨_, us, e, _⟩ := hc b hb
    rw [hG b hb, z] at e
    cases e
  have fresh : ∀ b ∈ ks μ2, H b = none := fun b hb => (w2.s b hb).elim (fun z => by cases z) id
  have W : Fw (ks μ) (ks (μ2 ++ μ)) F H (cutS F2 (ks μ)) H2 := by
    refine ⟨f12, fun b o hb _ => w2.k b o hb (by simp), fun b hb hb2 nb => ?_, fun b hb => ?_⟩
    · rw [cutS_ne nb]
      exact w2.c b (by unfold allF; rw [if_neg nb]; exact hb) hb2 (by simp)
    · rw [ks_app] at hb
      rcases List.mem_append.mp hb with hb | hb
      · exact .inr (fresh b hb)
      · exact .inl hb
  have M : RpM X.K (cutS F2 (ks μ)) H2 (μ2 ++ μ) := by
    refine ⟨same_cutS.trans m2.ex, ?_, fun b fs hb => ?_⟩
    · rw [ks_app]
      refine List.nodup_append.mpr ⟨m2.nd, R.m.nd, fun x mx y my e' => ?_⟩
      subst e'
      exact live x my (fresh x mx)
    · rcases List.mem_append.mp hb with hb | hb
      · have nb : b ∉ ks μ := fun z => live b z (fresh b (List.mem_map.mpr ⟨_, hb, rfl⟩))
        have hn := q3 _ hb
        cases fs with
        | l fs =>
          obtain ⟨g1, ws, g2, g3⟩ := m2.cel b _ hb
          exact ⟨by rw [cutS_ne nb]; exact g1, ws, g2, .of (dps_cutS f2 _ _ hn (g3.to (noLs_pl hn)))⟩
        | i _ => cases hn
        | t _ => cases hn
        | o _ _ => cases hn
      · obtain ⟨g1, g2⟩ := R.m.cel b fs hb
        exact ⟨if_pos (List.mem_map.mpr ⟨_, hb, rfl⟩), g2.to f12 fun o e => w2.k b o e (by simp)⟩
  refine kk v z (cutS F2 (ks μ)) H2 (μ2 ++ μ) W (R.to f12 M) ?_ q4
  cases z with
  | d x => exact dp_cutS f2 x v q2 o2
  | a r => exact o2
  | w es => cases q2
  | s es => cases q2
  | k _ _ => cases q2
  | e _ _ _ _ => cases q2
  | z _ _ => cases q2
  | q _ _ => cases q2
  | m _ _ _ => cases q2
theorem we_lendS {X : Cx} {δ : Dl} {μ : Cells} {Q : Vd → Cells → Prop} {e : Expr} (k : Nat) {p : Addr} {d : PyData} (hk : δ[k]? = some (some (.a p))) (lv : LView μ p d) (h : WE X e (δ.set k (some (.d d))) [] fun z μ' => noLv z = true ∧ (∀ y ∈ μ', noLc y.2 = true) ∧ Q z (μ' ++ μ)) : WE X e δ μ Q :=
  we_lendE _ (List.length_set ..) (fun i y hy => by
    by_cases e : k = i
    · subst e
      rw [List.getElem?_set_self (List.getElem?_eq_some_iff.mp hk).1] at hy
      cases hy
      exact .inr ⟨p, d, rfl, hk, lv⟩
    · rw [List.getElem?_set_ne e] at hy
      exact .inl hy) h
end Ec
set_option Elab.async false
set_option linter.all false
set_option maxRecDepth 100000
set_option maxHeartbeats 4000000
namespace Ec
open PySem PySem.Spec PyProof.Rows L2
end Ec
set_option Elab.async false
set_option linter.all false
set_option maxRecDepth 100000
set_option maxHeartbeats 4000000
namespace Ec
open PySem PySem.Spec PyProof.Rows L2
theorem RpM.seqC {K : PySem.W.Frag} {F H : Hp} {μ : Cells} {p : Addr} {ds : List PyData} (m : RpM K F H μ) (hm : (p, Cont.l ds) ∈ μ) (hq : plS ds) : ∃ vs, SqL K H p vs ∧ DeAll K F vs ds := by
  obtain ⟨_, vs, e1, e2⟩ := m.cel p _ hm
  exact ⟨vs, .of e1, e2.to hq⟩
theorem ws_forC {X : Cx} {δ : Dl} {μ : Cells} {D : Dn} {pos pn : Pos} {tg : Expr} {body : List Stmt} {x : Str} {p : Addr} {ds : List PyData} (is : List Nat) (k : Nat) (hp : PassesOwn (model X.prog X.w) X.A X.env X.xe) (hc : X.calm = true)
    (hN : X.N[k]? = some x) (hv : Vis X.env.scope x) (hδ : δ[k]? = some (some (.a p))) (hq : plS ds) (hm : (p, Cont.l ds) ∈ μ)
    (h : ∃ I : Nat → Dl → Cells → Prop, I 0 δ μ ∧ (∀ i δ' μ', I i δ' μ' → (p, Cont.l ds) ∈ μ') ∧ (∀ i d δ' μ', ds[i]? = some d → I i δ' μ' → WGo X is tg (.d d) δ' μ' fun δ2 μ2 => WB X body δ2 μ2 { nx := I (i + 1), rt := D.rt, bk := D.nx, ct := I (i + 1) }) ∧ ∀ δ' μ', I ds.length δ' μ' → D.nx δ' μ')
    (hd : (x == ("__debug__" : Str)) = false := by decide) (hcd : (x == ("__classdict__" : Str)) = false := by decide)
    (hs : ∀ y, foldedSetIterable (.Name x pn) X.env y = pure y := by intro _; rfl) : WS X (.For tg (.Name x pn) body [] pos) δ μ D := fun F H σ R De b =>
  toS (ps_for hp hc (pcI X tg (.Name x pn)) (pcG X tg) (pcB X body) hs) (toI (pi_seqS (pcE X _)) ((we_name (Q := fun y μ1 => y = .a p ∧ μ1 = μ) k hN hv hδ ⟨rfl, rfl⟩ hd hcd) F H σ R _ fun v y F1 H1 μ1 w1 R1 o1 q => by
    obtain ⟨rfl, rfl⟩ := q
    have ev : v = .ref p := o1
    subst ev
    obtain ⟨I, h0, hin, hturn, hend⟩ := h
    obtain ⟨vs, s0, d0⟩ := R1.m.seqC hm hq
    refine ⟨p, vs, rfl, .inl ⟨s0, ?_⟩⟩
    refine ⟨fun i m σ' H' => m = ds.length - i ∧ i ≤ ds.length ∧ ∃ F' δ' μ', Fw (ks μ1) (ks μ') F1 H1 F' H' ∧ Rp X.K F' H' σ' δ' μ' ∧ I i δ' μ', ⟨_, rfl, Nat.zero_le _, F1, δ, μ1, Fw.refl, R1, h0⟩, ?_⟩
    rintro i m σ' H' ⟨rfl, hi, F', δ', μ', w', R', hI⟩
    obtain ⟨vs', s1, d1⟩ := R'.m.seqC (hin _ _ _ hI) hq
    by_cases hlt : i < ds.length
    · refine .inr ⟨⟨vs', vs'[i]'(by rw [dps_len d1]; exact hlt), s1, List.getElem?_eq_getElem _⟩, _, fun _ _ z => z, fun x H2 y => ?_⟩
      obtain ⟨rfl, y⟩ := y
      obtain ⟨v, e1, e2⟩ := dps_get d1 (List.getElem?_eq_getElem hlt)
      have : v = x := Option.some.inj (e1.symm.trans (y vs' s1))
      subst this
      refine hturn i _ δ' μ' (List.getElem?_eq_getElem hlt) hI F' H2 σ' R' v e2 _ fun F3 H3 σ3 δ3 μ3 w3 R3 _ q3 => ?_
      have wa := w'.trans w3
      have back : ∀ F4 H4 σ4 δ4 μ4, Fw (ks μ3) (ks μ4) F3 H3 F4 H4 → Rp X.K F4 H4 σ4 δ4 μ4 → I (i + 1) δ4 μ4 → ∃ m', m' < ds.length - i ∧ (m' = ds.length - (i + 1) ∧ i + 1 ≤ ds.length ∧ ∃ F' δ' μ', Fw (ks μ1) (ks μ') F1 H1 F' H4 ∧ Rp X.K F' H4 σ4 δ' μ' ∧ I (i + 1) δ' μ') :=
        fun F4 H4 σ4 δ4 μ4 w4 R4 q4 => ⟨_, by omega, rfl, hlt, F4, δ4, μ4, wa.trans w4, R4, q4⟩
      have bb := (b.next w1).next wa
      exact q3 F3 H3 σ3 R3 _ ⟨back, bb.rt, bb.nx, back⟩
    · have e : i = ds.length := by omega
      subst e
      exact .inl ⟨⟨vs', s1, Nat.le_of_eq (dps_len d1)⟩, b.nx F' H' σ' δ' μ' (w1.trans w') R' (hend δ' μ' hI)⟩))
section
variable {X : Cx} {δ : Dl} {μ : Cells} {e a b : Expr} {pos p : Pos} {Q : Vd → Cells → Prop} {mg : Str → Option Value}
theorem rg_deall {K : PySem.W.Frag} {F : Hp} (a b : Int) : DeAll K F (rgV a b) (rangeD a (b - a).toNat) := by
  unfold rgV rangeD
  generalize List.range (b - a).toNat = L
  induction L with
  | nil => exact .nil
  | cons n r ih => exact .cons (.int _) ih
end
theorem Pth.lt {c : Co} {r s : List Int} {ps : List Nat} (h : Pth c r ps s) (ho : IsOrd c r) : ∀ i ∈ ps, i < c.length := by
  induction h with
  | nil => intro i m; cases m
  | snoc g hi ih =>
    intro i m
    rcases List.mem_append.mp m with m | m
    · exact ih i m
    · cases List.mem_singleton.mp m
      have h1 := ((frp_ok (g.ord ho)).mp hi).1
      have h2 := (g.ord ho).lens
      omega
theorem frp_le40 {c : Co} {r : List Int} (ho : IsOrd c r) (h : c.length ≤ 40) : (frp c r).length ≤ 40 := by
  have h1 := ho.lens
  have h2 := List.length_filter_le (fun i => (misL c (swp r i)).isEmpty) (List.range (r.length - 1))
  rw [List.length_range] at h2
  have h3 : (frp c r).length ≤ r.length - 1 := h2
  omega
end Ec
set_option Elab.async false
set_option linter.all false
set_option maxRecDepth 100000
set_option maxHeartbeats 4000000
namespace Ec
open PySem PySem.Spec PyProof.Rows L2
abbrev TX := List (List Int × Addr × Value)
def TK (H : Hp) (b : Addr) (k : List Int) : Prop := ∃ o, H b = some (.frz o (.tup (k.map V.int)))
theorem itemsI_are {P : Program} {w : World} : ∀ {ks : List Int} {us : List Value}, Vals (ks.map V.int) us → ItemsAre (intKind P w) ks us
  | [], _, r => by rw [List.map_nil] at r; cases r; exact .nil
  | k :: ks, _, r => by
    rw [List.map_cons] at r
    cases r with
    | cons h t =>
      refine .cons ?_ (itemsI_are t)
      obtain ⟨t, rfl⟩ := (show ∃ t, _ = Value.int k t from h)
      show Value.isInt k (.int k t) = true
      simp [Value.isInt]
theorem TK.key {P : Program} {w : World} {H : Hp} {h : Heap} {b : Addr} {k : List Int} (x : TK H b k) (ok : HOk P w H h) : (tupleKind (intKind P w)).is h k b := by
  obtain ⟨o, e⟩ := x
  obtain ⟨_, _, its, r, ob, h1, h2, n, h3⟩ := (show ObjOk P w H h b (.frz o (.tup (k.map V.int))) from ok b _ e)
  exact ⟨ob, its.toArray, n, h1, h2, h3, by simpa using itemsI_are r⟩
def Rz (H : Hp) (a : Addr) (u : HO) : Prop := L2.Rd H a u ∨ ∃ o o', H a = some (.frz o (.frz o' u))
theorem Rz.of {H : Hp} {a : Addr} {u : HO} (h : H a = some u) : Rz H a u := .inl (.inl h)
theorem Rz.ok {P : Program} {w : World} {H : Hp} {h : Heap} {a : Addr} {u : HO} (r : Rz H a u) (x : HOk P w H h) : ObjOk P w H h a u := by
  rcases r with r | ⟨o, o', r⟩
  · exact r.ok x
  · exact (show ObjOk P w H h a (.frz o (.frz o' u)) from x a _ r).2.2
def Fz (H : Hp) (a : Addr) (o : Obj) (u : HO) : Prop := H a = some (.frz o u) ∨ H a = some (.frz o (.frz o u))
theorem Fz.up {H H' : Hp} {a : Addr} {o : Obj} {u : HO} (h : Fz H a o u) (e : Same H H') : Fz H' a o u := h.elim (fun h => .inl (e _ _ h)) fun h => .inr (e _ _ h)
def KX (H : Hp) (xs : TX) : Prop := ∀ x ∈ xs, TK H x.2.1 x.1
theorem dto_raw {P : Program} {w : World} {H : Hp} {h : Heap} {a : Addr} {xs : TX} (ok : HOk P w H h) (e : Rz H a (DTO a xs)) : (a == sysModules) = false ∧ ∃ o es ep, h.get? a = some o ∧ o.ExactDict ∧ o.data = .dict es ep ∧ es.toList = xs.map (entryOfKey (tupleKind (intKind P w))) ∧ (xs.map (·.1)).Nodup := by
  obtain ⟨φ, _⟩ := (show ObjOk P w H h a (DTO a xs) from e.ok ok)
  exact φ
theorem dto_of {P : Program} {w : World} {H : Hp} {h : Heap} {a : Addr} {xs : TX} (ok : HOk P w H h) (e : Rz H a (DTO a xs)) (kx : KX H xs) : (a == sysModules) = false ∧ h.DictOfH (tupleKind (intKind P w)) a xs := by
  obtain ⟨hd, o, es, ep, h1, h2, h3, h4, h5⟩ := dto_raw ok e
  exact ⟨hd, o, es, ep, h1, h2, h3, h4, fun x m => (kx x m).key ok, h5⟩
theorem dto_new {P : Program} {w : World} {H : Hp} {h : Heap} {a : Addr} {xs : TX} (hd : (a == sysModules) = false) (dd : h.DictOfH (tupleKind (intKind P w)) a xs) : ObjOk P w H h a (DTO a xs) := by
  obtain ⟨o, es, ep, h1, h2, h3, h4, _, h5⟩ := dd
  exact ⟨⟨hd, o, es, ep, h1, h2, h3, h4, h5⟩, ⟨o, h1⟩, fun g1 g2 ⟨q0, ob, es', ep', q1, q2, q3, q4, q5⟩ k => ⟨q0, ob, es', ep', k _ q1, q2, q3, q4, q5⟩⟩
section
variable {X : Cx} {pins : List (Addr × Obj)} {σ : L2.St} {H : Hp} {s : Shared} {a b : Addr} {xs : TX} {k : List Int}
theorem dto_type (I : Inv X pins σ H s) (e : Rz H a (DTO a xs)) : s.TypeIs (.ref a) "dict" ∧ ∀ b, Value.ref a = .ref b → ∃ ob, s.heap.get? b = some ob ∧ ob.dict = none := by
  obtain ⟨_, o, _, _, h1, h2, _⟩ := dto_raw I.hok e
  refine ⟨⟨o, h1, h2.1⟩, fun b q => ?_⟩
  cases q
  exact ⟨o, h1, h2.2.1⟩
end
def tTGet (td ty : TE) : TE := fun σ H Q => td σ H fun x H1 => ty σ H1 fun y H2 => ∃ (a b : Addr) (xs : TX) (k : List Int) (q : Addr × Value) (v : V), x = .ref a ∧ y = .ref b ∧ Rz H2 a (DTO a xs) ∧ KX H2 xs ∧ TK H2 b k ∧ atKey xs k = some q ∧ RelV v q.2 ∧ Q v H2
theorem pe_tget {X : Cx} {o i : Expr} {pos : Pos} {td ty : TE} (hu : X.A.units + 1 < cLine) (ho : PE X o td) (hi : PE X i ty) (hs : NoSl i) : PE X (.Subscript o i pos) (tTGet td ty) := by
  refine ⟨fun pins s σ H Q I h => ?_⟩
  refine subD_of PySem.F.slot_dict_getitem.lookup hs (thn (ho.run pins s σ H _ I h) fun u s1 ⟨x, H1, I1, rx, q1⟩ => thn (hi.run pins s1 σ H1 _ I1 q1) fun iv s2 ⟨y, H2, I2, ry, a, b, xs, k, q, v, ex, ey, g, kx, kb, hat, rv, q2⟩ => ?_)
  subst ex ey
  obtain rfl : u = Value.ref a := rx
  obtain rfl : iv = Value.ref b := ry
  obtain ⟨_, dd⟩ := dto_of I2.hok g kx
  refine ⟨(dto_type I2 g).1, wpAny_getItem_heap (tupleKind_room_in1 hu) (kb.key I2.hok) dd hat ?_⟩
  exact ⟨v, H2, I2.tok _, rv, q2⟩
def sTPut (td ty tv : TE) : TS := fun D σ H => tv σ H fun v H1 => td σ H1 fun x H2 => ty σ H2 fun y H3 => ∃ (a b : Addr) (xs : TX) (k : List Int), x = .ref a ∧ y = .ref b ∧ H3 a = some (DTO a xs) ∧ KX H3 xs ∧ TK H3 b k ∧ xs.length < sizeLine ∧ ∀ r, RelV v r → D.nx σ (upd H3 a (DTO a (storedH xs k b r)))
theorem ps_tput {X : Cx} {o i value : Expr} {pos pos' : Pos} {td ty tv : TE} (hu : X.A.units + 1 < cLine) (ho : PE X o td) (hi : PE X i ty) (hv : PE X value tv) (hs : swapsWith value (some (.Subscript o i pos')) pos.line X.env = pure false) :
    PS X (.Assign [.Subscript o i pos'] value pos) (sTPut td ty tv) := by
  refine ⟨fun pins s σ H D I h => ?_⟩
  refine wpAny_Assign_Subscript (thn (hv.run pins s σ H _ I h) fun r s1 ⟨v, H1, I1, rv, q1⟩ => thn (ho.run pins s1 σ H1 _ I1 q1) fun u s2 ⟨x, H2, I2, rx, q2⟩ => thn (hi.run pins s2 σ H2 _ I2 q2) fun iv s3 ⟨y, H3, I3, ry, a, b, xs, k, ex, ey, g, kx, kb, hz, q3⟩ => ?_) hs
  subst ex ey
  obtain rfl : u = Value.ref a := rx
  obtain rfl : iv = Value.ref b := ry
  obtain ⟨hd, dd⟩ := dto_of I3.hok (.of g) kx
  refine wpAny_setItem_heap (hsz := Nat.le_of_lt hz) (tupleKind_room_in1 hu) (kb.key I3.hok) dd fun h' dd' hs' => ?_
  have he : ∃ q, h'.get? a = some q := let ⟨q, _, _, hq, _⟩ := dd'; ⟨q, hq⟩
  exact ⟨σ, _, d_write I3 (by rw [g]; exact True.intro) hs' he (dto_new hd dd'), q3 r rv⟩
section
variable {X : Cx} {pins : List (Addr × Obj)} {σ : L2.St} {H : Hp} {s : Shared} {d : Addr} {o : Obj} {xs : TX}
theorem frzX (I : Inv X pins σ H s) (h : Fz H d o (DTO d xs)) :
    (d == sysModules) = false ∧ s.heap.get? d = some o ∧ o.ExactDict ∧ ∃ (es : Array DictEntry) (ep : Nat), o.data = .dict es ep ∧ es.size = xs.length ∧
      ∀ (i : Nat) (e : List Int × Addr × Value), xs[i]? = some e → ∃ en : DictEntry, es[i]? = some en ∧ en.key = .ref e.2.1 ∧ en.val = e.2.2 := by
  have hq : ObjOk X.prog X.w H s.heap d (.frz o (DTO d xs)) := by
    rcases h with h | h
    · exact I.hok d _ h
    · exact (show ObjOk X.prog X.w H s.heap d (.frz o (.frz o (DTO d xs))) from I.hok d _ h).2
  obtain ⟨hd, φ, _⟩ := hq
  obtain ⟨hs, ob, es, ep, h1, h2, h3, h4, h5⟩ := φ
  rw [hd] at h1
  cases h1
  have h4' : es.toList = xs.map (entryOfKey (tupleKind (intKind X.prog X.w))) := h4
  refine ⟨hs, hd, h2, es, ep, h3, size_of_entries h4', fun i e he => ?_⟩
  have q := entry_at h4' i
  rw [he] at q
  exact ⟨_, q, rfl, rfl⟩
end
def ItkX (d : Addr) (o : Obj) (xs : TX) : It :=
  ⟨fun i H => Fz H d o (DTO d xs) ∧ i < xs.length, fun i H x H' => H' = H ∧ ∃ e, xs[i]? = some e ∧ x = .ref e.2.1, fun i H => Fz H d o (DTO d xs) ∧ xs.length ≤ i⟩
def ItiX (d : Addr) (o : Obj) (xs : TX) : It :=
  ⟨fun i H => Fz H d o (DTO d xs) ∧ i < xs.length ∧ ∀ e ∈ xs, ∃ v, RelV v e.2.2, fun i H x H' => ∃ T e v, xs[i]? = some e ∧ RelV v e.2.2 ∧ x = .ref T ∧ H T = none ∧ H' = upd H T (.tup [.ref e.2.1, v]), fun i H => Fz H d o (DTO d xs) ∧ xs.length ≤ i⟩
section
variable {P : Program} {w : World} {K : PySem.W.Frag} {tg : Expr} {d : Addr} {o : Obj} {es : Array DictEntry} {ep : Nat}
theorem turn_keysX {xs : TX} (it : Addr) (hod : o.data = .dict es ep) : Turn P w K tg (ItkX d o xs) [it] it (fun i h => h.IsKeyIter it d i xs.length ep) where
  mem := by simp
  obj := fun i h st b hb => by
    have e : b = it := by simpa using hb
    subst e
    obtain ⟨oi, e, c, dd⟩ := st
    exact ⟨oi, e, fun v z => by rw [dd] at z; cases z⟩
  keep := fun i h h' st k => st.at fun oi e => k it (by simp) oi e
  item := by
    intro X hP hw hK hc i pins s σ H E I hf st hg
    subst hP hw hK
    obtain ⟨hd, hi⟩ := hg
    obtain ⟨f0, f1, f2, f3, f4, f5⟩ := hf it (by simp)
    obtain ⟨hs, hgd, hx, es', ep', hdt, hsz, ent⟩ := frzX I hd
    obtain ⟨rfl, rfl⟩ := dict_ep hod hdt
    obtain ⟨e0, hkv⟩ : ∃ p, xs[i]? = some p := ⟨xs[i], List.getElem?_eq_getElem hi⟩
    obtain ⟨en, hen, hkey, _⟩ := ent i e0 hkv
    refine next_key_item st hgd hdt hsz hen fun h' st' sb => ?_
    have I1 : Inv X pins σ H { s with heap := h' } := I.turned (t' := s.toks) (fun b ob hb e => (sb.2 b hb).trans e) f0 f1 f3 f4 f5
    obtain ⟨oi, e, c, dd⟩ := id st'
    exact ⟨en.key, rfl, go_of (s := { s with heap := h' }) e c dd (by decide) ⟨.ref e0.2.1, H, I1, hkey, ⟨rfl, e0, hkv, rfl⟩, st', fun b hb => (hf b hb).1⟩⟩
  done := by
    intro X hP hw hK hc i pins s σ H E I hf st hg
    subst hP hw hK
    obtain ⟨hd, hi⟩ := hg
    obtain ⟨f0, f1, f2, f3, f4, f5⟩ := hf it (by simp)
    obtain ⟨hs, hgd, hx, es', ep', hdt, hsz, ent⟩ := frzX I hd
    obtain ⟨rfl, rfl⟩ := dict_ep hod hdt
    exact next_key_end (I.ok.hd hc) st hgd hdt hsz hi fun h' eb => ⟨rfl, I.turned (t' := s.toks) (fun b ob hb e => eb b ob hb e) f0 f1 f3 f4 f5⟩
  self := fun A i s Q E st h => by
    refine wpAny_pyIter_slot st.typeIs F.slot_dict_keyiterator_iter (wpAny_call_entry F.slot_dict_keyiterator_iter st.typeIs F.entry_dict_keyiterator_iter ?_ (F.args_dict_keyiterator_iter_1 _))
    show wpAny _ _ (ret (.ref it)) _ _ s
    exact wpAny_pure ⟨_, rfl, "dict_keyiterator", _, st.typeIs, F.slot_dict_keyiterator_next.lookup, h⟩
theorem turn_itemsX {xs : TX} {elts : List Expr} {kk : Nat} {tpos : Pos} (it : Addr) (hod : o.data = .dict es ep) :
    Turn P w K (.Tuple elts kk tpos) (ItiX d o xs) [it] it (fun i h => ∃ ok ov, IsItemIter h it d i xs.length ep ok ov) where
  mem := by simp
  obj := fun i h st b hb => by
    have e : b = it := by simpa using hb
    subst e
    obtain ⟨ok, ov, e⟩ := st
    exact ⟨_, e, fun v z => nomatch z⟩
  keep := fun i h h' st k => let ⟨ok, ov, e⟩ := st; ⟨ok, ov, k it (by simp) _ e⟩
  item := by
    intro X hP hw hK hc i pins s σ H E I hf st hg
    subst hP hw hK
    obtain ⟨hd, hi, hr⟩ := hg
    obtain ⟨hs, hgd, hx, es', ep', hdt, hsz, ent⟩ := frzX I hd
    obtain ⟨rfl, rfl⟩ := dict_ep hod hdt
    obtain ⟨e0, hkv⟩ : ∃ p, xs[i]? = some p := ⟨xs[i], List.getElem?_eq_getElem hi⟩
    obtain ⟨en, hen, hkey, hval⟩ := ent i e0 hkv
    obtain ⟨v, ru⟩ := hr e0 (List.mem_of_getElem? hkv)
    obtain ⟨ok, ov, he⟩ := st
    have hlt : it < s.heap.objs.size := Heap.lt_size he
    have hi' : i < es'.size := by omega
    have ee : es'[i] = en := by
      have := (Array.getElem?_eq_getElem hi').symm.trans hen
      exact Option.some.inj this
    rw [← hsz] at he
    refine DT.nextI he ⟨o, hgd, hx, hod⟩ hi' fun h' ho hT hz hk => ?_
    refine ⟨_, rfl, wpAny_letOwnedTupleGo_items (s := { s with heap := h' }) ho fun h'' he' sb => ?_⟩
    have hT2 : h''.get? s.heap.objs.size = some { cls := .type "tuple", data := .seq #[es'[i].key, es'[i].val] } := (sb.2 _ (Nat.ne_of_gt hlt)).trans hT
    have new : ObjOk X.prog X.w (upd H s.heap.objs.size (.tup [.ref e0.2.1, v])) h'' s.heap.objs.size (.tup [.ref e0.2.1, v]) :=
      ⟨by show 2 ≤ sizeLine; decide, [es'[i].key, es'[i].val], .cons (by rw [ee]; exact hkey) (.cons (by rw [ee, hval]; exact ru) .nil), ⟨_, hT2, rfl, _, rfl⟩⟩
    have I1 : Inv X pins σ (upd H s.heap.objs.size (.tup [.ref e0.2.1, v])) { s with heap := h'' } :=
      I.turnedNew (t' := s.toks) (ch := [it]) (fun b ob hb e => (sb.2 b (by simpa using hb)).trans (hk b ob (by simpa using hb) e)) hf (Nat.le_refl _) new
    refine ⟨.ref s.heap.objs.size, _, I1, rfl, ⟨_, e0, v, hkv, ru, rfl, I.hok.fresh (Nat.le_refl _), rfl⟩, ⟨es'[i].key, es'[i].val, ?_⟩, fun b hb => ?_⟩
    · rw [← hsz]; exact he'
    · have e : b = it := by simpa using hb
      rw [e, upd_ne (Nat.ne_of_lt hlt)]
      exact (hf it (by simp)).1
  done := by
    intro X hP hw hK hc i pins s σ H E I hf st hg
    subst hP hw hK
    obtain ⟨hd, hi⟩ := hg
    obtain ⟨f0, f1, f2, f3, f4, f5⟩ := hf it (by simp)
    obtain ⟨hs, hgd, hx, es', ep', hdt, hsz, ent⟩ := frzX I hd
    obtain ⟨rfl, rfl⟩ := dict_ep hod hdt
    obtain ⟨ok, ov, he⟩ := st
    rw [← hsz] at he
    exact DT.endI (I.ok.hd hc) he ⟨o, hgd, hx, hod⟩ (by omega) fun h' eb => ⟨rfl, I.turned (t' := s.toks) (fun b ob hb e => eb b ob hb e) f0 f1 f3 f4 f5⟩
  self := fun A i s Q E st h => let ⟨_, _, e⟩ := st; PySem.W.kcp_self e h
end
def iKeysX (td : TE) : TI := fun σ H R => td σ H fun x H1 => ∃ d o xs, x = .ref d ∧ Fz H1 d o (DTO d xs) ∧ R (ItkX d o xs) H1
def iItemsX (td : TE) : TI := fun σ H R => td σ H fun x H1 => ∃ d o xs, x = .ref d ∧ Fz H1 d o (DTO d xs) ∧ R (ItiX d o xs) H1
section
variable {X : Cx} {tg e : Expr} {td : TE} {apos cpos : Pos}
theorem pi_keysX (he : PE X e td) : PI X tg e (iKeysX td) := by
  refine ⟨fun pins s σ H R I h => ?_⟩
  refine thn (he.run pins s σ H _ I h) fun u s1 ⟨x, H1, I1, rx, d, o, xs, ex, hd, q⟩ => ?_
  subst ex
  obtain rfl : u = Value.ref d := rx
  obtain ⟨hs, hgd, hx, es, ep, hdt, hsz, ent⟩ := frzX I1 hd
  refine iter_keys hs hgd hx hdt (pi_one (tk := s1.toks) I1 _ (turn_keysX _ hdt) ⟨_, Heap.get?_push_size _ rfl, rfl, ?_⟩ q)
  rw [hsz] <;> rfl
theorem pi_itemsX {elts : List Expr} {kk : Nat} {tpos : Pos} (he : PE X e td) (hbase : attributeBase e "items" X.env (eval e X.env) = eval e X.env := by rfl) (hline : (apos.endLine == cpos.line) = true := by rfl) :
    PI X (.Tuple elts kk tpos) (.Call (.Attribute e "items" apos) [] [] cpos) (iItemsX td) := by
  refine ⟨fun pins s σ H R I h => ?_⟩
  refine wpAny_Call_method (T := "dict") (id := "dict.items") hbase rfl hline F.plainAttrs_dict F.slot_dict_items F.type_dict_items (thn (he.run pins s σ H _ I h) fun u s1 ⟨x, H1, I1, rx, d, o, xs, ex, hd, q⟩ => ?_)
  subst ex
  obtain rfl : u = Value.ref d := rx
  obtain ⟨hs, hgd, hx, es, ep, hdt, hsz, ent⟩ := frzX I1 hd
  have raw : DT.Raw s1.heap d es ep := ⟨o, hgd, hx, hdt⟩
  refine ⟨raw.typeIs, fun b q => ?_, ?_⟩
  · cases q
    exact ⟨o, hgd, hx.2.1⟩
  have I2 : Inv X pins σ H1 { s1 with heap := s1.heap.push { cls := .type "dict_items", data := .fields #[.ref d] } } := I1.kept (t' := s1.toks) fun b ob q => Heap.get?_push_of_some _ q
  have fin : wpAny (model X.prog X.w) X.A (pyIter (.ref s1.heap.objs.size)) (PIE X pins σ (.Tuple elts kk tpos) R) X.xe { s1 with heap := s1.heap.push { cls := .type "dict_items", data := .fields #[.ref d] } } := by
    refine DT.iterI (d := d) ⟨_, Heap.get?_push_size _ rfl, rfl, rfl⟩ (raw.push _) (pi_one (tk := s1.toks) I2 _ (turn_itemsX _ hdt) ⟨.none, .none, ?_⟩ q)
    rw [← hsz]
    exact Heap.get?_push_size _ rfl
  show wpAny _ _ (callWith cpos (.builtin "dict.items") [.ref d] [] []) _ X.xe s1
  exact method_meetsIn F.slot_dict_items F.entry_dict_items rfl (PySem.evalArgs_none ⟨rfl, raw.typeIs, F.args_dict_items_1 _, _, DT.meetsItems hs, ⟨raw, fin⟩⟩)
end
def getT : List (List Int × PyData) → List Int → Option PyData
  | [], _ => none
  | p :: r, k => if p.1 = k then some p.2 else getT r k
def putT : List (List Int × PyData) → List Int → PyData → List (List Int × PyData)
  | [], k, d => [(k, d)]
  | p :: r, k, d => if p.1 = k then (k, d) :: r else p :: putT r k d
def ndT (kvs : List (List Int × PyData)) : Prop := (kvs.map Prod.fst).Nodup
theorem atKey_cons {x : List Int × Addr × Value} {xs : TX} {k : List Int} : atKey (x :: xs) k = if x.1 = k then some x.2 else atKey xs k := by
  unfold atKey
  rw [List.find?_cons]
  by_cases e : x.1 = k
  · rw [if_pos e, decide_eq_true e]
    rfl
  · rw [if_neg e, decide_eq_false e]
section
variable {K : PySem.W.Frag} {F H : Hp} {μ : Cells}
theorem dv_t {x : Vd} {v : V} {kvs : List (List Int × PyData)} (m : RpM K F H μ) (o : VOk K F x v) (h : Dv μ x (.t kvs)) : ∃ a xs, v = .ref a ∧ Rz H a (DTO a xs) ∧ Paired (DtE K F) xs kvs := by
  cases h with
  | c j hj =>
    obtain ⟨_, xs, h1, h2⟩ := m.cel _ _ (List.mem_of_getElem? hj)
    exact ⟨_, xs, o, .of h1, h2⟩
  | k p =>
    obtain ⟨e, od, xs, h1, h2⟩ := o
    exact ⟨p, xs, e, .inl (.inr ⟨od, m.ex _ _ h1⟩), h2⟩
  | z p =>
    obtain ⟨e, od, xs, h1, h2⟩ := o
    exact ⟨p, xs, e, .inr ⟨od, od, m.ex _ _ h1⟩, h2⟩
theorem kx_of (e : Same F H) : ∀ {xs : TX} {kvs : List (List Int × PyData)}, Paired (DtE K F) xs kvs → KX H xs
  | _, _, .nil => fun x m => by cases m
  | _, _, .cons h t => fun x m => by
    rcases List.mem_cons.mp m with rfl | m
    · obtain ⟨h1, ⟨o, h2, _⟩, _⟩ := h
      exact ⟨o, by rw [h1]; exact e _ _ h2⟩
    · exact kx_of e t x m
theorem valT {k : List Int} : ∀ {xs : TX} {kvs : List (List Int × PyData)}, Paired (DtE K F) xs kvs → (getT kvs k = none ∧ atKey xs k = none) ∨ ∃ d q w, getT kvs k = some d ∧ atKey xs k = some q ∧ RelV w q.2 ∧ De K F w d
  | _, _, .nil => .inl ⟨rfl, rfl⟩
  | _, _, .cons (a := x) (b := p) h t => by
    obtain ⟨h1, _, w, h3, h4⟩ := h
    rw [atKey_cons, h1]
    unfold getT
    by_cases e : p.1 = k
    · rw [if_pos e, if_pos e]
      exact .inr ⟨p.2, x.2, w, rfl, rfl, h3, h4⟩
    · rw [if_neg e, if_neg e]
      exact valT t
theorem getT_none {k : List Int} : ∀ {kvs : List (List Int × PyData)}, getT kvs k = none ↔ k ∉ kvs.map Prod.fst
  | [] => by simp [getT]
  | p :: r => by
    unfold getT
    rw [List.map_cons, List.mem_cons]
    by_cases e : p.1 = k
    · rw [if_pos e]
      exact ⟨(fun z => by cases z), fun z => absurd (Or.inl e.symm) z⟩
    · rw [if_neg e, getT_none]
      exact ⟨fun h z => z.elim (fun y => e y.symm) h, fun h z => h (.inr z)⟩
theorem putT_new {k : List Int} {d : PyData} : ∀ {kvs : List (List Int × PyData)}, k ∉ kvs.map Prod.fst → putT kvs k d = kvs ++ [(k, d)]
  | [], _ => rfl
  | p :: r, h => by
    rw [List.map_cons, List.mem_cons, not_or] at h
    unfold putT
    rw [if_neg fun e => h.1 e.symm, putT_new h.2]
    rfl
theorem keys_of : ∀ {xs : TX} {kvs : List (List Int × PyData)}, Paired (DtE K F) xs kvs → xs.map (·.1) = kvs.map Prod.fst
  | _, _, .nil => rfl
  | _, _, .cons h t => by rw [List.map_cons, List.map_cons, h.1, keys_of t]
theorem put_old {k : List Int} {r : Value} {d : PyData} {v : V} (rv : RelV v r) (dv : De K F v d) : ∀ {xs : TX} {kvs : List (List Int × PyData)}, Paired (DtE K F) xs kvs → ndT kvs → k ∈ kvs.map Prod.fst → Paired (DtE K F) (xs.map (putAt k r)) (putT kvs k d)
  | _, _, .nil, _, h => by cases h
  | _, _, .cons (a := x) (b := p) (l₁ := xs) h t, n, m => by
    obtain ⟨n1, n2⟩ := List.nodup_cons.mp n
    have h1 := h.1
    rw [List.map_cons]
    unfold putT
    by_cases e : p.1 = k
    · rw [if_pos e, map_putAt_of_not_mem xs k r (by rw [keys_of t, ← e]; exact n1)]
      refine .cons ?_ t
      unfold putAt
      rw [if_pos (h1.trans e)]
      obtain ⟨_, ⟨o, g2, g3⟩, _⟩ := h
      exact ⟨h1.trans e, ⟨o, by rw [← e]; exact g2, g3⟩, v, rv, dv⟩
    · rw [if_neg e]
      have ex : putAt k r x = x := by
        unfold putAt
        rw [if_neg fun z => e (h1.symm.trans z)]
      rw [ex]
      exact .cons h (put_old rv dv t n2 ((List.mem_cons.mp m).resolve_left fun z => e z.symm))
theorem paired_snoc {α β : Type} {R : α → β → Prop} {a : α} {b : β} (r : R a b) : ∀ {xs : List α} {ys : List β}, Paired R xs ys → Paired R (xs ++ [a]) (ys ++ [b])
  | _, _, .nil => .cons r .nil
  | _, _, .cons h t => .cons h (paired_snoc r t)
theorem put_pair {k : List Int} {b : Addr} {r : Value} {d : PyData} {v : V} {xs : TX} {kvs : List (List Int × PyData)} (p : Paired (DtE K F) xs kvs) (n : ndT kvs) (hb : ∃ o, F b = some (.frz o (.tup (k.map V.int))) ∧ o.dict = none) (rv : RelV v r) (dv : De K F v d) : Paired (DtE K F) (storedH xs k b r) (putT kvs k d) := by
  rcases valT (k := k) p with ⟨n1, n2⟩ | ⟨d', q, w, n1, n2, _⟩
  · rw [storedH_new n2, putT_new (getT_none.mp n1)]
    exact paired_snoc ⟨rfl, hb, v, rv, dv⟩ p
  · rw [storedH_old n2]
    refine put_old rv dv p n ?_
    by_cases e : k ∈ kvs.map Prod.fst
    · exact e
    · rw [getT_none.mpr e] at n1
      cases n1
theorem paired_len {α β : Type} {R : α → β → Prop} : ∀ {xs : List α} {ys : List β}, Paired R xs ys → xs.length = ys.length
  | _, _, .nil => rfl
  | _, _, .cons _ t => congrArg (· + 1) (paired_len t)
theorem vints {k : List Int} {vs : List V} (h : DeAll K F vs (intsD k)) : vs = k.map V.int := by
  induction k generalizing vs with
  | nil => cases h; rfl
  | cons i r ih =>
    cases h with
    | cons h1 h2 =>
      cases h1
      rw [List.map_cons, ih h2]
theorem key_de {v : V} {k : List Int} (h : De K F v (.tuple (intsD k))) : ∃ b o, v = .ref b ∧ F b = some (.frz o (.tup (k.map V.int))) ∧ o.dict = none := by
  obtain ⟨a, vs, o, rfl, h1, h2, h3⟩ := dp_tupX h
  rw [vints h3] at h1
  exact ⟨a, o, rfl, h1, h2⟩
theorem paired_at {α β : Type} {R : α → β → Prop} {i : Nat} : ∀ {xs : List α} {ys : List β} {a : α}, Paired R xs ys → xs[i]? = some a → ∃ b, ys[i]? = some b ∧ R a b := by
  induction i with
  | zero =>
    intro xs ys a p h
    cases p with
    | nil => cases h
    | cons r t => cases h; exact ⟨_, rfl, r⟩
  | succ i ih =>
    intro xs ys a p h
    cases p with
    | nil => cases h
    | cons r t => exact ih t h
end
section
variable {X : Cx} {δ : Dl} {μ : Cells} {Q : Vd → Cells → Prop} {a b o i value : Expr} {pos pos' : Pos} {D : Dn}
theorem we_tget (hu : X.A.units + 1 < cLine) (h : WE X o δ μ fun x μ1 => WE X i δ μ1 fun y μ2 => ∃ (kvs : List (List Int × PyData)) (k : List Int) (d : PyData), Dv μ2 x (.t kvs) ∧ y = .d (.tuple (intsD k)) ∧ getT kvs k = some d ∧ Q (.d d) μ2) (hs : NoSl i := by with_unfolding_all exact fun _ _ => rfl) : WE X (.Subscript o i pos) δ μ Q := fun F H σ R QV c =>
  toE (pe_tget hu (pcE X o) (pcE X i) hs) (h F H σ R _ fun v x F1 H1 μ1 w1 R1 o1 q => q F1 H1 σ R1 _ fun u y F2 H2 μ2 w2 R2 o2 q2 => by
    obtain ⟨kvs, k, d, hx, rfl, hg, q3⟩ := q2
    obtain ⟨a, xs, rfl, hr, hp⟩ := dv_t R2.m (o1.up w2.f) hx
    obtain ⟨b, ob, rfl, kb, _⟩ := key_de o2
    rcases valT (k := k) hp with ⟨n, _⟩ | ⟨d', q, w, e1, e2, e3, e4⟩
    · rw [n] at hg
      cases hg
    · rw [e1] at hg
      cases hg
      exact ⟨a, b, xs, k, q, w, rfl, rfl, hr, kx_of R2.m.ex hp, ⟨ob, R2.m.ex _ _ kb⟩, e2, e3, c w (.d _) F2 H2 μ2 (w1.trans w2) R2 e4 q3⟩)
theorem ws_tput (hu : X.A.units + 1 < cLine) (h : WE X value δ μ fun v μ1 => WE X o δ μ1 fun x μ2 => WE X i δ μ2 fun y μ3 => ∃ (p : Addr) (kvs : List (List Int × PyData)) (j : Nat) (k : List Int) (d : PyData), v = .d d ∧ x = .a p ∧ y = .d (.tuple (intsD k)) ∧ μ3[j]? = some (p, Cont.t kvs) ∧ ndT kvs ∧ kvs.length ≤ 100000 ∧ D.nx δ (μ3.set j (p, Cont.t (putT kvs k d))))
    (hs : swapsWith value (some (.Subscript o i pos')) pos.line X.env = pure false := by rfl) : WS X (.Assign [.Subscript o i pos'] value pos) δ μ D := fun F H σ R De bb =>
  toS (ps_tput hu (pcE X o) (pcE X i) (pcE X value) hs) (h F H σ R _ fun v z F1 H1 μ1 w1 R1 o1 q => q F1 H1 σ R1 _ fun u x F2 H2 μ2 w2 R2 o2 q2 => q2 F2 H2 σ R2 _ fun u3 y F3 H3 μ3 w3 R3 o3 q3 => by
    obtain ⟨p, kvs, j, k, d, rfl, rfl, rfl, hj, hn, hz, q4⟩ := q3
    obtain ⟨_, xs, hH, hp⟩ := R3.m.cel _ _ (List.mem_of_getElem? hj)
    obtain ⟨b, ob, rfl, kb, nb⟩ := key_de o3
    have hu : u = .ref p := o2
    subst hu
    refine ⟨p, b, xs, k, rfl, rfl, hH, kx_of R3.m.ex hp, ⟨ob, R3.m.ex _ _ kb⟩, ?_, fun r rv => ?_⟩
    · rw [paired_len hp, sizeLine_eq]
      omega
    obtain ⟨m4, w4⟩ := R3.m.setO (o := DTO p (storedH xs k b r)) (es := Cont.t (putT kvs k d)) hj ⟨_, upd_same, put_pair hp hn ⟨ob, kb, nb⟩ rv ((o1.up w2.f).up w3.f)⟩
    exact bb.nx F3 _ _ _ _ (((w1.trans w2).trans w3).trans w4) (R3.to (Same.refl _) m4) q4)
end
def tDNewX : TE := fun _ H Q => ∀ p, H p = none → Q (.ref p) (upd H p (DTO p []))
theorem pe_dnewX {X : Cx} {pos : Pos} : PE X (.Dict [] [] pos) tDNewX := ⟨fun pins s σ H Q I h =>
  wpAny_Dict_empty ⟨.ref s.heap.objs.size, _, I.laid (a := s.heap.objs.size) (o := DTO s.heap.objs.size []) (t' := s.toks) (fun _ _ q => Heap.get?_push_of_some _ q) (Nat.le_refl _) (dto_new (beq_eq_false_iff_ne.mpr (Ne.symm (Nat.ne_of_lt I.big))) (Heap.DictOfH.new _)), rfl, h _ (I.hok.fresh (Nat.le_refl _))⟩⟩
def tDispX (tk tv : TE) : TE := fun σ H Q => ∀ p, H p = none → tk σ (upd H p (DTO p [])) fun x H1 => tv σ H1 fun v H2 => H2 p = some (DTO p []) ∧ ∃ b k, x = .ref b ∧ TK H2 b k ∧ ∀ r, RelV v r → Q (.ref p) (upd H2 p (DTO p [(k, b, r)]))
theorem pe_dispX {X : Cx} {pos : Pos} {e f : Expr} {tk tv : TE} (hu : X.A.units < cLine) (hk : PE X e tk) (hv : PE X f tv) : PE X (.Dict [some e] [f] pos) (tDispX tk tv) := by
  refine ⟨fun pins s σ H Q I q => ?_⟩
  have hn := I.hok.fresh (Nat.le_refl s.heap.objs.size)
  have I1 := I.laid (a := s.heap.objs.size) (o := DTO s.heap.objs.size []) (h' := s.heap.push { cls := .type "dict", data := .dict #[] }) (t' := s.toks) (fun _ _ q => Heap.get?_push_of_some _ q) (Nat.le_refl _) (dto_new (beq_eq_false_iff_ne.mpr (Ne.symm (Nat.ne_of_lt I.big))) (Heap.DictOfH.new _))
  have hnp := pairTrees_length [some e] [f] X.env pos rfl rfl
  rw [arm_eval_Dict, zip_pairTrees [some e] [f] X.env pos rfl rfl, dictDisplay_pairs (pairTrees [some e] [f] X.env pos) (by intro z; rw [z] at hnp; cases hnp) (by rw [hnp]; show 1 < 17; decide)]
  refine wpAny_bind (wpAny_standAt (wpAny_bind (wpAny_subDictH (knd := tupleKind (intKind X.prog X.w)) (Q := fun d s' => wpAny (model X.prog X.w) X.A (pure (Value.ref d)) (EP X pins σ Q) X.xe s') hu (by rw [hnp]; show 1 ≤ 15; decide) ?_)))
  refine pairTrees_cons_walk (thn (hk.run pins _ σ _ _ I1 (q _ hn)) fun u s1 ⟨x, H1, I2, rx, q1⟩ => thn (hv.run pins s1 σ H1 _ I2 q1) fun w2 s2 ⟨y, H2, I3, ry, q2⟩ => pairTrees_nil_walk ?_)
  obtain ⟨hH, b, k, rfl, kb, q3⟩ := q2
  obtain rfl : u = Value.ref b := rx
  obtain ⟨hd, dd⟩ := dto_of I3.hok (.of hH) (fun x m => by cases m)
  refine ⟨[(k, b, w2)], ⟨rfl, rfl, kb.key I3.hok, trivial⟩, dd, fun h' tk dd' hs' => wpAny_pure ?_⟩
  have he : ∃ q, h'.get? s.heap.objs.size = some q := let ⟨q, _, _, hq, _⟩ := dd'; ⟨q, hq⟩
  exact ⟨.ref s.heap.objs.size, _, d_write I3 (by rw [hH]; exact True.intro) hs' he (dto_new hd dd'), rfl, q3 w2 ry⟩
def tTGet2 (td ty tx : TE) : TE := fun σ H Q => td σ H fun x H1 => ∃ (a : Addr) (xs0 : TX), x = .ref a ∧ Rz H1 a (DTO a xs0) ∧ ty σ H1 fun y H2 => tx σ H2 fun z H3 => ∃ (b : Addr) (xs : TX) (k : List Int), y = .ref b ∧ Rz H3 a (DTO a xs) ∧ KX H3 xs ∧ TK H3 b k ∧
  (∀ q, atKey xs k = some q → ∃ v, RelV v q.2 ∧ Q v H3) ∧ (atKey xs k = none → Q z H3)
theorem pe_tget2 {X : Cx} {o e f : Expr} {apos cpos : Pos} {td ty tx : TE} (hu : X.A.units + 1 < cLine) (ho : PE X o td) (he : PE X e ty) (hf : PE X f tx) (m : M2 X o "get" apos e f cpos) : PE X (.Call (.Attribute o "get" apos) [e, f] [] cpos) (tTGet2 td ty tx) := by
  refine ⟨fun pins s σ H Q I h => ?_⟩
  refine wpAny_Call_method m.base m.few m.line PySem.F.plainAttrs_dict PySem.F.slot_dict_get PySem.F.type_dict_get (thn (ho.run pins s σ H _ I h) fun u s1 ⟨x, H1, I1, rx, a, xs0, ex, g0, q1⟩ => ?_)
  subst ex
  obtain rfl : u = Value.ref a := rx
  obtain ⟨t1, t2⟩ := dto_type I1 g0
  refine ⟨t1, t2, ?_⟩
  rw [m.trees]
  refine Calls.callWith_builtin rfl (Calls.evalArgs_plain (Calls.spliced_cons (thn (he.run pins s1 σ H1 _ I1 q1) fun iv s2 ⟨y, H2, I2, ry, q2⟩ =>
    Calls.spliced_cons (thn (hf.run pins s2 σ H2 _ I2 q2) fun fv s3 ⟨z, H3, I3, rz, b, xs, k, ey, g, kx, kb, q3, q4⟩ => Calls.spliced_nil ?_))))
  subst ey
  obtain rfl : iv = Value.ref b := ry
  obtain ⟨hd, dd⟩ := dto_of I3.hok g kx
  refine call_meetsIn PySem.F.slot_dict_get dd.typeIs PySem.F.entry_dict_get (PySem.F.args_dict_get_3 _ _ _) (meetsH_dict_get_default (tupleKind (intKind X.prog X.w)) a b hd fv) ⟨tupleKind_room_in1 hu, k, xs, kb.key I3.hok, dd, ?_⟩
  cases e : atKey xs k with
  | none => exact ⟨z, H3, I3.tok _, rz, q4 e⟩
  | some q =>
    obtain ⟨v, hv, q5⟩ := q3 q e
    exact ⟨v, H3, I3.tok _, hv, q5⟩
section
variable {X : Cx} {δ : Dl} {μ : Cells} {Q : Vd → Cells → Prop} {a b o e f tg : Expr} {pos apos cpos tpos : Pos} {D : Dn} {QI : List PyData → Cells → Prop}
theorem we_dnewT (h : ∀ p, Q (.a p) ((p, Cont.t []) :: μ)) : WE X (.Dict [] [] pos) δ μ Q := fun F H σ R QV c =>
  toE pe_dnewX fun p np => by
    obtain ⟨m2, w2⟩ := R.m.cellO (c := .t []) np ⟨[], upd_same, .nil⟩
    exact c (.ref p) (.a p) _ _ _ w2 (R.to (Same.refl _) m2) rfl (h p)
theorem we_dispT (hu : X.A.units + 1 < cLine) (h : ∀ p, WE X e δ ((p, Cont.t []) :: μ) fun x μ1 => WE X f δ μ1 fun v μ2 => ∃ (k : List Int) (d : PyData) (j : Nat), x = .d (.tuple (intsD k)) ∧ v = .d d ∧ μ2[j]? = some (p, Cont.t []) ∧ Q (.a p) (μ2.set j (p, Cont.t [(k, d)]))) : WE X (.Dict [some e] [f] pos) δ μ Q := fun F H σ R QV c =>
  toE (pe_dispX (by omega) (pcE X e) (pcE X f)) fun p np => by
    obtain ⟨m2, w2⟩ := R.m.cellO (c := .t []) np ⟨[], upd_same, .nil⟩
    refine h p F _ σ (R.to (Same.refl _) m2) _ fun u x F1 H1 μ1 w1 R1 o1 q => q F1 H1 σ R1 _ fun v y F2 H2 μ2 w3 R2 o2 q2 => ?_
    obtain ⟨k, d, j, rfl, rfl, hj, q3⟩ := q2
    obtain ⟨_, xs, hH, hp⟩ := R2.m.cel _ _ (List.mem_of_getElem? hj)
    obtain ⟨b, ob, rfl, kb, nb⟩ := key_de (o1.up w3.f)
    have ex : xs = [] := by cases hp; rfl
    subst ex
    refine ⟨hH, b, k, rfl, ⟨ob, R2.m.ex _ _ kb⟩, fun r rv => ?_⟩
    obtain ⟨m4, w4⟩ := R2.m.setO (o := DTO p [(k, b, r)]) (es := Cont.t [(k, d)]) hj ⟨_, upd_same, .cons ⟨rfl, ⟨ob, kb, nb⟩, v, rv, o2⟩ .nil⟩
    exact c (.ref p) (.a p) _ _ _ (((w2.trans w1).trans w3).trans w4) (R2.to (Same.refl _) m4) rfl q3
theorem we_tget2 (hu : X.A.units + 1 < cLine) (h : WE X o δ μ fun x μ1 => (∃ kvs0, Dv μ1 x (.t kvs0)) ∧ WE X e δ μ1 fun y μ2 => WE X f δ μ2 fun z μ3 => ∃ (kvs : List (List Int × PyData)) (k : List Int) (d : PyData), Dv μ3 x (.t kvs) ∧ y = .d (.tuple (intsD k)) ∧ z = .d d ∧ Q (.d ((getT kvs k).getD d)) μ3)
    (hbase : attributeBase o "get" X.env (eval o X.env) = eval o X.env := by rfl)
    (hfew : ((backTo cpos (starEach [e, f] X.env)).all (fun x => !x.1) && (backToKw cpos (keywordEach [] X.env)).all (fun x => x.1.isSome)
      && decide (([e, f] : List Expr).length + ([] : List Keyword).length + (if ([] : List Keyword).isEmpty then 0 else 1) < 30)) = true := by rfl)
    (hline : (apos.endLine == cpos.line) = true := by rfl) (htr : backTo cpos (starEach [e, f] X.env) = [(false, eval e X.env), (false, eval f X.env)] := by rfl) : WE X (.Call (.Attribute o "get" apos) [e, f] [] cpos) δ μ Q := fun F H σ R QV c =>
  toE (pe_tget2 hu (pcE X o) (pcE X e) (pcE X f) ⟨hbase, hfew, hline, htr⟩) (h F H σ R _ fun v x F1 H1 μ1 w1 R1 o1 q => by
    obtain ⟨⟨kvs0, hx0⟩, q⟩ := q
    obtain ⟨a, xs0, rfl, hr0, _⟩ := dv_t R1.m o1 hx0
    refine ⟨a, xs0, rfl, hr0, q F1 H1 σ R1 _ fun u y F2 H2 μ2 w2 R2 o2 q2 => q2 F2 H2 σ R2 _ fun w z F3 H3 μ3 w3 R3 o3 q3 => ?_⟩
    obtain ⟨kvs, k, d, hx, rfl, rfl, q4⟩ := q3
    obtain ⟨a', xs, ea, hr, hp⟩ := dv_t R3.m ((o1.up w2.f).up w3.f) hx
    cases ea
    obtain ⟨b, ob, rfl, kb, _⟩ := key_de (o2.up w3.f)
    refine ⟨b, xs, k, rfl, hr, kx_of R3.m.ex hp, ⟨ob, R3.m.ex _ _ kb⟩, fun q e => ?_, fun e => ?_⟩
    · rcases valT (k := k) hp with ⟨_, n2⟩ | ⟨d', q', w', n1, n2, n3, n4⟩
      · rw [n2] at e
        cases e
      · rw [n2] at e
        cases e
        rw [n1] at q4
        exact ⟨w', n3, c w' (.d _) F3 H3 μ3 ((w1.trans w2).trans w3) R3 n4 q4⟩
    · rcases valT (k := k) hp with ⟨n1, _⟩ | ⟨d', q', w', n1, n2, n3, n4⟩
      · rw [n1] at q4
        exact c w (.d _) F3 H3 μ3 ((w1.trans w2).trans w3) R3 o3 q4
      · rw [n2] at e
        cases e)
theorem wk_keysT {K : PySem.W.Frag} {F0 : Hp} {p : Addr} {od : Obj} {xs : TX} {kvs : List (List Int × PyData)} (hf : Fz F0 p od (DTO p xs)) (hp : Paired (DtE K F0) xs kvs) : Wk K (ItkX p od xs) F0 Vd.d (tups (kvs.map Prod.fst)) where
  go := fun i F H h f1 f2 => by
    rw [List.length_map, List.length_map] at h
    exact ⟨(hf.up f1).up f2, by rw [paired_len hp]; exact h⟩
  yld := fun i F H x H' d h f1 f2 y => by
    obtain ⟨rfl, e, e1, rfl⟩ := y
    obtain ⟨q, e2, g1, ⟨o, g2, g3⟩, _⟩ := paired_at hp e1
    rw [List.getElem?_map, List.getElem?_map, e2] at h
    cases h
    refine ⟨F, Same.refl F, f2, Same.refl _, fun b e _ => e, ?_⟩
    have hd : DeAll K F (q.1.map V.int) (intsD q.1) := by
      generalize q.1 = L
      induction L with
      | nil => exact .nil
      | cons n r ih => exact .cons (.int _) ih
    exact De.tup (f1 _ _ g2) g3 hd
  stop := fun F H f1 f2 => by
    rw [List.length_map, List.length_map]
    exact ⟨(hf.up f1).up f2, Nat.le_of_eq (paired_len hp)⟩
def itmD (q : List Int × PyData) : PyData := .tuple [.tuple (intsD q.1), q.2]
theorem wk_itemsT {K : PySem.W.Frag} {F0 : Hp} {p : Addr} {od : Obj} {xs : TX} {kvs : List (List Int × PyData)} (hf : Fz F0 p od (DTO p xs)) (hp : Paired (DtE K F0) xs kvs) : Wk K (ItiX p od xs) F0 Vd.w (kvs.map itmD) where
  go := fun i F H h f1 f2 => by
    rw [List.length_map] at h
    refine ⟨(hf.up f1).up f2, by rw [paired_len hp]; exact h, fun e m => ?_⟩
    obtain ⟨j, hj⟩ := List.getElem?_of_mem m
    obtain ⟨q, _, _, _, w, g1, _⟩ := paired_at hp hj
    exact ⟨w, g1⟩
  yld := fun i F H x H' d h f1 f2 y => by
    obtain ⟨T, e, v, e1, rv, rfl, nT, rfl⟩ := y
    obtain ⟨q, e2, g1, ⟨o, g2, g3⟩, w, g4, g5⟩ := paired_at hp e1
    rw [List.getElem?_map, e2] at h
    cases h
    have ev : v = w := rv.inj g4
    subst ev
    have hd : DeAll K F (q.1.map V.int) (intsD q.1) := by
      generalize q.1 = L
      induction L with
      | nil => exact .nil
      | cons n r ih => exact .cons (.int _) ih
    exact pair_new f2 nT (De.tup (f1 _ _ g2) g3 hd) (dp_up f1 _ _ g5)
  stop := fun F H f1 f2 => by
    rw [List.length_map]
    exact ⟨(hf.up f1).up f2, Nat.le_of_eq (paired_len hp)⟩
theorem wi_keysT (h : WE X e δ μ fun x μ1 => ∃ (p : Addr) (kvs : List (List Int × PyData)), (x = .k p (.t kvs) ∨ x = .z p kvs) ∧ QI (tups (kvs.map Prod.fst)) μ1) (hw : itV e = Vd.d := by rfl) : WI X tg e δ μ QI := fun F H σ R RV cc =>
  toI (pi_keysX (pcE X e)) (h F H σ R _ fun v x F1 H1 μ1 w1 R1 o1 q => by
    obtain ⟨p, kvs, ex, q⟩ := q
    obtain ⟨ev, od, xs, hf, hp⟩ : v = .ref p ∧ ∃ od xs, Fz F1 p od (DTO p xs) ∧ Paired (DtE X.K F1) xs kvs := by
      rcases ex with rfl | rfl
      · obtain ⟨e, od, xs, h1, h2⟩ := o1
        exact ⟨e, od, xs, .inl h1, h2⟩
      · obtain ⟨e, od, xs, h1, h2⟩ := o1
        exact ⟨e, od, xs, .inr h1, h2⟩
    subst ev
    refine ⟨p, od, xs, rfl, hf.up R1.m.ex, cc _ _ F1 H1 μ1 w1 R1 ?_ q⟩
    rw [hw]
    exact wk_keysT hf hp)
theorem wi_itemsT {elts : List Expr} {kk : Nat} (h : WE X e δ μ fun x μ1 => ∃ (p : Addr) (kvs : List (List Int × PyData)), (x = .k p (.t kvs) ∨ x = .z p kvs) ∧ QI (kvs.map itmD) μ1)
    (hbase : attributeBase e "items" X.env (eval e X.env) = eval e X.env := by rfl) (hline : (apos.endLine == cpos.line) = true := by rfl) (hw : itV (.Call (.Attribute e "items" apos) [] [] cpos) = Vd.w := by rfl) : WI X (.Tuple elts kk tpos) (.Call (.Attribute e "items" apos) [] [] cpos) δ μ QI := fun F H σ R RV cc =>
  toI (pi_itemsX (pcE X e) hbase hline) (h F H σ R _ fun v x F1 H1 μ1 w1 R1 o1 q => by
    obtain ⟨p, kvs, ex, q⟩ := q
    obtain ⟨ev, od, xs, hf, hp⟩ : v = .ref p ∧ ∃ od xs, Fz F1 p od (DTO p xs) ∧ Paired (DtE X.K F1) xs kvs := by
      rcases ex with rfl | rfl
      · obtain ⟨e, od, xs, h1, h2⟩ := o1
        exact ⟨e, od, xs, .inl h1, h2⟩
      · obtain ⟨e, od, xs, h1, h2⟩ := o1
        exact ⟨e, od, xs, .inr h1, h2⟩
    subst ev
    refine ⟨p, od, xs, rfl, hf.up R1.m.ex, cc _ _ F1 H1 μ1 w1 R1 ?_ q⟩
    rw [hw]
    exact wk_itemsT hf hp)
end
theorem Inv_lock2 {X : Cx} {pins : List (Addr × Obj)} {σ : L2.St} {H : Hp} {s : Shared} {d : Addr} {xs : TX} (I : Inv X pins σ H s) (h : H d = some (DTO d xs)) : ∃ od, Inv X pins σ (upd H d (.frz od (.frz od (DTO d xs)))) s := by
  have x := I.hok d _ h
  obtain ⟨_, ⟨od, e⟩, _⟩ := id (show ObjOk X.prog X.w H s.heap d (DTO d xs) from x)
  refine ⟨od, I.write (x := d) (e := d) (t' := s.toks) (h' := s.heap) (by rw [h]; exact True.intro) (.inl rfl) (fun b v _ q => q) ⟨od, e⟩ ⟨e, e, x.stay (fun b v _ q => q) (fun b q => ?_) fun b xs q => ?_⟩⟩
  · rw [upd_ne (fun z => by rw [z, h] at q; cases q)]; exact q
  · rw [upd_ne (fun z => by rw [z, h] at q; cases q)]; exact q
theorem upd_eq {H : Hp} {a : Addr} {o : HO} (h : H a = some o) : upd H a o = H := by
  funext b
  by_cases e : b = a
  · subst e
    rw [upd_same, h]
  · rw [upd_ne e]
section
variable {X : Cx} {δ : Dl} {μ : Cells} {Q : Vd → Cells → Prop} {D : Dn} {rest : List Stmt}
theorem wb_zap (i j k : Nat) {p q : Addr} {kvs : List (List Int × PyData)} {ds : List PyData} (hi : μ[i]? = some (p, Cont.t kvs)) (hj : (μ.eraseIdx i)[j]? = some (q, Cont.l ds)) (hk : ds[k]? = some (ptr p))
    (h : WB X rest δ ((μ.eraseIdx i).set j (q, Cont.l (ds.set k (zd p kvs)))) D) : WB X rest δ μ D := fun F H σ R De b pins s I => by
  have pm := perm_at hi
  have R1 := R.perm pm
  obtain ⟨fp, xs, hH, hp⟩ := R1.m.cel p _ List.mem_cons_self
  obtain ⟨od, I1⟩ := Inv_lock2 I hH
  obtain ⟨m1, s1⟩ := R1.m.locked (u := .frz od (DTO p xs)) od
  obtain ⟨_, vs, g1, g2⟩ := m1.cel _ _ (List.mem_of_getElem? hj)
  have z0 : Dq X.K (upd F p (.frz od (.frz od (DTO p xs)))) (.ref p) (zd p kvs) := .z ⟨od, xs, upd_same, Paired.mapP hp fun x p ⟨e1, ⟨o, e2, e3⟩, w, e4, e5⟩ => ⟨e1, ⟨o, s1 _ _ e2, e3⟩, w, e4, dp_up s1 _ _ e5⟩⟩
  have ev : vs.set k (.ref p) = vs := by
    obtain ⟨v, e1, e2⟩ := dqs_get g2 hk
    have : v = .ref p := by
      cases e2 with
      | d h => cases h
      | p a => rfl
    subst this
    refine List.ext_getElem? fun n => ?_
    by_cases hn : k = n
    · subst hn
      rw [e1, List.getElem?_set_self (List.getElem?_eq_some_iff.mp e1).1]
    · rw [List.getElem?_set_ne hn]
  have g3 := dqs_set z0 k g2
  rw [ev] at g3
  obtain ⟨m2, _⟩ := m1.setO (o := .lst vs) (es := Cont.l (ds.set k (zd p kvs))) hj ⟨vs, upd_same, g3⟩
  rw [upd_eq g1] at m2
  have hpm : p ∈ ks μ := List.mem_map.mpr ⟨_, List.mem_of_getElem? hi, rfl⟩
  have kk : ks ((μ.eraseIdx i).set j (q, Cont.l (ds.set k (zd p kvs)))) = ks (μ.eraseIdx i) := by
    refine List.ext_getElem? fun n => ?_
    rw [List.getElem?_map, List.getElem?_map]
    by_cases hn : j = n
    · subst hn
      rw [List.getElem?_set_self (List.getElem?_eq_some_iff.mp hj).1, hj]
      rfl
    · rw [List.getElem?_set_ne hn]
  have w : Fw (ks μ) (ks ((μ.eraseIdx i).set j (q, Cont.l (ds.set k (zd p kvs))))) F H (upd F p (.frz od (.frz od (DTO p xs)))) (upd H p (.frz od (.frz od (DTO p xs)))) := by
    refine ⟨s1, fun b o e n => ?_, fun b e _ n => ?_, fun b m => .inl ?_⟩
    · rw [upd_ne fun (z : b = p) => n (by rw [z]; exact hpm)]
      exact e
    · rw [upd_ne fun (z : b = p) => n (by rw [z]; exact hpm)]
      exact e
    · rw [kk] at m
      obtain ⟨y, my, rfl⟩ := List.mem_map.mp m
      exact List.mem_map.mpr ⟨y, List.mem_of_mem_eraseIdx my, rfl⟩
  exact h _ _ σ (R.to s1 m2) De (b.next w) pins s I1
abbrev zds (Zs : List (Addr × List (List Int × PyData))) : List PyData := Zs.map fun z => zd z.1 z.2
theorem dq_z {K : PySem.W.Frag} {F : Hp} {v : V} {p : Addr} {kvs : List (List Int × PyData)} (h : Dq K F v (zd p kvs)) : VOk K F (.z p kvs) v := by
  generalize e : zd p kvs = d at h
  cases h with
  | d h =>
    subst e
    cases h
  | p a =>
    unfold zd ptr at e
    injection e with e
    injection e with e _
    injection e with _ e
    cases e
  | e h g o =>
    unfold zd exI at e
    injection e with e
    injection e with e _
    injection e with e _
    cases e
  | q h n =>
    unfold zd ptr2 at e
    injection e with e
    injection e with e _
    injection e with _ e
    cases e
  | z h =>
    rename_i a kvs'
    unfold zd at e
    injection e with e
    injection e with e1 e2
    injection e1 with e1 _
    injection e1 with e1
    have ea : p = a := Int.ofNat.inj e1
    subst ea
    have ek : kvs = kvs' := by
      have inj : ∀ (as bs : List (List Int × PyData)), as.map (fun q => (PyData.tuple (intsD q.1), q.2)) = bs.map (fun q => (PyData.tuple (intsD q.1), q.2)) → as = bs := by
        intro as
        induction as with
        | nil =>
          intro bs hb
          cases bs with
          | nil => rfl
          | cons b bs => cases hb
        | cons a as ih =>
          intro bs hb
          cases bs with
          | nil => cases hb
          | cons b bs =>
            rw [List.map_cons, List.map_cons] at hb
            injection hb with h1 h2
            injection h1 with h1 h3
            injection h1 with h1
            have : a.1 = b.1 := by
              have := congrArg (List.map fun d => match d with | .int i => i | _ => (0 : Int)) h1
              simpa [intsD, List.map_map, Function.comp_def] using this
            rw [ih bs h2, show a = b from Prod.ext this h3]
      exact inj _ _ e2
    subst ek
    exact ⟨rfl, h⟩
theorem ow_ixZ {K : PySem.W.Frag} {q p : Addr} {i : Int} {kvs : List (List Int × PyData)} {ds : List PyData} (j : Nat) (hj : μ[j]? = some (q, (ds : Cont))) (ha : atI ds i = some (zd p kvs)) (h : Q (.z p kvs) μ) : OpW K (rIx K) (.a q) (.d (.int i)) μ Q := fun F H v u m o1 o2 QV c => by
  obtain ⟨_, vs, e1, hd⟩ := m.cel _ _ (List.mem_of_getElem? hj)
  have hv : ∃ w, atI vs i = some w ∧ Dq K F w (zd p kvs) := by
    unfold atI at ha ⊢
    rw [dqs_len hd]
    cases q : ixN ds.length i with
    | none =>
      rw [q] at ha
      cases ha
    | some j =>
      rw [q] at ha
      exact dqs_get hd ha
  obtain ⟨w, hw, ow⟩ := hv
  refine .inl ⟨q, vs, i, w, o1, dp_int o2, .of e1, hw, c (.z p kvs) w F H μ Fw.refl m ?_ h⟩
  exact dq_z ow
theorem ws_forZ {pos : Pos} {tg iter : Expr} {body : List Stmt} (is : List Nat) (hp : PassesOwn (model X.prog X.w) X.A X.env X.xe) (hc : X.calm = true)
    (h : WE X iter δ μ fun x μ1 => ∃ (p : Addr) (Zs : List (Addr × List (List Int × PyData))), x = .a p ∧ (p, Cont.l (zds Zs)) ∈ μ1 ∧ ∃ I : Nat → Dl → Cells → Prop, I 0 δ μ1 ∧ (∀ i δ' μ', I i δ' μ' → (p, Cont.l (zds Zs)) ∈ μ') ∧ (∀ i z δ' μ', Zs[i]? = some z → I i δ' μ' → WGo X is tg (.z z.1 z.2) δ' μ' fun δ2 μ2 => WB X body δ2 μ2 { nx := I (i + 1), rt := D.rt, bk := D.nx, ct := I (i + 1) }) ∧ ∀ δ' μ', I Zs.length δ' μ' → D.nx δ' μ')
    (hs : ∀ y, foldedSetIterable iter X.env y = pure y := by intro _; rfl) : WS X (.For tg iter body [] pos) δ μ D := fun F H σ R De b =>
  toS (ps_for hp hc (pcI X tg iter) (pcG X tg) (pcB X body) hs) (toI (pi_seqS (pcE X _)) (h F H σ R _ fun v y F1 H1 μ1 w1 R1 o1 q => by
    obtain ⟨p, Zs, rfl, hm, I, h0, hin, hturn, hend⟩ := q
    have ev : v = .ref p := o1
    subst ev
    obtain ⟨_, vs, s0, d0⟩ := R1.m.cel p _ hm
    have lz : (zds Zs).length = Zs.length := List.length_map _
    refine ⟨p, vs, rfl, .inl ⟨.of s0, ?_⟩⟩
    refine ⟨fun i m σ' H' => m = Zs.length - i ∧ i ≤ Zs.length ∧ ∃ F' δ' μ', Fw (ks μ1) (ks μ') F1 H1 F' H' ∧ Rp X.K F' H' σ' δ' μ' ∧ I i δ' μ', ⟨_, rfl, Nat.zero_le _, F1, δ, μ1, Fw.refl, R1, h0⟩, ?_⟩
    rintro i m σ' H' ⟨rfl, hi, F', δ', μ', w', R', hI⟩
    obtain ⟨_, vs', s1, d1⟩ := R'.m.cel p _ (hin _ _ _ hI)
    by_cases hlt : i < Zs.length
    · refine .inr ⟨⟨vs', vs'[i]'(by rw [dqs_len d1, lz]; exact hlt), .of s1, List.getElem?_eq_getElem _⟩, _, fun _ _ z => z, fun x H2 y => ?_⟩
      obtain ⟨rfl, y⟩ := y
      have hz : Zs[i]? = some Zs[i] := List.getElem?_eq_getElem hlt
      obtain ⟨v, e1, e2⟩ := dqs_get (i := i) (d := zd Zs[i].1 Zs[i].2) d1 (by rw [List.getElem?_map, hz]; rfl)
      have : v = x := Option.some.inj (e1.symm.trans (y vs' (.of s1)))
      subst this
      refine hturn i _ δ' μ' hz hI F' H2 σ' R' v (dq_z e2) _ fun F3 H3 σ3 δ3 μ3 w3 R3 _ q3 => ?_
      have wa := w'.trans w3
      have back : ∀ F4 H4 σ4 δ4 μ4, Fw (ks μ3) (ks μ4) F3 H3 F4 H4 → Rp X.K F4 H4 σ4 δ4 μ4 → I (i + 1) δ4 μ4 → ∃ m', m' < Zs.length - i ∧ (m' = Zs.length - (i + 1) ∧ i + 1 ≤ Zs.length ∧ ∃ F' δ' μ', Fw (ks μ1) (ks μ') F1 H1 F' H4 ∧ Rp X.K F' H4 σ4 δ' μ' ∧ I (i + 1) δ' μ') :=
        fun F4 H4 σ4 δ4 μ4 w4 R4 q4 => ⟨_, by omega, rfl, hlt, F4, δ4, μ4, wa.trans w4, R4, q4⟩
      have bb := (b.next w1).next wa
      exact q3 F3 H3 σ3 R3 _ ⟨back, bb.rt, bb.nx, back⟩
    · have e : i = Zs.length := by omega
      subst e
      exact .inl ⟨⟨vs', .of s1, by rw [dqs_len d1, lz]; exact Nat.le_refl _⟩, b.nx F' H' σ' δ' μ' (w1.trans w') R' (hend δ' μ' hI)⟩))
end
end Ec
set_option Elab.async false
set_option linter.all false
set_option maxRecDepth 100000
set_option maxHeartbeats 4000000
namespace Ec
open PySem PySem.Spec PyProof.Rows L2
section
variable {X : Cx} {δ : Dl} {μ : Cells} {Q : Vd → Cells → Prop} {e a b o : Expr} {pos p p2 p3 p1 apos cpos : Pos} {mg : Str → Option Value}
theorem mw_appendC {K : PySem.W.Frag} {p : Addr} {ds : List PyData} {y : Vd} (ny : ∀ d, y ≠ .w d ∧ ∀ ns, y ≠ .s ns) (i : Nat) (hi : μ[i]? = some (p, (ds : Cont))) (hz : ds.length < 100000) (h : Q (.d .none) (μ.set i (p, Cont.l (ds ++ [toC y])))) : MtW K rAppend (.a p) [y] μ Q := fun F H v vs m o1 o2 QV c => by
  cases o2 with
  | cons o2 o3 =>
    cases o3
    obtain ⟨_, us, e1, hd⟩ := m.cel _ _ (List.mem_of_getElem? hi)
    obtain ⟨m2, w2⟩ := m.setCQ (es := ds ++ [toC y]) hi (dqs_app hd (.cons (VOk.toC ny o2) .nil))
    exact ⟨p, us, _, o1, rfl, e1, by rw [dqs_len hd]; exact Nat.lt_of_lt_of_le hz (by decide), c (.d .none) _ _ _ _ w2 m2 .non h⟩
theorem we_appendC (h : WE X o δ μ fun x μ1 => ∃ (p : Addr) (ds : List PyData), (∃ i : Nat, μ1[i]? = some (p, (ds : Cont))) ∧ x = .a p ∧ WE X e δ μ1 fun y μ2 => ∃ (ds : List PyData) (i : Nat), (∀ d, y ≠ .w d ∧ ∀ ns, y ≠ .s ns) ∧ μ2[i]? = some (p, (ds : Cont)) ∧ ds.length < 100000 ∧ Q (.d .none) (μ2.set i (p, Cont.l (ds ++ [toC y]))))
    (hbase : attributeBase o "append" X.env (eval o X.env) = eval o X.env := by rfl)
    (hfew : ((backTo cpos (starEach [e] X.env)).all (fun x => !x.1) && (backToKw cpos (keywordEach [] X.env)).all (fun x => x.1.isSome)
      && decide ([e].length + ([] : List Keyword).length + (if ([] : List Keyword).isEmpty then 0 else 1) < 30)) = true := by rfl)
    (hline : (apos.endLine == cpos.line) = true := by rfl) (hs : starEach [e] X.env = (false, eval e X.env) :: starEach [] X.env := by rfl) (hplain : (backTo cpos (starEach [] X.env)).any (·.1) = false := by rfl) :
    WE X (.Call (.Attribute o "append" apos) [e] [] cpos) δ μ Q :=
  we_bmL PySem.F.plainAttrs_list PySem.F.slot_list_append PySem.F.type_list_append mt_append (h.mono fun x μ1 q => by
    obtain ⟨p, ds, ⟨i, hi⟩, rfl, q⟩ := q
    refine ⟨.c i hi, wa_one (q.mono fun y μ2 q => ?_) hs⟩
    obtain ⟨ds', j, ny, hj, hz, q⟩ := q
    exact mw_appendC ny j hj hz q) hbase hfew hline hs hplain
theorem dqs_take {K : PySem.W.Frag} {F : Hp} (n : Nat) : ∀ {vs : List V} {ds : List PyData}, DqAll K F vs ds → DqAll K F (vs.take n) (ds.take n) := by
  induction n with
  | zero => intros; exact .nil
  | succ n ih =>
    intro vs ds h
    cases h with
    | nil => exact .nil
    | cons h t => exact .cons h (ih t)
theorem dqs_drop {K : PySem.W.Frag} {F : Hp} (n : Nat) : ∀ {vs : List V} {ds : List PyData}, DqAll K F vs ds → DqAll K F (vs.drop n) (ds.drop n) := by
  induction n with
  | zero => intro _ _ h; exact h
  | succ n ih =>
    intro vs ds h
    cases h with
    | nil => exact .nil
    | cons h t => exact ih t
theorem dqs_rev {K : PySem.W.Frag} {F : Hp} : ∀ {vs : List V} {ds : List PyData}, DqAll K F vs ds → DqAll K F vs.reverse ds.reverse
  | _, _, .nil => .nil
  | _, _, .cons h t => by
    rw [List.reverse_cons, List.reverse_cons]
    exact dqs_app (dqs_rev t) (.cons h .nil)
theorem dqs_cutZ {K : PySem.W.Frag} {F : Hp} {ds : List PyData} {vs : List V} (h : DqAll K F vs ds) (lo hi : Option Int) : DqAll K F (cutV vs lo hi) (cutZ ds lo hi) := by
  unfold cutV cutZ
  rw [dqs_len h]
  exact dqs_take _ (dqs_drop _ h)
theorem we_slC {lo hi : Option Expr} (h : WE X e δ μ fun x μ1 => WO X lo δ μ1 fun l μ2 => WO X hi δ μ2 fun u μ3 => ∃ (q : Addr) (ds : List PyData) (j : Nat), x = .a q ∧ μ3[j]? = some (q, (ds : Cont)) ∧ ∀ p, Q (.a p) ((p, Cont.l (cutZ ds l u)) :: μ3)) : WE X (.Subscript e (.Slice lo hi none p2) pos) δ μ Q := fun F H σ R QV c =>
  toE (pe_slice sl_list (pcE X e) (pcO lo) (pcO hi)) (h F H σ R _ fun v x F1 H1 μ1 w1 R1 o1 q => wo_run q R1 fun l F2 H2 μ2 w2 R2 q2 => wo_run q2 R2 fun u F3 H3 μ3 w3 R3 q3 => by
    obtain ⟨qa, ds, j, rfl, hj, q3⟩ := q3
    obtain ⟨_, vs, hs, hd⟩ := R3.m.cel _ _ (List.mem_of_getElem? hj)
    have ev : v = .ref qa := o1
    subst ev
    refine ⟨qa, vs, rfl, .of hs, fun l' nl => ?_⟩
    obtain ⟨m4, w4⟩ := R3.m.cellQ nl (dqs_cutZ hd l u)
    exact c _ (.a l') _ _ _ (((w1.trans w2).trans w3).trans w4) (R3.to w4.f m4) rfl (q3 l'))
theorem we_revC {k : Nat} (h : WE X e δ μ fun x μ1 => ∃ (q : Addr) (ds : List PyData) (j : Nat), x = .a q ∧ μ1[j]? = some (q, (ds : Cont)) ∧ ∀ p, Q (.a p) ((p, Cont.l ds.reverse) :: μ1)) : WE X (.Subscript e (.Slice none none (some (.UnaryOp .USub (.Constant (.int 1) k p1) p2)) p3) pos) δ μ Q := fun F H σ R QV c =>
  toE (pe_revL (pcE X e)) (h F H σ R _ fun v x F1 H1 μ1 w1 R1 o1 q => by
    obtain ⟨qa, ds, j, rfl, hj, q3⟩ := q
    obtain ⟨_, vs, hs, hd⟩ := R1.m.cel _ _ (List.mem_of_getElem? hj)
    have ev : v = .ref qa := o1
    subst ev
    refine ⟨qa, vs, rfl, .of hs, fun l' nl => ?_⟩
    obtain ⟨m4, w4⟩ := R1.m.cellQ nl (dqs_rev hd)
    exact c _ (.a l') _ _ _ (w1.trans w4) (R1.to w4.f m4) rfl (q3 l'))
theorem we_sum (B : Bl mg) (hg : Gl X "sum") (hc : X.calm = true) (h : WE X e δ μ fun x μ1 => ∃ ns : List Int, x = .d (.list (intsD ns)) ∧ Q (.d (.int ns.sum)) μ1) (hm : X.mg = mg := by rfl)
    (s1 : starEach [e] X.env = (false, eval e X.env) :: starEach [] X.env := by rfl) (s2 : (backTo pos (starEach [] X.env)).any (·.1) = false := by rfl) :
    WE X (.Call (.Name "sum" p) [e] [] pos) δ μ Q :=
  we_cb (cr_sum hc) hg (hm ▸ B.sum) PyProof.Rows.boot_sum (wa_one (h.mono fun x μ1 q => fun F H vs m o QV c => by
    obtain ⟨ns, rfl, q⟩ := q
    cases o with
    | cons o1 o2 =>
      cases o2
      obtain ⟨a, us, rfl, hs, hd⟩ := dp_lst o1
      rw [dps_ints hd] at hs
      exact ⟨a, ns, rfl, m.ex.seq hs, c (.d (.int ns.sum)) _ F H μ1 Fw.refl m (.int ns.sum) q⟩) s1) (he := s1) (hpl := s2)
theorem star_dict {ks : List (Option Expr)} {vs : List Expr} {es : List Expr} {env : Env} : starEach (.Dict ks vs pos :: es) env = (false, eval (.Dict ks vs pos) env) :: starEach es env := by
  rw [starEach.eq_def]
def tTupRgX (te : L2.St → Hp → (Int → Int → Hp → Prop) → Prop) : TE := fun σ H Q => te σ H fun a b H1 => RgOk a b ∧ ∀ (q : Addr) (o : Obj), o.dict = none → H1 q = none → Q (.ref q) (upd H1 q (.frz o (.tup (rgV a b))))
theorem pe_tupRgX {te : L2.St → Hp → (Int → Int → Hp → Prop) → Prop} (hc : X.calm = true) (hg : Gl X "tuple") (hm : X.mg "tuple" = none) (he : PRg X e te) (na : starEach [e] X.env = (false, eval e X.env) :: starEach [] X.env := by rfl) : PE X (.Call (.Name "tuple" p) [e] [] pos) (tTupRgX te) := by
  refine ⟨fun pins s σ H Q I h => ?_⟩
  refine Call_ (ld_blt I hg hm boot_tuple (PyProof.Rows.callWith_type1 (args_cons (thn (he pins s σ H _ I h) fun x s1 ⟨r, a, b, t, u, v, H1, ex, hr, I1, ok, q⟩ => args_nil ?_) na) na))
  subst ex
  obtain ⟨b1, b2, b3, b4, b5⟩ := ok
  refine call_tuple_range (n := (b - a).toNat) (I1.ok.hd hc) hr (small_one b1 b2 b3 b4) (rangeSize_nat a b) b5 fun h' tk acc hk hi => ?_
  have I2 : Inv X pins σ H1 { s1 with heap := h', toks := tk } := I1.kept hk
  have hnew : (h'.push (seqObj "tuple" acc 0)).get? h'.objs.size = some (seqObj "tuple" acc 0) := Heap.get?_push_size _ rfl
  refine ⟨.ref h'.objs.size, upd H1 h'.objs.size (.frz (seqObj "tuple" acc 0) (.tup (rgV a b))), I2.laid (t' := tk) (fun c o e => Heap.get?_push_of_some _ e) (Nat.le_refl _) (show ObjOk X.prog X.w _ _ _ (.frz (seqObj "tuple" acc 0) (.tup (rgV a b))) from ⟨hnew, ?_, acc.toList, vals_rg hi, ?_⟩), rfl, q _ _ rfl (I2.hok.fresh (Nat.le_refl _))⟩
  · rw [rgV_length, sizeLine_eq]; omega
  · rw [Array.toArray_toList]; exact IsTup.new _ _
theorem we_tupRg1 (B : Bl mg) {p2 pos2 : Pos} (hc : X.calm = true) (hg : Gl X "tuple") (hg2 : Gl X "range") (h : WE X e δ μ fun x μ1 => ∃ n : Int, x = .d (.int n) ∧ 0 ≤ n ∧ n ≤ 100000 ∧ Q (.d (.tuple (rangeD 0 n.toNat))) μ1) (hm : X.mg = mg := by rfl)
    (na : starEach [.Call (.Name "range" p2) [e] [] pos2] X.env = (false, eval (.Call (.Name "range" p2) [e] [] pos2) X.env) :: starEach [] X.env := by rfl) (nb : starEach [e] X.env = (false, eval e X.env) :: starEach [] X.env := by rfl) :
    WE X (.Call (.Name "tuple" p) [.Call (.Name "range" p2) [e] [] pos2] [] pos) δ μ Q := fun F H σ R QV c =>
  toE (pe_tupRgX hc hg (hm ▸ B.tuple) (prg_1 hg2 (hm ▸ B.range) (pcE X e) nb) na) (h F H σ R _ fun v x F1 H1 μ1 w1 R1 o1 q => by
    obtain ⟨n, rfl, h0, h1, q⟩ := q
    refine ⟨n, dp_int o1, RgOk.of_le (Int.le_refl 0) (by omega) (by omega) h0, fun l ob hob nl => ?_⟩
    obtain ⟨m2, w2⟩ := R1.m.new (o := .frz ob (.tup (rgV 0 n))) nl
    have hd := rg_deall (K := X.K) (F := upd F1 l (.frz ob (.tup (rgV 0 n)))) 0 n
    rw [show (n - 0).toNat = n.toNat by omega] at hd
    exact c _ (.d (.tuple (rangeD 0 n.toNat))) _ _ _ (w1.trans w2) (R1.to w2.f m2) (.tup upd_same hob hd) q)
end
end Ec
set_option Elab.async false
set_option linter.all false
set_option maxRecDepth 100000
set_option maxHeartbeats 4000000
namespace Ec
open PySem PySem.Spec PyProof.Rows L2
section
variable {prog : Program} {w : World} {A : Around} {E : Value → Shared → Prop} {s : Shared}
theorem whole_bounds (n : Nat) : sliceBounds none none none n = (0, (n : Int), 1) := by
  unfold sliceBounds
  simp
theorem all_parts {l b sl : Addr} {xs ys : Array Value} {n n2 : Nat} {Q : Unit → Shared → Prop}
    (e : s.heap.get? l = some { cls := .type "list", data := .seq xs n }) (e2 : s.heap.get? b = some { cls := .type "list", data := .seq ys n2 }) (ne : l ≠ b) (hs : s.heap.IsSliceOf sl .none .none .none)
    (hz : xs.size + ys.size ≤ sizeLine) (h : Q () { s with heap := s.heap.update l (Obj.mapSeq fun zs => zs.extract 0 0 ++ ys ++ zs.extract xs.size zs.size) }) : wpAny (model prog w) A (setItem (.ref l) (.ref sl) (.ref b)) Q E s := by
  have ll : s.heap.IsList l xs := PySem.IsL.isList e
  have lb : s.heap.IsList b ys := PySem.IsL.isList e2
  obtain ⟨o9, g9, c9, d9⟩ := id hs
  have t9 : s.TypeIs (.ref sl) "slice" := ⟨o9, g9, c9⟩
  have two : Builtin.List.listSameRef (.ref l) (.ref b) = false := by unfold Builtin.List.listSameRef; exact beq_eq_false_iff_ne.mpr ne
  have big : ((fun zs : Array Value => zs.extract 0 0 ++ ys ++ zs.extract xs.size zs.size) xs).size ≤ sizeLine + 1 := by simp only [Array.size_append, Array.size_extract]; omega
  unfold setItem; try with_reducible refine wpAny_holding ?_
  first | (refine wpAny_bind (wpAny_pure ?_)) | skip
  refine wpAny_bind (wpAny_sequenceKey ll.typeIs (by decide) (wpAny_bind (wpAny_callSpecial?_slot (name := Str.ofString "__setitem__") ll.typeIs slot_list_setitem (wpAny_call_entry slot_list_setitem ll.typeIs entry_list_setitem ?_ (args_list_setitem _ _ _)))))
  show wpAny _ _ (Builtin.List.listSubscript? (.ref sl) >>= _) _ _ s; refine wpAny_bind ?_
  unfold Builtin.List.listSubscript?; refine wpAny_bind (wpAny_specialOf t9 slice_no_index ?_)
  simp only [Option.isNone_none, if_true]; refine wpAny_pure ?_
  show wpAny _ _ (typeOf (.ref sl) >>= _) _ _ s; refine wpAny_bind (wpAny_typeOf t9 ?_)
  first | (rw [if_neg (by decide)]) | (refine PySem.W.KFB.if_not (by decide) ?_)
  rw [listSliceParts_eq]; refine wpAny_bind (wpAny_bind (wpAny_field g9 d9 (x := .none) rfl (wpAny_bind (wpAny_listPart .none ?_))))
  rw [if_neg (show ¬ ((rawPart none == rawInt 0) = true) from Bool.false_ne_true)]; refine wpAny_bind (wpAny_field g9 d9 (x := .none) rfl (wpAny_bind (wpAny_listPart .none ?_)))
  refine wpAny_bind (wpAny_field g9 d9 (x := .none) rfl (wpAny_bind (wpAny_listPart .none (wpAny_pure ?_))))
  first | (simp only [two, Bool.false_eq_true, if_false]) | (refine PySem.W.KFB.if_not two ?_) | (dsimp only; rw [if_neg (by rw [two]; exact Bool.false_ne_true)])
  refine wpAny_bind (m := Builtin.List.listAllItems (.ref b) "must assign iterable to extended slice") ?_; unfold Builtin.List.listAllItems
  refine wpAny_bind (wpAny_typeOf lb.typeIs ?_); first | (refine PySem.W.KFB.if_so (by decide) ?_) | (rw [if_pos (by decide)]) | (simp only [beq_self_eq_true, Bool.true_or, if_true])
  unfold Builtin.List.listItems; refine wpAny_bind (wpAny_seqItems e2 rfl (wpAny_pure ?_))
  refine wpAny_bind (wpAny_bind (wpAny_seqItems e rfl (wpAny_pure ?_))); refine wpAny_bind (wpAny_of_eq ((sliceIndices_raw none none none xs.size (by simp)).trans (congrArg (pure : Int × Int × Int → Sem (Int × Int × Int)) (whole_bounds xs.size))) ?_)
  show wpAny _ _ (if ((1 : Int) == 1) = true then _ else _) _ _ s; rw [if_pos (by decide)]
  refine wpAny_bind (wpAny_rule ?_); first | (simp only [notLongL hz, Bool.false_eq_true, if_false]) | (refine PySem.W.KFB.if_not (notLongL hz) ?_)
  first | (refine wpAny_bind (wpAny_pure ?_)) | skip
  have mx : (max (0 : Int) (xs.size : Int)).toNat = xs.size := by omega
  show wpAny _ _ (updateSeq l (fun zs => zs.extract 0 (0 : Int).toNat ++ ys ++ zs.extract (max (0 : Int) (xs.size : Int)).toNat zs.size) >>= _) _ _ s
  rw [mx, show (0 : Int).toNat = 0 from rfl]; refine wpAny_bind (wpAny_updateSeq (hz := Nat.le_trans (Nat.le_add_right _ _) hz) (_hz' := big) e rfl (wpAny_bind (wpAny_letGo ?_)))
  first | (exact wpAny_bind (wpAny_pure (wpAny_pure ⟨.none, rfl, wpAny_pure h⟩))) | (exact wpAny_pure ⟨.none, rfl, wpAny_pure h⟩)
end
def gAll (to : TE) : TG := fun v σ H Q => to σ H fun x H1 => ∃ (l b : Addr) (xs ys : List V), x = .ref l ∧ v = .ref b ∧ H1 l = some (.lst xs) ∧ H1 b = some (.lst ys) ∧ l ≠ b ∧ xs.length + ys.length ≤ sizeLine ∧ Q σ (upd H1 l (.lst ys))
theorem pg_all {X : Cx} {o : Expr} {to : TE} {pos p2 : Pos} (ho : PE X o to)
    (ha : ∀ v, assign (.Subscript o (.Slice none none none p2) pos) X.env v = (do
      let ov ← holding [v] (eval o X.env)
      let iv ← holding [v, ov] (eval (.Slice none none none p2) X.env)
      standAt pos
      holding [v, ov, iv] (setItem ov iv v)
      release [iv, v, ov] []) := by intro _; rfl) : PG X (.Subscript o (.Slice none none none p2) pos) (gAll to) := by
  refine ⟨fun pins s σ H v u Q I r h => ?_⟩
  rw [ha]
  refine wpAny_bind (wpAny_holding (thn (ho.run pins s σ H _ I h) fun ov s1 q1 => ?_))
  obtain ⟨x, H1, I1, r1, l, b, xs, ys, rfl, rfl, el, eb, ne, hz, q⟩ := q1
  cases r
  cases r1
  refine wpAny_bind (wpAny_holding ?_)
  refine wpAny_Slice ?_
  rw [evalPart_none]
  refine wpAny_pure (wpAny_pure (wpAny_pure ?_))
  have I2 : Inv X pins σ H1 { s1 with heap := s1.heap.push { cls := .type "slice", data := .fields #[.none, .none, .none] } } := I1.kept (t' := s1.toks) fun b ob q => Heap.get?_push_of_some _ q
  obtain ⟨z, its, n, rv, hl, e⟩ := I2.lstM el
  obtain ⟨z2, its2, n2, rv2, hl2, e2⟩ := I2.lstM eb
  refine wpAny_bind (wpAny_standAt (wpAny_bind (wpAny_holding (all_parts e e2 ne (Heap.IsSliceOf.new ..) (by rw [List.size_toArray, List.size_toArray]; omega) ?_))))
  refine wpAny_release ⟨σ, _, I2.lset (its' := its2) (t' := s1.toks) el e ?_ rv2 ?_, q⟩
  · simp
  · omega
section
variable {X : Cx} {δ : Dl} {μ : Cells} {o : Expr} {pos p2 : Pos}
theorem wg_all {is : List Nat} {G : Dl → Cells → Prop} {es : List PyData} (h : WE X o δ μ fun y μ1 => ∃ (p : Addr) (ds : List PyData) (j : Nat), y = .a p ∧ μ1[j]? = some (p, (ds : Cont)) ∧ ds.length + es.length ≤ 100000 ∧ G δ (μ1.set j (p, (es : Cont))))
    (ha : ∀ v, assign (.Subscript o (.Slice none none none p2) pos) X.env v = (do
      let ov ← holding [v] (eval o X.env)
      let iv ← holding [v, ov] (eval (.Slice none none none p2) X.env)
      standAt pos
      holding [v, ov, iv] (setItem ov iv v)
      release [iv, v, ov] []) := by intro _; rfl) : WGo X is (.Subscript o (.Slice none none none p2) pos) (.d (.list es)) δ μ G := fun F H σ R v ov QV c =>
  toG (pg_all (pcE X o) (ha := ha)) (h F H σ R _ fun v1 y F1 H1 μ1 w1 R1 o1 q => by
    obtain ⟨p, ds, j, rfl, hj, hz, q⟩ := q
    obtain ⟨fp, us, e1, hd⟩ := R1.m.cel _ _ (List.mem_of_getElem? hj)
    obtain ⟨b, ws, rfl, eb, hb⟩ := dp_lstX (dp_up w1.f _ _ ov)
    obtain ⟨m2, w2⟩ := R1.m.setCQ (es := es) hj (.of hb)
    exact ⟨p, b, us, ws, (o1 : v1 = .ref p), rfl, e1, R1.m.ex _ _ eb, (fun z => by rw [z, eb] at fp; cases fp), by rw [dqs_len hd, dps_len hb]; exact Nat.le_trans hz (by decide), c F1 _ σ δ _ (w1.trans w2) (R1.to w2.f m2) Only.refl q⟩)
end
end Ec
set_option Elab.async false
set_option linter.all false
set_option maxRecDepth 100000
set_option maxHeartbeats 4000000
namespace Ec
open PySem PySem.Spec PyProof.Rows L2
section
variable {X : Cx} {δ : Dl} {μ : Cells} {a b : Expr} {pos : Pos} {Q : Vd → Cells → Prop}
end
section
variable {K : PySem.W.Frag} {μ : Cells} {Q : Vd → Cells → Prop}
end
section
variable {K : PySem.W.Frag}
theorem RpM.frz1 {F H : Hp} {μ : Cells} {p : Addr} {ds : List PyData} (m : RpM K F H ((p, (ds : Cont)) :: μ)) (pl : plS ds) : ∃ F', RpM K F' H μ ∧ Fw (ks ((p, (ds : Cont)) :: μ)) (ks μ) F H F' H ∧ De K F' (.ref p) (.list ds) := by
  obtain ⟨vs, hp, hd, m2, sf, fp, out⟩ := m.freeze pl
  refine ⟨_, m2, ⟨sf, fun _ _ e _ => e, fun b f hb nb => ?_, fun b hb => .inl (List.mem_cons_of_mem _ hb)⟩, .lst upd_same hd⟩
  rw [upd_ne]
  · exact f
  · intro z
    subst z
    exact nb List.mem_cons_self
abbrev cls (ν : List (Addr × List PyData)) : Cells := ν.map fun c => (c.1, (c.2 : Cont))
theorem RpM.frzAll {H : Hp} {μ : Cells} : ∀ (ν : List (Addr × List PyData)) {F : Hp}, RpM K F H (cls ν ++ μ) → (∀ c ∈ ν, plS c.2) → ∃ F', RpM K F' H μ ∧ Fw (ks (cls ν ++ μ)) (ks μ) F H F' H ∧ ∀ c ∈ ν, De K F' (.ref c.1) (.list c.2)
  | [], F, m, _ => ⟨F, m, Fw.refl, fun c h => by cases h⟩
  | c :: ν, F, m, pl => by
    obtain ⟨F1, m1, w1, d1⟩ := RpM.frz1 (m : RpM K F H ((c.1, (c.2 : Cont)) :: (cls ν ++ μ))) (pl c List.mem_cons_self)
    obtain ⟨F2, m2, w2, d2⟩ := RpM.frzAll ν m1 fun x hx => pl x (List.mem_cons_of_mem _ hx)
    refine ⟨F2, m2, w1.trans w2, fun x hx => ?_⟩
    rcases List.mem_cons.mp hx with rfl | hx
    · exact dp_up w2.f _ _ d1
    · exact d2 x hx
abbrev Hc := List ((Addr × List PyData) × (Addr × List PyData))
def hcs (ν : Hc) : Cells := cls (ν.map Prod.fst) ++ cls (ν.map Prod.snd)
def hpt (ν : Hc) : List PyData := ν.map fun x => ptr2 x.1.1 x.2.1
end
section
variable {X : Cx} {δ : Dl} {μ : Cells} {e : Expr} {Q : Vd → Cells → Prop}
end
end Ec
set_option Elab.async false
set_option linter.all false
set_option maxRecDepth 100000
set_option maxHeartbeats 4000000
namespace Ec
open PySem PySem.Spec PyProof.Rows L2
def hN (n : Nat) (ad : Nat → Addr × Addr) (A B : Nat → List PyData) : Hc := (List.range n).map fun s => (((ad s).1, A s), ((ad s).2, B s))
section
variable {n : Nat} {ad : Nat → Addr × Addr} {A B : Nat → List PyData} {μ : Cells}
end
end Ec
set_option Elab.async false
set_option linter.all false
set_option maxRecDepth 100000
set_option maxHeartbeats 4000000
namespace Ec
open PySem PySem.Spec PyProof.Rows L2
section
variable {K : PySem.W.Frag} {μ : Cells} {Q : Vd → Cells → Prop} {X : Cx} {δ : Dl} {D : Dn}
theorem wb_dropAt (i : Nat) {y : Addr × Cont} {sts : List Stmt} (hi : μ[i]? = some y) (h : WB X sts δ (μ.eraseIdx i) D) : WB X sts δ μ D := fun F H σ R De b => by
  have pm : μ.Perm (y :: μ.eraseIdx i) := by
    obtain ⟨hl, e⟩ := List.getElem?_eq_some_iff.mp hi
    rw [← e]
    exact perm_erase hl
  have R1 := R.perm pm
  have R' : Rp X.K F H σ δ (μ.eraseIdx i) := ⟨⟨R1.m.ex, (List.nodup_cons.mp R1.m.nd).2, fun b ds m => R1.m.cel b ds (List.mem_cons_of_mem _ m)⟩, R.len, R.env⟩
  have w : Fw (ks μ) (ks (μ.eraseIdx i)) F H F H := Fw.refl.sub (fun _ h => h) fun x m => .inl ((pm.map Prod.fst).mem_iff.mpr (List.mem_cons_of_mem _ m))
  exact h F H σ R' De (b.next w)
end
end Ec
set_option Elab.async false
set_option linter.all false
set_option maxRecDepth 100000
set_option maxHeartbeats 4000000
namespace Ec
open PySem PySem.Spec PyProof.Rows L2
section
variable {K : PySem.W.Frag}
abbrev pcs (ν : List (Addr × List PyData)) : List PyData := ν.map fun c => ptr c.1
abbrev pda (ν : List (Addr × List PyData)) : List PyData := ν.map fun c => .list c.2
theorem dq_p {F : Hp} {v : V} {p : Addr} (h : Dq K F v (ptr p)) : v = .ref p := by
  generalize e : ptr p = d at h
  cases h with
  | d h =>
    subst e
    cases h
  | p c =>
    unfold ptr at e
    injection e with e
    injection e with e _
    injection e with e _
    injection e with e
    rw [Int.ofNat.inj e]
  | z h =>
    unfold ptr zd at e
    injection e with e
    injection e with e _
    injection e with _ e
    cases e
  | e h g o =>
    unfold ptr exI at e
    injection e with e
    injection e with e _
    injection e with e _
    cases e
  | q h n =>
    unfold ptr ptr2 at e
    injection e with e
    injection e with e _
    injection e with _ e
    cases e
theorem dqs_pda {F : Hp} : ∀ {ν : List (Addr × List PyData)} {vs : List V}, DqAll K F vs (pcs ν) → (∀ x ∈ ν, De K F (.ref x.1) (.list x.2)) → DeAll K F vs (pda ν)
  | [], _, h, _ => by
    cases h
    exact .nil
  | x :: ν, _, h, d => by
    cases h with
    | cons h1 h2 =>
      rw [dq_p h1]
      exact .cons (d x List.mem_cons_self) (dqs_pda h2 fun y m => d y (List.mem_cons_of_mem _ m))
theorem pda_pl (ν : List (Addr × List PyData)) : plS (pda ν) := plS_map fun _ => rfl
theorem RpM.frzP {F H : Hp} {μ : Cells} {q : Addr} {ν : List (Addr × List PyData)} (m : RpM K F H ((q, (pcs ν : Cont)) :: (cls ν ++ μ))) (pl : ∀ x ∈ ν, plS x.2) : ∃ F', RpM K F' H μ ∧ Fw (ks ((q, (pcs ν : Cont)) :: (cls ν ++ μ))) (ks μ) F H F' H ∧ De K F' (.ref q) (.list (pda ν)) := by
  have pm : ((q, (pcs ν : Cont)) :: (cls ν ++ μ)).Perm (cls ν ++ (q, (pcs ν : Cont)) :: μ) := List.perm_middle.symm
  obtain ⟨F1, m1, w1, d1⟩ := RpM.frzAll _ (m.perm pm) pl
  obtain ⟨fq, vs, hq, dq⟩ := m1.cel q _ List.mem_cons_self
  have dd := dqs_pda dq d1
  have m2 : RpM K F1 H ((q, (pda ν : Cont)) :: μ) := ⟨m1.ex, m1.nd, fun b c hb => by
    rcases List.mem_cons.mp hb with e | hb
    · cases e
      exact ⟨fq, vs, hq, .of dd⟩
    · exact m1.cel b c (List.mem_cons_of_mem _ hb)⟩
  obtain ⟨F2, m3, w3, d3⟩ := m2.frz1 (pda_pl ν)
  exact ⟨F2, m3, (w1.sub (fun x hx => (pm.map Prod.fst).mem_iff.mpr hx) fun x hx => .inl hx).trans w3, d3⟩
end
section
variable {X : Cx} {δ : Dl} {μ : Cells} {e o : Expr} {Q : Vd → Cells → Prop} {D : Dn} {pos apos cpos : Pos}
theorem we_fzP (h : WE X e δ μ fun x μ1 => ∃ (p : Addr) (ν : List (Addr × List PyData)) (μ2 : Cells), x = .a p ∧ μ1 = ((p, (pcs ν : Cont)) :: (cls ν ++ μ2) : Cells) ∧ (∀ x ∈ ν, plS x.2) ∧ Q (.d (.list (pda ν))) μ2) : WE X e δ μ Q := fun F H σ R QV c =>
  h F H σ R QV fun v x F1 H1 μ1 w1 R1 o1 q => by
    obtain ⟨p, ν, μ2, rfl, rfl, pl, q⟩ := q
    obtain ⟨F2, m2, w2, d2⟩ := R1.m.frzP pl
    have ov : v = .ref p := o1
    subst ov
    exact c _ (.d (.list (pda ν))) _ H1 μ2 (w1.trans w2) (R1.to w2.f m2) d2 q
theorem litems_p {μ : Cells} : ∀ {ν : List (Addr × List PyData)}, (∀ y ∈ ν, ∃ i : Nat, μ[i]? = some (y.1, (y.2 : Cont))) → (∀ y ∈ ν, plS y.2) → LItems μ (pcs ν) (pda ν)
  | [], _, _ => .nil
  | y :: ν, h, pl => by
    obtain ⟨i, hi⟩ := h y List.mem_cons_self
    exact .cons (.q i hi (pl y List.mem_cons_self)) (litems_p (fun z m => h z (List.mem_cons_of_mem _ m)) fun z m => pl z (List.mem_cons_of_mem _ m))
theorem lview_p {p : Addr} {ν : List (Addr × List PyData)} (pl : ∀ y ∈ ν, plS y.2) : LView ((p, (pcs ν : Cont)) :: (cls ν ++ μ)) p (.list (pda ν)) :=
  .mk 0 rfl (litems_p (fun y m => by
    have hm : (y.1, (y.2 : Cont)) ∈ (p, (pcs ν : Cont)) :: (cls ν ++ μ) := List.mem_cons_of_mem _ (List.mem_append_left _ (List.mem_map.mpr ⟨y, m, rfl⟩))
    obtain ⟨i, hi, e⟩ := List.mem_iff_getElem.mp hm
    exact ⟨i, by rw [List.getElem?_eq_getElem hi, e]⟩) pl)
theorem we_reverse (h : WE X o δ μ fun x μ1 => ∃ (p : Addr) (ds : List PyData) (i : Nat), x = .a p ∧ μ1[i]? = some (p, Cont.l ds) ∧ Q (.d .none) (μ1.set i (p, Cont.l ds.reverse)))
    (hbase : attributeBase o "reverse" X.env (eval o X.env) = eval o X.env := by rfl) (hline : (apos.endLine == cpos.line) = true := by rfl) : WE X (.Call (.Attribute o "reverse" apos) [] [] cpos) δ μ Q := fun F H σ R QV c =>
  toE (pe_bm0 PySem.F.plainAttrs_list PySem.F.slot_list_reverse PySem.F.type_list_reverse mt_reverse (pcE X o) hbase hline) (h F H σ R _ fun v x F1 H1 μ1 w1 R1 o1 q => by
    obtain ⟨p, ds, i, rfl, hi, q⟩ := q
    obtain ⟨_, us, e1, hd⟩ := R1.m.cel _ _ (List.mem_of_getElem? hi)
    have ov : v = .ref p := o1
    subst ov
    obtain ⟨m2, w2⟩ := R1.m.setCQ (es := ds.reverse) hi (dqs_rev hd)
    exact ⟨.inl ⟨rfl, us, .of e1⟩, p, us, rfl, rfl, e1, c _ (.d .none) _ _ _ (w1.trans w2) (R1.to w2.f m2) .non q⟩)
theorem ws_forP {pn : Pos} {tg : Expr} {body : List Stmt} {x : Str} {p : Addr} {ps : List Addr} (is : List Nat) (k : Nat) (hp : PassesOwn (model X.prog X.w) X.A X.env X.xe) (hc : X.calm = true)
    (hN : X.N[k]? = some x) (hv : Vis X.env.scope x) (hδ : δ[k]? = some (some (.a p))) (hm : (p, Cont.l (ps.map ptr)) ∈ μ)
    (h : ∃ I : Nat → Dl → Cells → Prop, I 0 δ μ ∧ (∀ i δ' μ', I i δ' μ' → (p, Cont.l (ps.map ptr)) ∈ μ') ∧ (∀ i q δ' μ', ps[i]? = some q → I i δ' μ' → WGo X is tg (.a q) δ' μ' fun δ2 μ2 => WB X body δ2 μ2 { nx := I (i + 1), rt := D.rt, bk := D.nx, ct := I (i + 1) }) ∧ ∀ δ' μ', I ps.length δ' μ' → D.nx δ' μ')
    (hd : (x == ("__debug__" : Str)) = false := by decide) (hcd : (x == ("__classdict__" : Str)) = false := by decide)
    (hs : ∀ y, foldedSetIterable (.Name x pn) X.env y = pure y := by intro _; rfl) : WS X (.For tg (.Name x pn) body [] pos) δ μ D := fun F H σ R De b =>
  toS (ps_for hp hc (pcI X tg (.Name x pn)) (pcG X tg) (pcB X body) hs) (toI (pi_seqS (pcE X _)) ((we_name (Q := fun y μ1 => y = .a p ∧ μ1 = μ) k hN hv hδ ⟨rfl, rfl⟩ hd hcd) F H σ R _ fun v y F1 H1 μ1 w1 R1 o1 q => by
    obtain ⟨rfl, rfl⟩ := q
    have ev : v = .ref p := o1
    subst ev
    obtain ⟨I, h0, hin, hturn, hend⟩ := h
    have seq : ∀ {F H : Hp} {μ' : Cells}, RpM X.K F H μ' → (p, Cont.l (ps.map ptr)) ∈ μ' → SqL X.K H p (ps.map V.ref) := fun {F H μ'} m hm => by
      obtain ⟨_, vs, e, hd⟩ := m.cel _ _ hm
      have : ∀ {ps : List Addr} {vs : List V}, DqAll X.K F vs (ps.map ptr) → vs = ps.map V.ref := fun {ps} => by
        induction ps with
        | nil =>
          intro vs h
          cases h
          rfl
        | cons a r ih =>
          intro vs h
          cases h with
          | cons h1 h2 => rw [dq_p h1, ih h2]; rfl
      rw [this hd] at e
      exact .of e
    refine ⟨p, _, rfl, .inl ⟨seq R1.m hm, ?_⟩⟩
    refine ⟨fun i m σ' H' => m = ps.length - i ∧ i ≤ ps.length ∧ ∃ F' δ' μ', Fw (ks μ1) (ks μ') F1 H1 F' H' ∧ Rp X.K F' H' σ' δ' μ' ∧ I i δ' μ', ⟨_, rfl, Nat.zero_le _, F1, δ, μ1, Fw.refl, R1, h0⟩, ?_⟩
    rintro i m σ' H' ⟨rfl, hi, F', δ', μ', w', R', hI⟩
    have s1 := seq R'.m (hin _ _ _ hI)
    by_cases hlt : i < ps.length
    · refine .inr ⟨⟨_, .ref ps[i], s1, by rw [List.getElem?_map, List.getElem?_eq_getElem hlt]; rfl⟩, _, fun _ _ z => z, fun x H2 y => ?_⟩
      obtain ⟨rfl, y⟩ := y
      have e2 := y _ s1
      rw [List.getElem?_map, List.getElem?_eq_getElem hlt] at e2
      have e2 : x = V.ref ps[i] := (Option.some.inj e2).symm
      subst e2
      refine hturn i _ δ' μ' (List.getElem?_eq_getElem hlt) hI F' H2 σ' R' _ rfl _ fun F3 H3 σ3 δ3 μ3 w3 R3 _ q3 => ?_
      have wa := w'.trans w3
      have back : ∀ F4 H4 σ4 δ4 μ4, Fw (ks μ3) (ks μ4) F3 H3 F4 H4 → Rp X.K F4 H4 σ4 δ4 μ4 → I (i + 1) δ4 μ4 → ∃ m', m' < ps.length - i ∧ (m' = ps.length - (i + 1) ∧ i + 1 ≤ ps.length ∧ ∃ F' δ' μ', Fw (ks μ1) (ks μ') F1 H1 F' H4 ∧ Rp X.K F' H4 σ4 δ' μ' ∧ I (i + 1) δ' μ') :=
        fun F4 H4 σ4 δ4 μ4 w4 R4 q4 => ⟨_, by omega, rfl, hlt, F4, δ4, μ4, wa.trans w4, R4, q4⟩
      have bb := (b.next w1).next wa
      exact q3 F3 H3 σ3 R3 _ ⟨back, bb.rt, bb.nx, back⟩
    · have e : i = ps.length := by omega
      subst e
      exact .inl ⟨⟨_, s1, by rw [List.length_map]; exact Nat.le_refl _⟩, b.nx F' H' σ' δ' μ' (w1.trans w') R' (hend δ' μ' hI)⟩))
end
section
variable {K : PySem.W.Frag} {μ : Cells} {Q : Vd → Cells → Prop}
theorem ow_catCC {p q : Addr} {ds es : List PyData} (i j : Nat) (hi : μ[i]? = some (p, (ds : Cont))) (hj : μ[j]? = some (q, (es : Cont))) (hl : ds.length + es.length ≤ 100000) (h : ∀ r, Q (.a r) ((r, Cont.l (ds ++ es)) :: μ)) : OpW K (OAdd K) (.a p) (.a q) μ Q := fun F H v u m o1 o2 QV c => by
  obtain ⟨_, vs, h1, d1⟩ := m.cel _ _ (List.mem_of_getElem? hi)
  obtain ⟨_, us, h2, d2⟩ := m.cel _ _ (List.mem_of_getElem? hj)
  obtain rfl : v = .ref p := o1
  obtain rfl : u = .ref q := o2
  refine .inr (.inr (.inl ⟨p, q, vs, us, rfl, rfl, h1, h2, by rw [dqs_len d1, dqs_len d2]; exact Nat.le_trans hl (by decide), fun r nr => ?_⟩))
  obtain ⟨m2, w2⟩ := m.cellQ nr (dqs_app d1 d2)
  exact c (.a r) _ _ _ _ w2 m2 rfl (h r)
end
end Ec
set_option Elab.async false
set_option linter.all false
set_option maxRecDepth 100000
set_option maxHeartbeats 4000000
namespace PySem
open Sem (wp)
namespace HT2
open HT PyProof.Rows
section
variable {prog : Program} {w : World} {A : Around} {E : Value → Shared → Prop} {s : Shared}
theorem adjust_rev (n : Nat) : Builtin.Slice.sliceAdjust none none (-1) (n : Int) = ((n : Int) - 1, -1) := by
  unfold Builtin.Slice.sliceAdjust
  rfl
theorem places_rev (n : Nat) : Builtin.Slice.slicePlaces ((n : Int) - 1) (-1) (-1) = n := by
  unfold Builtin.Slice.slicePlaces
  have h1 : ¬ ((-1 : Int) > 0) := by omega
  simp only [h1, if_false, Int.neg_neg, Int.ediv_one]
  split <;> omega
theorem sliceApplied_rev {sl : Addr} {vl vu vs : Value} {n : Nat} {Q : Int × Int × Nat → Shared → Prop} (hs : s.heap.IsSliceOf sl vl vu vs) (pl : IsPart vl none) (pu : IsPart vu none) (ps : IsPart vs (some (-1)))
    (h : Q ((n : Int) - 1, -1, n) s) : wpAny (model prog w) A (Builtin.Slice.sliceApplied (.ref sl) (pure (n : Int))) Q E s := by
  obtain ⟨os, hos, hcs, hds⟩ := id hs
  unfold Builtin.Slice.sliceApplied Builtin.Slice.sliceFields
  refine wpAny_bind (wpAny_bind (wpAny_field hos hds (x := vl) rfl (wpAny_bind (wpAny_field hos hds (x := vu) rfl (wpAny_bind (wpAny_field hos hds (x := vs) rfl (wpAny_pure ?_)))))))
  refine wpAny_bind (slicePart_ ps ?_)
  show wpAny _ _ (if ((-1 : Int) == 0) = true then _ else _) _ _ s
  rw [if_neg (by decide)]
  refine wpAny_bind (slicePart_ pl (wpAny_bind (slicePart_ pu (wpAny_bind (wpAny_pure ?_)))))
  show wpAny _ _ (match Builtin.Slice.sliceAdjust none none (-1) (n : Int) with | (lo, hi) => pure (lo, (-1 : Int), Builtin.Slice.slicePlaces lo hi (-1))) _ _ s
  rw [adjust_rev n]
  show wpAny _ _ (pure ((n : Int) - 1, (-1 : Int), Builtin.Slice.slicePlaces ((n : Int) - 1) (-1) (-1))) _ _ s
  rw [places_rev]
  exact wpAny_pure h
theorem pick_rev (xs : Array Value) : ((List.range xs.size).filterMap fun (m : Nat) => xs[(((xs.size : Nat) : Int) - 1 + (m : Int) * (-1)).toNat]?).toArray = xs.toList.reverse.toArray := by
  have e : ∀ m ∈ List.range xs.size, xs[(((xs.size : Nat) : Int) - 1 + (m : Int) * (-1)).toNat]? = some (xs.toList.reverse.getD m .none) := fun m hm => by
    rw [List.mem_range] at hm
    have h1 : (((xs.size : Nat) : Int) - 1 + (m : Int) * (-1)).toNat = xs.size - 1 - m := by omega
    rw [h1, List.getD_eq_getElem?_getD, List.getElem?_reverse (by rw [Array.length_toList]; exact hm), Array.length_toList]
    have h2 : xs.size - 1 - m < xs.size := by omega
    rw [Array.getElem?_toList, Array.getElem?_eq_getElem h2]
    rfl
  congr 1
  have e2 : ∀ l : List Nat, (∀ m ∈ l, xs[(((xs.size : Nat) : Int) - 1 + (m : Int) * (-1)).toNat]? = some (xs.toList.reverse.getD m .none)) → (l.filterMap fun (m : Nat) => xs[(((xs.size : Nat) : Int) - 1 + (m : Int) * (-1)).toNat]?) = l.map fun m => xs.toList.reverse.getD m .none := fun l => by
    induction l with
    | nil => intro _; rfl
    | cons m r ih =>
      intro h
      rw [List.filterMap_cons, h m List.mem_cons_self, List.map_cons, ih fun x hx => h x (List.mem_cons_of_mem _ hx)]
  rw [e2 _ e]
  refine List.ext_getElem? fun i => ?_
  rw [List.getElem?_map]
  by_cases hi : i < xs.size
  · rw [List.getElem?_range hi, List.getElem?_eq_getElem (by rw [List.length_reverse, Array.length_toList]; exact hi)]
    show some (xs.toList.reverse.getD i .none) = _
    rw [List.getD_eq_getElem?_getD, List.getElem?_eq_getElem (by rw [List.length_reverse, Array.length_toList]; exact hi)]
    rfl
  · rw [List.getElem?_eq_none (by rw [List.length_range]; omega), List.getElem?_eq_none (by rw [List.length_reverse, Array.length_toList]; omega)]
    rfl
theorem getItem_tuple_rev {t sl : Addr} {items : Array Value} {vl vu vs : Value} {Q : Value → Shared → Prop} (ht : IsTup s.heap t items) (hs : s.heap.IsSliceOf sl vl vu vs) (pl : IsPart vl none) (pu : IsPart vu none) (ps : IsPart vs (some (-1)))
    (h : Q (.ref s.heap.objs.size) { s with heap := s.heap.push { cls := .type "tuple", data := .seq items.toList.reverse.toArray } })
    (hsz : items.size ≤ sizeLine) : wpAny (model prog w) A (getItem (.ref t) (.ref sl)) Q E s := by
  have htake : sizeOk (.seq items.toList.reverse.toArray) := by
    show items.toList.reverse.toArray.size ≤ sizeLine
    rw [List.size_toArray, List.length_reverse, Array.length_toList]
    exact hsz
  obtain ⟨os, hos, hcs, hds⟩ := id hs
  have hTs : s.TypeIs (.ref sl) "slice" := ⟨os, hos, hcs⟩
  unfold getItem
  try with_reducible refine wpAny_holding ?_
  first | refine wpAny_bind (wpAny_pure ?_) | skip
  refine wpAny_bind (wpAny_sequenceKey ht.typeIs (by decide) ?_)
  refine wpAny_bind (wpAny_callSpecial?_slot (name := Str.ofString "__getitem__") ht.typeIs PyProof.Rows.slot_tuple_getitem
    (wpAny_call_entry PyProof.Rows.slot_tuple_getitem ht.typeIs entry_tuple_getitem ?_ (args_tuple_getitem _ _)))
  show wpAny _ _ (Builtin.Tuple.tupleItemsOf (.ref t) >>= _) _ _ s
  refine wpAny_bind (tupleItemsOf_ ht ?_)
  refine wpAny_bind (wpAny_typeOf hTs ?_)
  rw [if_pos (by decide)]
  refine wpAny_bind (sliceApplied_rev hs pl pu ps ?_)
  have hno : ¬ ((((items.size : Nat) : Int) - 1 == 0 && (-1 : Int) == 1 && items.size == items.size) = true) := by
    intro q
    rw [Bool.and_eq_true, Bool.and_eq_true] at q
    exact absurd q.1.2 (by decide)
  show wpAny _ _ (if (((items.size : Nat) : Int) - 1 == 0 && (-1 : Int) == 1 && items.size == items.size) = true then _ else _) _ _ s
  rw [if_neg hno, pick_rev]
  first
    | exact wpAny_bind (m := Builtin.Tuple.tupleExact _) (wpAny_newObj_type (wpAny_pure ⟨_, rfl, wpAny_pure h⟩) htake)
    | exact wpAny_bind (m := Builtin.Tuple.tupleExact _) (wpAny_newObj_type (wpAny_bind (wpAny_pure (wpAny_pure ⟨_, rfl, wpAny_pure h⟩))) htake)
    | exact wpAny_bind (wpAny_bind (m := Builtin.Tuple.tupleExact _) (wpAny_newObj_type (wpAny_pure (wpAny_pure ⟨_, rfl, wpAny_pure h⟩)) htake))
    | exact wpAny_bind (wpAny_bind (m := Builtin.Tuple.tupleExact _) (wpAny_newObj_type (wpAny_pure ⟨_, rfl, wpAny_pure h⟩) htake))
end
end HT2
end PySem
namespace Ec
open PySem PySem.Spec PyProof.Rows L2
section
variable {X : Cx} {δ : Dl} {μ : Cells} {e : Expr} {pos p1 p2 p3 : Pos} {Q : Vd → Cells → Prop}
def tRevT (K : PySem.W.Frag) (te : TE) : TE := fun σ H Q => te σ H fun x H1 => ∃ a xs ob, x = .ref a ∧ H1 a = some (.frz ob (.tup xs)) ∧ ∀ p (o : Obj), o.dict = none → H1 p = none → Q (.ref p) (upd H1 p (.frz o (.tup xs.reverse)))
theorem pe_revT {te : TE} {k : Nat} (he : PE X e te) : PE X (.Subscript e (.Slice none none (some (.UnaryOp .USub (.Constant (.int 1) k p1) p2)) p3) pos) (tRevT X.K te) := by
  refine ⟨fun pins s σ H Q I h => ?_⟩
  refine Subscript_ (thn (he.run pins s σ H _ I h) fun v s1 ⟨x, H1, I1, r1, q1⟩ => ?_)
  obtain ⟨a, xs, ob, ex, hx, q⟩ := q1
  subst ex
  cases r1
  have hst : PO X (some (.UnaryOp .USub (.Constant (.int 1) k p1) p2)) (tPart (tUn (rU fun i => .int (-i)) (tC (.int 1)))) := po_some (pe_un un_neg pe_int)
  refine wpAny_Slice (thn (po_none.run pins s1 σ H1 (fun o H2 => o = none ∧ H2 = H1) I1 ⟨rfl, rfl⟩) fun vl s2 ⟨l, H2, I2, pl, el, e2⟩ => ?_)
  subst el e2
  refine thn (po_none.run pins s2 σ H2 (fun o H3 => o = none ∧ H3 = H2) I2 ⟨rfl, rfl⟩) fun vu s3 ⟨u, H3, I3, pu, eu, e3⟩ => ?_
  subst eu e3
  refine thn (hst.run pins s3 σ H3 (fun o H4 => o = some (-1) ∧ H4 = H3) I3 ⟨1, rfl, -1, rfl, rfl, rfl⟩) fun vs s4 ⟨o, H4, I4, ps, eo, e4⟩ => ?_
  subst eo e4
  have I5 : Inv X pins σ H4 { s4 with heap := s4.heap.push { cls := .type "slice", data := .fields #[vl, vu, vs] } } := I4.kept (t' := s4.toks) fun b ob q => Heap.get?_push_of_some _ q
  obtain ⟨its, r, ht, hz⟩ := I5.tuple (.inl (.inr ⟨ob, hx⟩))
  have hlen := r.length
  show wpAny (model X.prog X.w) X.A (subscriptTail e (.Slice none none (some (.UnaryOp .USub (.Constant (.int 1) k p1) p2)) p3) (.ref a) (.ref s4.heap.objs.size)) (EP X pins σ Q) X.xe { s4 with heap := s4.heap.push { cls := .type "slice", data := .fields #[vl, vu, vs] } }
  refine tail_any (ops := [.ref a, .ref s4.heap.objs.size]) ht.typeIs PyProof.Rows.slot_tuple_getitem.lookup ?_ (by with_unfolding_all rfl)
  refine PySem.HT2.getItem_tuple_rev ht (Heap.IsSliceOf.new _ vl vu vs) pl pu ps ?_ (by rw [List.size_toArray]; omega)
  refine ⟨.ref _, _, I5.laid (t' := s4.toks) (o := .frz _ (.tup xs.reverse)) (fun b ob q => Heap.get?_push_of_some _ q) (Nat.le_refl _) ⟨Heap.get?_push_size _ rfl, by rw [List.length_reverse]; exact hz, _, r.reverse, IsTup.new _ _⟩, rfl, q _ _ rfl (I5.hok.fresh (Nat.le_refl _))⟩
theorem dps_rev {K : PySem.W.Frag} {F : Hp} : ∀ {vs : List V} {ds : List PyData}, DeAll K F vs ds → DeAll K F vs.reverse ds.reverse
  | _, _, .nil => .nil
  | _, _, .cons h t => by
    rw [List.reverse_cons, List.reverse_cons]
    exact dps_app (dps_rev t) (.cons h .nil)
theorem we_revT {k : Nat} (h : WE X e δ μ fun x μ1 => ∃ ds, x = .d (.tuple ds) ∧ Q (.d (.tuple ds.reverse)) μ1) : WE X (.Subscript e (.Slice none none (some (.UnaryOp .USub (.Constant (.int 1) k p1) p2)) p3) pos) δ μ Q := fun F H σ R QV c =>
  toE (pe_revT (pcE X e)) (h F H σ R _ fun v x F1 H1 μ1 w1 R1 o1 q => by
    obtain ⟨ds, rfl, q3⟩ := q
    obtain ⟨a, vs, ob, rfl, h1, h2, hd⟩ := dp_tupX o1
    refine ⟨a, vs, ob, rfl, R1.m.ex _ _ h1, fun l' o ho nl => ?_⟩
    obtain ⟨m4, w4⟩ := R1.m.new (o := .frz o (.tup vs.reverse)) nl
    exact c _ (.d (.tuple _)) _ _ μ1 (w1.trans w4) (R1.to w4.f m4) (.tup upd_same ho (dps_up w4.f _ _ (dps_rev hd))) q3)
end
end Ec
set_option Elab.async false
set_option linter.all false
set_option maxRecDepth 100000
set_option maxHeartbeats 4000000
namespace Ec
open PySem PySem.Spec PyProof.Rows L2
abbrev TL := List (List Int × Int)
def ivD (L : TL) : List (List Int × PyData) := L.map fun q => (q.1, .int q.2)
def getN : TL → List Int → Option Int
  | [], _ => none
  | p :: r, k => if p.1 = k then some p.2 else getN r k
def putN : TL → List Int → Int → TL
  | [], k, n => [(k, n)]
  | p :: r, k, n => if p.1 = k then (k, n) :: r else p :: putN r k n
abbrev kysN (L : TL) : List (List Int) := L.map Prod.fst
theorem kysN_cons (p : List Int × Int) (r : TL) : kysN (p :: r) = p.1 :: kysN r := rfl
theorem ivD_keys (L : TL) : (ivD L).map Prod.fst = kysN L := by
  unfold ivD
  rw [List.map_map]
  rfl
theorem ivD_len (L : TL) : (ivD L).length = L.length := List.length_map _
theorem getT_iv {k : List Int} : ∀ {L : TL}, getT (ivD L) k = (getN L k).map PyData.int
  | [] => rfl
  | p :: r => by
    show (if p.1 = k then some (PyData.int p.2) else getT (ivD r) k) = _
    unfold getN
    by_cases e : p.1 = k
    · rw [if_pos e, if_pos e]
      rfl
    · rw [if_neg e, if_neg e, getT_iv]
theorem putT_iv {k : List Int} {n : Int} : ∀ {L : TL}, putT (ivD L) k (.int n) = ivD (putN L k n)
  | [] => rfl
  | p :: r => by
    show (if p.1 = k then (k, PyData.int n) :: ivD r else (p.1, PyData.int p.2) :: putT (ivD r) k (.int n)) = _
    unfold putN
    by_cases e : p.1 = k
    · rw [if_pos e, if_pos e]
      rfl
    · rw [if_neg e, if_neg e, putT_iv]
      rfl
theorem getN_put {k k' : List Int} {n : Int} : ∀ {L : TL}, getN (putN L k n) k' = if k' = k then some n else getN L k'
  | [] => by
    show (if k = k' then some n else none) = _
    by_cases e : k = k'
    · rw [if_pos e, if_pos e.symm]
    · rw [if_neg e, if_neg fun z => e z.symm]
      rfl
  | p :: r => by
    unfold putN
    by_cases e : p.1 = k
    · rw [if_pos e]
      show (if k = k' then some n else getN r k') = _
      by_cases e2 : k = k'
      · rw [if_pos e2, if_pos e2.symm]
      · rw [if_neg e2, if_neg fun z => e2 z.symm]
        show _ = if p.1 = k' then _ else _
        rw [if_neg fun z => e2 (e.symm.trans z)]
    · rw [if_neg e]
      show (if p.1 = k' then some p.2 else getN (putN r k n) k') = _
      rw [getN_put]
      by_cases e2 : p.1 = k'
      · rw [if_pos e2, if_neg fun z => e (e2.trans z)]
        show _ = if p.1 = k' then _ else _
        rw [if_pos e2]
      · rw [if_neg e2]
        by_cases e3 : k' = k
        · rw [if_pos e3, if_pos e3]
        · rw [if_neg e3, if_neg e3]
          show _ = if p.1 = k' then _ else _
          rw [if_neg e2]
theorem putN_keys {k : List Int} {n : Int} : ∀ {L : TL}, (kysN L).Nodup → (kysN (putN L k n)).Nodup ∧ ∀ x, x ∈ kysN (putN L k n) ↔ x = k ∨ x ∈ kysN L
  | [], _ => ⟨by simp [putN], fun x => by simp [putN]⟩
  | p :: r, h => by
    obtain ⟨n1, n2⟩ := List.nodup_cons.mp h
    obtain ⟨g1, g2⟩ := putN_keys (k := k) (n := n) n2
    unfold putN
    by_cases e : p.1 = k
    · rw [if_pos e]
      refine ⟨List.nodup_cons.mpr ⟨by rw [← e]; exact n1, n2⟩, fun x => ?_⟩
      rw [kysN_cons, kysN_cons, List.mem_cons, List.mem_cons, e]
      exact ⟨fun z => .inr z, fun z => z.elim .inl id⟩
    · rw [if_neg e]
      refine ⟨List.nodup_cons.mpr ⟨fun z => ((g2 p.1).mp z).elim e n1, g1⟩, fun x => ?_⟩
      rw [kysN_cons, kysN_cons, List.mem_cons, List.mem_cons, g2]
      exact ⟨fun z => z.elim (fun y => .inr (.inl y)) fun y => y.elim .inl fun y => .inr (.inr y), fun z => z.elim (fun y => .inr (.inl y)) fun y => y.elim .inl fun y => .inr (.inr y)⟩
theorem getN_mem {k : List Int} {n : Int} : ∀ {L : TL}, (kysN L).Nodup → ((k, n) ∈ L ↔ getN L k = some n)
  | [], _ => by simp [getN]
  | p :: r, h => by
    obtain ⟨n1, n2⟩ := List.nodup_cons.mp h
    unfold getN
    rw [List.mem_cons]
    by_cases e : p.1 = k
    · rw [if_pos e]
      constructor
      · rintro (z | z)
        · rw [← z]
        · exact absurd (List.mem_map.mpr ⟨_, z, e.symm⟩) n1
      · intro z
        left
        cases z
        rw [← e]
    · rw [if_neg e, ← getN_mem n2]
      exact ⟨fun z => z.resolve_left fun y => e (by rw [← y]), .inr⟩
def addN (L : TL) (q : List Int × Int) : TL := putN L q.1 ((getN L q.1).getD 0 + q.2)
def accN (A : TL) : TL := A.foldl addN []
def sumN (A : TL) (k : List Int) : Int := ((A.filter fun q => decide (q.1 = k)).map Prod.snd).sum
theorem accN_snoc (A : TL) (q : List Int × Int) : accN (A ++ [q]) = addN (accN A) q := by
  unfold accN
  rw [List.foldl_append]
  rfl
theorem sumN_snoc (A : TL) (q : List Int × Int) (k : List Int) : sumN (A ++ [q]) k = sumN A k + if q.1 = k then q.2 else 0 := by
  unfold sumN
  rw [List.filter_append, List.map_append, List.sum_append]
  congr 1
  by_cases e : q.1 = k
  · rw [if_pos e, List.filter_cons_of_pos (by simpa using e)]
    simp
  · rw [if_neg e, List.filter_cons_of_neg (by simpa using e)]
    simp
theorem accN_ok : ∀ (n : Nat) (A : TL), A.length = n → (kysN (accN A)).Nodup ∧ (∀ x, x ∈ kysN (accN A) ↔ x ∈ kysN A) ∧ ∀ k, getN (accN A) k = if k ∈ kysN A then some (sumN A k) else none
  | 0, A, h => by
    cases List.length_eq_zero_iff.mp h
    exact ⟨List.nodup_nil, fun x => Iff.rfl, fun k => by simp [accN, getN]⟩
  | n + 1, A, h => by
    rcases List.eq_nil_or_concat A with rfl | ⟨B, q, rfl⟩
    · cases h
    rw [List.concat_eq_append] at h ⊢
    obtain ⟨g1, g2, g3⟩ := accN_ok n B (by rw [List.length_append] at h; simpa using h)
    rw [accN_snoc]
    obtain ⟨p1, p2⟩ := putN_keys (k := q.1) (n := (getN (accN B) q.1).getD 0 + q.2) g1
    have hk : ∀ x, x ∈ kysN (B ++ [q]) ↔ x = q.1 ∨ x ∈ kysN B := fun x => by
      unfold kysN
      rw [List.map_append, List.mem_append]
      simp only [List.map_cons, List.map_nil, List.mem_singleton]
      exact ⟨fun z => z.symm, fun z => z.symm⟩
    refine ⟨p1, fun x => by rw [hk, ← g2]; exact p2 x, fun k => ?_⟩
    show getN (putN (accN B) q.1 _) k = _
    rw [getN_put, sumN_snoc]
    by_cases e : k = q.1
    · subst e
      rw [if_pos rfl, if_pos ((hk _).mpr (.inl rfl)), if_pos rfl, g3]
      by_cases e2 : q.1 ∈ kysN B
      · rw [if_pos e2]
        rfl
      · rw [if_neg e2]
        have z : sumN B q.1 = 0 := by
          unfold sumN
          have : (B.filter fun p => decide (p.1 = q.1)) = [] := by
            rw [List.filter_eq_nil_iff]
            intro p hp hh
            exact e2 (List.mem_map.mpr ⟨p, hp, by simpa using hh⟩)
          rw [this]
          rfl
        rw [z]
        rfl
    · rw [if_neg e, g3, show (if q.1 = k then q.2 else 0) = 0 from if_neg fun z => e z.symm, Int.add_zero]
      by_cases e2 : k ∈ kysN B
      · rw [if_pos e2, if_pos ((hk _).mpr (.inr e2))]
      · rw [if_neg e2, if_neg fun z => ((hk _).mp z).elim e e2]
def Sub (n : Nat) (t : List Int) : Prop := t.Pairwise (· < ·) ∧ ∀ x ∈ t, 0 ≤ x ∧ x < n
theorem asc_ext {a b : List Int} (ha : a.Pairwise (· < ·)) (hb : b.Pairwise (· < ·)) (h : ∀ x, x ∈ a ↔ x ∈ b) : a = b := by
  have na : a.Nodup := ha.imp fun h => by omega
  have nb : b.Nodup := hb.imp fun h => by omega
  exact (perm_of_mem na nb h).eq_of_pairwise (le := fun x y => x ≤ y) (fun x y _ _ => Int.le_antisymm) (ha.imp Int.le_of_lt) (hb.imp Int.le_of_lt)
theorem sub_bound : ∀ (n : Nat) (ks : List (List Int)), ks.Nodup → (∀ k ∈ ks, Sub n k) → ks.length ≤ 2 ^ n
  | 0, ks, hn, h => by
    have h0 : ∀ k ∈ ks, k = [] := fun k hk => by
      cases k with
      | nil => rfl
      | cons x r =>
        have := (h _ hk).2 x List.mem_cons_self
        omega
    cases ks with
    | nil => simp
    | cons a r =>
      cases r with
      | nil => simp
      | cons b r =>
        have e1 := h0 a List.mem_cons_self
        have e2 := h0 b (by simp)
        rw [e1, e2] at hn
        exact absurd List.mem_cons_self (List.nodup_cons.mp hn).1
  | n + 1, ks, hn, h => by
    have i1 := sub_bound n (ks.filter fun k => !decide ((n : Int) ∈ k)) (hn.filter _) fun k hk => by
      obtain ⟨m, hk⟩ := List.mem_filter.mp hk
      have hk' : (n : Int) ∉ k := by simpa using hk
      refine ⟨(h k m).1, fun x hx => ?_⟩
      have h1 := (h k m).2 x hx
      have : x ≠ n := fun e => hk' (e ▸ hx)
      omega
    have i2 := sub_bound n ((ks.filter fun k => decide ((n : Int) ∈ k)).map fun k => k.filter fun x => decide (x < n)) (by
      rw [List.nodup_iff_pairwise_ne, List.pairwise_map]
      refine ((hn.filter _).imp_of_mem fun {a b} ha hb ne e => ne ?_)
      obtain ⟨ma, ha⟩ := List.mem_filter.mp ha
      obtain ⟨mb, hb⟩ := List.mem_filter.mp hb
      have ha' : (n : Int) ∈ a := by simpa using ha
      have hb' : (n : Int) ∈ b := by simpa using hb
      refine asc_ext (h a ma).1 (h b mb).1 fun x => ?_
      have q := congrArg (x ∈ ·) e
      simp only [List.mem_filter, decide_eq_true_eq] at q
      by_cases hx : x < n
      · exact ⟨fun z => ((iff_of_eq q).mp ⟨z, hx⟩).1, fun z => ((iff_of_eq q).mpr ⟨z, hx⟩).1⟩
      · constructor
        · intro z
          have := ((h a ma).2 x z).2
          have : x = n := by omega
          exact this ▸ hb'
        · intro z
          have := ((h b mb).2 x z).2
          have : x = n := by omega
          exact this ▸ ha') fun k hk => by
      obtain ⟨k', hk', rfl⟩ := List.mem_map.mp hk
      obtain ⟨m, _⟩ := List.mem_filter.mp hk'
      refine ⟨(h k' m).1.filter _, fun x hx => ?_⟩
      obtain ⟨m2, hx2⟩ := List.mem_filter.mp hx
      have h1 := ((h k' m).2 x m2).1
      have h2 : x < n := by simpa using hx2
      exact ⟨h1, h2⟩
    rw [List.length_map] at i2
    have e := cnt_two (fun k : List Int => decide ((n : Int) ∈ k)) ks
    rw [Nat.pow_succ]
    omega
theorem few_keys {n : Nat} {ks : List (List Int)} (hn : ks.Nodup) (h : ∀ k ∈ ks, Sub n k) (hl : n ≤ 12) : ks.length ≤ 4096 :=
  Nat.le_trans (sub_bound n ks hn h) (Nat.le_trans (Nat.pow_le_pow_right (by decide) hl) (by decide))
end Ec
set_option Elab.async false
set_option linter.all false
set_option maxRecDepth 100000
set_option maxHeartbeats 4000000
namespace Ec
open PySem PySem.Spec PyProof.Rows L2
def Wy (c : Co) : Nat → List Int → Nat
  | 0, _ => 1
  | k + 1, t => ((nexts c t).map fun p => Wy c k (t ++ [p])).sum
def ext (c : Co) : Nat → List Int → List (List Int)
  | 0, r => [r]
  | k + 1, r => (nexts c r).flatMap fun p => ext c k (r ++ [p])
theorem app_mem {s t : List Int} {p : Int} (h : ∀ x, x ∈ s ↔ x ∈ t) (x : Int) : x ∈ s ++ [p] ↔ x ∈ t ++ [p] := by
  rw [List.mem_append, List.mem_append, h]
theorem Wy_congr {c : Co} : ∀ (k : Nat) {s t : List Int}, (∀ x, x ∈ s ↔ x ∈ t) → Wy c k s = Wy c k t
  | 0, _, _, _ => rfl
  | k + 1, s, t, h => by
    unfold Wy
    rw [nexts_congr h]
    congr 1
    exact List.map_congr_left fun p _ => Wy_congr k (app_mem h)
theorem ext_len (c : Co) : ∀ (k : Nat) (r : List Int), (ext c k r).length = Wy c k r
  | 0, _ => rfl
  | k + 1, r => by
    unfold ext Wy
    rw [List.length_flatMap]
    congr 1
    exact List.map_congr_left fun p _ => ext_len c k _
theorem stepP_eq (c : Co) (s : List Int) : stepP c s = (nexts c s).map fun p => s ++ [p] := rfl
theorem ext_snoc (c : Co) : ∀ (k : Nat) (r : List Int), ext c (k + 1) r = (ext c k r).flatMap (stepP c)
  | 0, r => by
    show (nexts c r).flatMap (fun p => [r ++ [p]]) = [r].flatMap (stepP c)
    rw [List.flatMap_cons, List.flatMap_nil, List.append_nil, stepP_eq]
    generalize nexts c r = N
    induction N with
    | nil => rfl
    | cons p N ih => rw [List.flatMap_cons, ih]; rfl
  | k + 1, r => by
    show (nexts c r).flatMap (fun p => ext c (k + 1) (r ++ [p])) = ((nexts c r).flatMap fun p => ext c k (r ++ [p])).flatMap (stepP c)
    rw [List.flatMap_assoc]
    congr 1
    funext p
    exact ext_snoc c k _
theorem allP_ext (c : Co) : ∀ k, allP c k = ext c k []
  | 0 => rfl
  | k + 1 => by
    rw [ext_snoc, ← allP_ext c k]
    rfl
theorem count_all (c : Co) : (allP c c.length).length = Wy c c.length [] := by rw [allP_ext, ext_len]
theorem srt_in (r : List Int) (x : Int) : x ∈ srt r ↔ x ∈ r := mem_srt
theorem nexts_srt (c : Co) (r : List Int) : nexts c (srt r) = nexts c r := nexts_congr (srt_in r)
theorem srt_app (r : List Int) (p : Int) : srt (srt r ++ [p]) = srt (r ++ [p]) := srt_one (((srt_perm _).trans ((srt_perm r).append_right [p])).trans (srt_perm _).symm) (srt_up _) (srt_up _)
theorem POrd.next {c : Co} {r : List Int} (h : POrd c r) {p : Int} (hp : p ∈ nexts c r) : POrd c (r ++ [p]) := by
  obtain ⟨⟨h0, h1⟩, h2, h3⟩ := mem_nexts.mp hp
  exact h.add h0 h1 h2 h3
theorem POrd.sub2 {c : Co} {r : List Int} (h : POrd c r) : Sub c.length (srt r) := ⟨srt_lt h.nd, fun x m => h.rg x (mem_srt.mp m)⟩
structure Lay (c : Co) (i : Nat) (L : TL) : Prop where
  nd : (kysN L).Nodup
  val : ∀ q ∈ L, q.2 = (((allP c i).countP fun r => decide (srt r = q.1) : Nat) : Int)
  key : ∀ t, t ∈ kysN L ↔ ∃ r ∈ allP c i, srt r = t
theorem Lay.zero (c : Co) : Lay c 0 [([], 1)] where
  nd := by simp
  val := fun q hq => by
    cases List.mem_singleton.mp hq
    show (1 : Int) = (([[]] : List (List Int)).countP _ : Nat)
    rw [List.countP_cons_of_pos (by rw [srt_nil]; rfl)]
    rfl
  key := fun t => by
    show t ∈ [[]] ↔ ∃ r ∈ [[]], srt r = t
    rw [List.mem_singleton]
    constructor
    · rintro rfl
      exact ⟨[], List.mem_singleton_self _, srt_nil⟩
    · rintro ⟨r, hr, rfl⟩
      rw [List.mem_singleton.mp hr, srt_nil]
def goN (c : Co) (q : List Int × Int) : TL := (nexts c q.1).map fun p => (srt (q.1 ++ [p]), q.2)
def stepN (c : Co) (L : TL) : TL := L.flatMap (goN c)
theorem sum_hit {α : Type} {β : Type} [DecidableEq β] (f : α → Int) (key : α → β) (b : β) : ∀ (L : List α), (L.map key).Nodup → ∀ a ∈ L, key a = b → (L.map fun x => if key x = b then f x else 0).sum = f a
  | x :: L, hn, a, ha, e => by
    obtain ⟨n1, n2⟩ := List.nodup_cons.mp hn
    rw [List.map_cons, List.sum_cons]
    rcases List.mem_cons.mp ha with rfl | ha
    · rw [if_pos e]
      have : (L.map fun x => if key x = b then f x else 0) = L.map fun _ => 0 := List.map_congr_left fun y hy => if_neg fun z => n1 (List.mem_map.mpr ⟨y, hy, z.trans e.symm⟩)
      rw [this]
      have z : (L.map fun _ => (0 : Int)).sum = 0 := by
        clear this ha n1 n2 hn e
        induction L with
        | nil => rfl
        | cons _ _ ih => rw [List.map_cons, List.sum_cons, ih]; rfl
      rw [z, Int.add_zero]
    · rw [if_neg fun z => n1 (List.mem_map.mpr ⟨a, ha, e.trans z.symm⟩), Int.zero_add]
      exact sum_hit f key b L n2 a ha e
theorem sum_add {α : Type} (f g : α → Int) : ∀ (L : List α), (L.map fun x => f x + g x).sum = (L.map f).sum + (L.map g).sum
  | [] => rfl
  | x :: L => by
    rw [List.map_cons, List.sum_cons, List.map_cons, List.sum_cons, List.map_cons, List.sum_cons, sum_add f g L]
    omega
theorem sum_rows (g : List Int → Int) {L : TL} (hn : (kysN L).Nodup) : ∀ (A : List (List Int)), (∀ r ∈ A, srt r ∈ kysN L) → (L.map fun q => ((A.countP fun r => decide (srt r = q.1) : Nat) : Int) * g q.1).sum = (A.map fun r => g (srt r)).sum
  | [], _ => by
    rw [List.map_nil]
    show (L.map fun q => (((0 : Nat) : Int)) * g q.1).sum = 0
    clear hn
    induction L with
    | nil => rfl
    | cons _ _ ih => rw [List.map_cons, List.sum_cons, ih (fun r z => by cases z), Int.natCast_zero, Int.zero_mul]; rfl
  | r :: A, h => by
    have ih := sum_rows g hn A fun r m => h r (List.mem_cons_of_mem _ m)
    rw [List.map_cons, List.sum_cons, ← ih]
    obtain ⟨q0, hq0, e0⟩ := List.mem_map.mp (h r List.mem_cons_self)
    have e1 := sum_hit (fun q : List Int × Int => g q.1) Prod.fst (srt r) L hn q0 hq0 e0
    rw [← e0, ← e1, ← sum_add]
    congr 1
    refine List.map_congr_left fun q _ => ?_
    rw [List.countP_cons]
    by_cases e : q.1 = srt r
    · rw [if_pos e, if_pos (decide_eq_true e.symm), Int.natCast_add, Int.add_mul, Int.natCast_one, Int.one_mul]
      omega
    · rw [if_neg e, if_neg (by simpa using fun z => e z.symm), Int.natCast_add, Int.natCast_zero, Int.add_zero, Int.zero_add]
theorem sumN_go (c : Co) (q : List Int × Int) (t : List Int) : sumN (goN c q) t = q.2 * (((nexts c q.1).countP fun p => decide (srt (q.1 ++ [p]) = t) : Nat) : Int) := by
  unfold sumN goN
  generalize nexts c q.1 = N
  induction N with
  | nil =>
    show (0 : Int) = q.2 * ((0 : Nat) : Int)
    rw [Int.natCast_zero, Int.mul_zero]
  | cons p N ih =>
    rw [List.map_cons, List.countP_cons]
    by_cases e : srt (q.1 ++ [p]) = t
    · rw [List.filter_cons_of_pos (by simpa using e), List.map_cons, List.sum_cons, ih, if_pos (decide_eq_true e), Int.natCast_add, Int.mul_add, Int.natCast_one, Int.mul_one]
      exact Int.add_comm _ _
    · rw [List.filter_cons_of_neg (by simpa using e), ih, if_neg (by simpa using e), Nat.add_zero]
theorem sumN_app (A B : TL) (t : List Int) : sumN (A ++ B) t = sumN A t + sumN B t := by
  unfold sumN
  rw [List.filter_append, List.map_append, List.sum_append]
theorem sumN_step (c : Co) (t : List Int) : ∀ (L : TL), sumN (stepN c L) t = (L.map fun q => q.2 * (((nexts c q.1).countP fun p => decide (srt (q.1 ++ [p]) = t) : Nat) : Int)).sum
  | [] => rfl
  | q :: L => by
    show sumN (goN c q ++ stepN c L) t = _
    rw [sumN_app, sumN_go, sumN_step c t L, List.map_cons, List.sum_cons]
theorem countP_flat {α β : Type} (p : β → Bool) (f : α → List β) : ∀ A : List α, ((A.flatMap f).countP p : Nat) = (A.map fun a => (f a).countP p).sum
  | [] => rfl
  | a :: A => by rw [List.flatMap_cons, List.countP_append, countP_flat p f A, List.map_cons, List.sum_cons]
theorem natsum_cast {α : Type} (f : α → Nat) : ∀ A : List α, (((A.map f).sum : Nat) : Int) = (A.map fun a => ((f a : Nat) : Int)).sum
  | [] => rfl
  | a :: A => by rw [List.map_cons, List.sum_cons, List.map_cons, List.sum_cons, Int.natCast_add, natsum_cast f A]
theorem Lay.step {c : Co} {i : Nat} {L : TL} (h : Lay c i L) : Lay c (i + 1) (accN (stepN c L)) := by
  obtain ⟨g1, g2, g3⟩ := accN_ok _ (stepN c L) rfl
  have hk : ∀ t, t ∈ kysN (stepN c L) ↔ ∃ r ∈ allP c (i + 1), srt r = t := fun t => by
    constructor
    · intro m
      obtain ⟨x, hx, rfl⟩ := List.mem_map.mp m
      obtain ⟨q, hq, hx⟩ := List.mem_flatMap.mp hx
      obtain ⟨p, hp, rfl⟩ := List.mem_map.mp hx
      obtain ⟨r, hr, er⟩ := (h.key q.1).mp (List.mem_map.mpr ⟨q, hq, rfl⟩)
      rw [← er, nexts_srt] at hp
      refine ⟨r ++ [p], List.mem_flatMap.mpr ⟨r, hr, List.mem_map.mpr ⟨p, hp, rfl⟩⟩, ?_⟩
      show srt (r ++ [p]) = srt (q.1 ++ [p])
      rw [← er, srt_app]
    · rintro ⟨r', hr', rfl⟩
      obtain ⟨r, hr, hx⟩ := List.mem_flatMap.mp hr'
      obtain ⟨p, hp, rfl⟩ := List.mem_map.mp hx
      obtain ⟨q, hq, eq⟩ := List.mem_map.mp ((h.key (srt r)).mpr ⟨r, hr, rfl⟩)
      refine List.mem_map.mpr ⟨(srt (q.1 ++ [p]), q.2), List.mem_flatMap.mpr ⟨q, hq, List.mem_map.mpr ⟨p, ?_, rfl⟩⟩, ?_⟩
      · show p ∈ nexts c q.1
        rw [eq, nexts_srt]
        exact hp
      · show srt (q.1 ++ [p]) = _
        rw [eq, srt_app]
  refine ⟨g1, fun q hq => ?_, fun t => by rw [g2]; exact hk t⟩
  have e := (getN_mem g1).mp (show (q.1, q.2) ∈ accN (stepN c L) from hq)
  rw [g3, if_pos ((g2 q.1).mp (List.mem_map.mpr ⟨q, hq, rfl⟩))] at e
  have e' : q.2 = sumN (stepN c L) q.1 := (Option.some.inj e).symm
  rw [e', sumN_step]
  have e1 : (L.map fun x => x.2 * (((nexts c x.1).countP fun p => decide (srt (x.1 ++ [p]) = q.1) : Nat) : Int)) = L.map fun x => (((allP c i).countP fun r => decide (srt r = x.1) : Nat) : Int) * (((nexts c x.1).countP fun p => decide (srt (x.1 ++ [p]) = q.1) : Nat) : Int) := List.map_congr_left fun x hx => by rw [h.val x hx]
  rw [e1, sum_rows (fun t => (((nexts c t).countP fun p => decide (srt (t ++ [p]) = q.1) : Nat) : Int)) h.nd (allP c i) fun r hr => (h.key _).mpr ⟨r, hr, rfl⟩]
  show _ = ((((allP c i).flatMap (stepP c)).countP _ : Nat) : Int)
  rw [countP_flat, natsum_cast]
  congr 1
  refine List.map_congr_left fun r _ => ?_
  rw [stepP_eq, List.countP_map, nexts_srt]
  congr 1
  refine List.countP_congr fun p _ => ?_
  show decide (srt (srt r ++ [p]) = q.1) = true ↔ decide (srt (r ++ [p]) = q.1) = true
  rw [srt_app]
theorem Lay.sub {c : Co} {i : Nat} {L : TL} (h : Lay c i L) : ∀ k ∈ kysN L, Sub c.length k := fun k hk => by
  obtain ⟨r, hr, rfl⟩ := (h.key k).mp hk
  exact (mem_allP.mp hr).1.sub2
theorem Lay.few {c : Co} {i : Nat} {L : TL} (h : Lay c i L) (hl : c.length ≤ 12) : L.length ≤ 4096 := by
  have := few_keys h.nd h.sub hl
  rwa [List.length_map] at this
theorem part_few {c : Co} {i : Nat} {L : TL} (h : Lay c i L) (hl : c.length ≤ 12) {A : TL} (hA : ∀ x ∈ A, x ∈ stepN c L) : (kysN (accN A)).Nodup ∧ (accN A).length ≤ 4096 := by
  obtain ⟨g1, g2, g3⟩ := accN_ok _ A rfl
  refine ⟨g1, ?_⟩
  have := few_keys g1 (fun k hk => ?_) hl
  · rwa [List.length_map] at this
  · obtain ⟨x, hx, rfl⟩ := List.mem_map.mp ((g2 k).mp hk)
    have h2 := h.step
    obtain ⟨_, q2, _⟩ := accN_ok _ (stepN c L) rfl
    exact h2.sub _ ((q2 _).mpr (List.mem_map.mpr ⟨x, hA x hx, rfl⟩))
end Ec
set_option Elab.async false
set_option linter.all false
set_option maxRecDepth 100000
set_option maxHeartbeats 4000000
namespace Ec
open PySem PySem.Spec PyProof.Rows L2
def Lys (c : Co) (Zs : List (Addr × List (List Int × PyData))) (n : Nat) : Prop := Zs.length = n ∧ ∀ (i : Nat) z, Zs[i]? = some z → ∃ L, z.2 = ivD L ∧ Lay c i L
theorem Lys.snoc {c : Co} {Zs : List (Addr × List (List Int × PyData))} {n : Nat} (h : Lys c Zs n) {p : Addr} {L : TL} (hl : Lay c n L) : Lys c (Zs ++ [(p, ivD L)]) (n + 1) := by
  refine ⟨by rw [List.length_append, h.1]; rfl, fun i z hz => ?_⟩
  by_cases e : i < Zs.length
  · rw [List.getElem?_append_left e] at hz
    exact h.2 i z hz
  · rw [List.getElem?_append_right (by omega)] at hz
    have e2 : i - Zs.length = 0 := by
      have := (List.getElem?_eq_some_iff.mp hz).1
      rw [List.length_singleton] at this
      omega
    rw [e2] at hz
    cases hz
    have : i = n := by rw [← h.1]; omega
    subst this
    exact ⟨L, rfl, hl⟩
structure En (c : Co) (i : Nat) (D : TL) : Prop where
  nd : (kysN D).Nodup
  sub : ∀ k ∈ kysN D, Sub c.length k
  val : ∀ r, POrd c r → i ≤ r.length → getN D (srt r) = some ((Wy c (c.length - r.length) r : Nat) : Int)
theorem En.few {c : Co} {i : Nat} {D : TL} (h : En c i D) (hl : c.length ≤ 12) : D.length ≤ 4096 := by
  have := few_keys h.nd h.sub hl
  rwa [List.length_map] at this
theorem rng_sub (n : Nat) : Sub n (rng n) := ⟨rng_lt n, fun x m => mem_rng.mp m⟩
theorem En.start (c : Co) : En c c.length [(rng c.length, 1)] where
  nd := by simp
  sub := fun k hk => by
    cases List.mem_singleton.mp hk
    exact rng_sub _
  val := fun r hr hl => by
    have h1 := hr.len
    have e : r.length = c.length := by omega
    rw [(IsOrd.row ⟨hr, e⟩).srt, e, Nat.sub_self]
    show (if rng c.length = rng c.length then some (1 : Int) else none) = _
    rw [if_pos rfl]
    rfl
structure EnP (c : Co) (m : Nat) (L : TL) (j : Nat) (D : TL) : Prop where
  nd : (kysN D).Nodup
  sub : ∀ k ∈ kysN D, Sub c.length k
  val : ∀ r, POrd c r → (m + 1 ≤ r.length ∨ srt r ∈ kysN (L.take j)) → getN D (srt r) = some ((Wy c (c.length - r.length) r : Nat) : Int)
theorem EnP.few {c : Co} {m j : Nat} {L D : TL} (h : EnP c m L j D) (hl : c.length ≤ 12) : D.length ≤ 4096 := by
  have := few_keys h.nd h.sub hl
  rwa [List.length_map] at this
theorem En.enter {c : Co} {m : Nat} {D : TL} (h : En c (m + 1) D) (L : TL) : EnP c m L 0 D := ⟨h.nd, h.sub, fun r hr hl => h.val r hr (hl.elim id fun z => by simp at z)⟩
theorem EnP.leave {c : Co} {m : Nat} {L D : TL} (h : EnP c m L L.length D) (hL : Lay c m L) : En c m D := ⟨h.nd, h.sub, fun r hr hl => h.val r hr (by
  by_cases e : m + 1 ≤ r.length
  · exact .inl e
  · refine .inr ?_
    rw [List.take_length]
    exact (hL.key _).mpr ⟨r, mem_allP.mpr ⟨hr, by omega⟩, rfl⟩)⟩
theorem Lay.row {c : Co} {m j : Nat} {L : TL} (h : Lay c m L) {q : List Int × Int} (hq : L[j]? = some q) : ∃ r, POrd c r ∧ r.length = m ∧ srt r = q.1 ∧ ∀ x, x ∈ q.1 ↔ x ∈ r := by
  obtain ⟨r, hr, e⟩ := (h.key q.1).mp (List.mem_map.mpr ⟨q, List.mem_of_getElem? hq, rfl⟩)
  obtain ⟨h1, h2⟩ := mem_allP.mp hr
  exact ⟨r, h1, h2, e, fun x => by rw [← e, mem_srt]⟩
theorem EnP.at {c : Co} {m j : Nat} {L D : TL} (h : EnP c m L j D) (hL : Lay c m L) {q : List Int × Int} (hq : L[j]? = some q) {p : Int} (hp : p ∈ nexts c q.1) : getN D (srt (q.1 ++ [p])) = some ((Wy c (c.length - (m + 1)) (q.1 ++ [p]) : Nat) : Int) := by
  obtain ⟨r, h1, h2, e, hm⟩ := hL.row hq
  have hp' : p ∈ nexts c r := by rw [← nexts_congr hm]; exact hp
  have h3 := h1.next hp'
  have h4 : (r ++ [p]).length = m + 1 := by rw [List.length_append, h2]; rfl
  have v := h.val _ h3 (.inl (by omega))
  rw [h4] at v
  rw [← e, srt_app, v, Wy_congr _ (app_mem (srt_in r))]
theorem Wy_succ (c : Co) (k : Nat) (t : List Int) : Wy c (k + 1) t = ((nexts c t).map fun p => Wy c k (t ++ [p])).sum := rfl
theorem EnP.step {c : Co} {m j : Nat} {L D : TL} (h : EnP c m L j D) (hL : Lay c m L) (hm : m < c.length) {q : List Int × Int} (hq : L[j]? = some q) : EnP c m L (j + 1) (putN D q.1 ((Wy c (c.length - m) q.1 : Nat) : Int)) := by
  obtain ⟨r0, h1, h2, e, hm0⟩ := hL.row hq
  obtain ⟨g1, g2⟩ := putN_keys (k := q.1) (n := ((Wy c (c.length - m) q.1 : Nat) : Int)) h.nd
  refine ⟨g1, fun k hk => ?_, fun r hr hl => ?_⟩
  · rcases (g2 k).mp hk with rfl | hk
    · rw [← e]
      exact h1.sub2
    · exact h.sub k hk
  · rw [getN_put]
    by_cases er : srt r = q.1
    · rw [if_pos er]
      have hmr : ∀ x, x ∈ q.1 ↔ x ∈ r := fun x => by rw [← er, mem_srt]
      have el : r.length = m := by
        have p1 := (srt_perm r).length_eq
        have p2 := (srt_perm r0).length_eq
        rw [er, ← e] at p1
        omega
      rw [el, Wy_congr _ hmr]
    · rw [if_neg er]
      refine h.val r hr (hl.imp_right fun z => ?_)
      rw [List.take_add_one, hq] at z
      unfold kysN at z
      rw [List.map_append, List.mem_append] at z
      exact z.resolve_right fun y => er (by simpa using y)
theorem sum_Wy {c : Co} {m : Nat} (hm : m < c.length) (t : List Int) : ((nexts c t).map fun p => ((Wy c (c.length - (m + 1)) (t ++ [p]) : Nat) : Int)).sum = ((Wy c (c.length - m) t : Nat) : Int) := by
  rw [show c.length - m = (c.length - (m + 1)) + 1 by omega, Wy_succ, natsum_cast]
theorem itm_item {L : TL} {j : Nat} {d : PyData} (h : ((ivD L).map itmD)[j]? = some d) : ∃ q, L[j]? = some q ∧ d = .tuple [.tuple (intsD q.1), .int q.2] := by
  unfold ivD at h
  rw [List.getElem?_map, List.getElem?_map] at h
  cases e : L[j]? with
  | none =>
    rw [e] at h
    cases h
  | some q =>
    rw [e] at h
    cases h
    exact ⟨q, rfl, rfl⟩
theorem itm_len {L : TL} : ((ivD L).map itmD).length = L.length := by rw [List.length_map, ivD_len]
theorem atI_last {n i : Nat} {Zs : List (Addr × List (List Int × PyData))} {p : Addr} {kvs : List (List Int × PyData)} (h : Zs[i]? = some (p, kvs)) (hl : Zs.length = n) (e : n = i + 1 := by rfl) : atI (zds Zs) (-1) = some (zd p kvs) := by
  unfold atI
  have e1 : ixN (zds Zs).length (-1) = some i := by
    rw [List.length_map, hl, e]
    unfold ixN
    rw [if_neg (by omega), if_pos (by omega)]
    congr 1
    omega
  rw [e1]
  show (Zs.map _)[i]? = _
  rw [List.getElem?_map, h]
  rfl
theorem getD_int (o : Option Int) (n : Int) : (o.map PyData.int).getD (.int n) = .int (o.getD n) := by cases o <;> rfl
theorem step_more {c : Co} {L : TL} {j : Nat} {q : List Int × Int} (h : L[j]? = some q) : stepN c (L.take j) ++ goN c q = stepN c (L.take (j + 1)) := by
  rw [List.take_add_one, h]
  unfold stepN
  rw [List.flatMap_append]
  simp
theorem go_all {c : Co} {q : List Int × Int} : (goN c q).take (nexts c q.1).length = goN c q := List.take_of_length_le (by unfold goN; rw [List.length_map]; exact Nat.le_refl _)
theorem step_part {c : Co} {L : TL} {j : Nat} {q : List Int × Int} (h : L[j]? = some q) (k : Nat) : ∀ x ∈ stepN c (L.take j) ++ (goN c q).take k, x ∈ stepN c L := fun x hx => by
  rcases List.mem_append.mp hx with hx | hx
  · obtain ⟨y, hy, hx⟩ := List.mem_flatMap.mp hx
    exact List.mem_flatMap.mpr ⟨y, List.mem_of_mem_take hy, hx⟩
  · exact List.mem_flatMap.mpr ⟨q, List.mem_of_getElem? h, List.mem_of_mem_take hx⟩
theorem app_at {α : Type} {l : List α} {a : α} {n : Nat} (h : l.length = n) : (l ++ [a])[n]? = some a := by
  rw [List.getElem?_append_right (by omega), h, Nat.sub_self]
  rfl
theorem app_set {α : Type} {l : List α} {a b : α} {n : Nat} (h : l.length = n) : (l ++ [a]).set n b = l ++ [b] := by
  rw [List.set_append_right _ _ (by omega), h, Nat.sub_self]
  rfl
theorem cut_last {Zs : List (Addr × List (List Int × PyData))} {n : Nat} (h : Zs.length = n + 1) : cutZ (zds Zs) none (some (-1)) = zds (Zs.take n) := by
  unfold cutZ zds
  rw [HT.sIx_none, List.length_map, h]
  have e : HT.sIx (n + 1) (n + 1) (some (-1)) = n := by
    show (if (-1 : Int) < 0 then ((-1 : Int) + ((n + 1 : Nat) : Int)).toNat else min (-1 : Int).toNat (n + 1)) = n
    rw [if_pos (by omega)]
    omega
  rw [e, Nat.sub_zero, List.map_take]
  rfl
theorem zds_rev (Zs : List (Addr × List (List Int × PyData))) : (zds Zs).reverse = zds Zs.reverse := by
  unfold zds
  rw [List.map_reverse]
theorem rev_take {Zs : List (Addr × List (List Int × PyData))} {n j : Nat} {z : Addr × List (List Int × PyData)} (h : Zs.length = n + 1) (hz : (Zs.take n).reverse[j]? = some z) : j < n ∧ Zs[n - 1 - j]? = some z := by
  have hj := (List.getElem?_eq_some_iff.mp hz).1
  rw [List.length_reverse, List.length_take, h, Nat.min_eq_left (by omega)] at hj
  rw [List.getElem?_reverse (by rw [List.length_take, h]; omega), List.length_take, h, Nat.min_eq_left (by omega), List.getElem?_take, if_pos (by omega)] at hz
  exact ⟨hj, hz⟩
theorem key_item {L : TL} {i : Nat} {t : List Int} (h : (kysN L)[i]? = some t) : ∃ q, L[i]? = some q ∧ q.1 = t := by
  rw [List.getElem?_map] at h
  cases e : L[i]? with
  | none =>
    rw [e] at h
    cases h
  | some q =>
    rw [e] at h
    cases h
    exact ⟨q, rfl, rfl⟩
abbrev T_layers : TrD := fun xs μ R => ∃ (dc : PyData) (c : Co), xs = [.d dc] ∧ CoD dc c ∧ c.length ≤ 12 ∧ ∀ q Zs, Lys c Zs (c.length + 1) → R (.a q) ((q, Cont.l (zds Zs)) :: μ)
abbrev T_ends : TrD := fun xs μ R => ∃ (dc : PyData) (c : Co) (q : Addr) (Zs : List (Addr × List (List Int × PyData))), xs = [.d dc, .a q] ∧ CoD dc c ∧ c.length ≤ 12 ∧ Lys c Zs (c.length + 1) ∧ μ = ([(q, Cont.l (zds Zs))] : Cells) ∧ ∀ p D, En c 0 D → R (.a p) [(p, Cont.t (ivD D)), (q, Cont.l (zds Zs))]
abbrev T_ways : TrD := fun xs μ R => ∃ (dc : PyData) (c : Co), xs = [.d dc] ∧ CoD dc c ∧ c.length ≤ 12 ∧ nev c = [] ∧ ∀ p D, En c 0 D → R (.a p) ((p, Cont.t (ivD D)) :: μ)
abbrev T_looks : TrD := fun xs μ R => ∃ (dc : PyData) (c : Co), xs = [.d dc] ∧ CoD dc c ∧ c.length ≤ 12 ∧ nev c = [] ∧ R (.d .none) μ
abbrev T_count : TrD := fun xs μ R => ∃ (dc : PyData) (c : Co), xs = [.d dc] ∧ CoD dc c ∧ c.length ≤ 12 ∧ nev c = [] ∧ R (.d (.int ((Wy c c.length [] : Nat) : Int))) μ
end Ec
set_option Elab.async false
set_option linter.all false
set_option maxRecDepth 100000
set_option maxHeartbeats 4000000
namespace Ec
open PySem PySem.Spec PyProof.Rows L2
theorem we_gint {X : Cx} {δ : Dl} {μ : Cells} {Q : Vd → Cells → Prop} {x : Str} {n : Int} {pos : Pos} {mg : Str → Option Value} (hg : Gl X x) (hm : ∃ t, mg x = some (.int n t)) (h : Q (.d (.int n)) μ) (hX : X.mg = mg := by rfl) (hd : (x == ("__debug__" : Str)) = false := by decide) : WE X (.Name x pos) δ μ Q := fun F H σ R QV k => by
  obtain ⟨t, e⟩ := hm
  exact toE (pe_glob (v := V.int n) hg (by rw [hX]; exact e) ⟨t, rfl⟩ hd) (k _ (.d (.int n)) F H μ Fw.refl R (.int n) h)
theorem nexts_asc (c : Co) (t : List Int) : (nexts c t).Pairwise (· < ·) := ((rng_lt _).filter _).filter _
theorem mem_ext {c : Co} : ∀ (k : Nat) {r s : List Int}, POrd c r → s ∈ ext c k r → POrd c s ∧ s.length = r.length + k ∧ s.take r.length = r
  | 0, r, s, h, m => by
    cases List.mem_singleton.mp m
    exact ⟨h, rfl, List.take_length⟩
  | k + 1, r, s, h, m => by
    obtain ⟨p, hp, hs⟩ := List.mem_flatMap.mp m
    obtain ⟨h1, h2, h3⟩ := mem_ext k (h.next hp) hs
    rw [List.length_append, List.length_singleton] at h2 h3
    refine ⟨h1, by omega, ?_⟩
    have := congrArg (List.take r.length) h3
    rw [List.take_take, Nat.min_eq_left (by omega), List.take_left] at this
    exact this
theorem ext_nodup {c : Co} : ∀ (k : Nat) {r : List Int}, POrd c r → (ext c k r).Nodup
  | 0, r, _ => by
    show [r].Nodup
    simp
  | k + 1, r, h => by
    show ((nexts c r).flatMap fun p => ext c k (r ++ [p])).Nodup
    have hd := (nexts_asc c r).imp fun {a b} (z : a < b) => (show a ≠ b by omega)
    have hin : ∀ p ∈ nexts c r, p ∈ nexts c r := fun p m => m
    revert hin hd
    generalize hN : nexts c r = N
    intro hd hin
    have hin' : ∀ p ∈ N, p ∈ nexts c r := fun p m => hN ▸ m
    clear hN hin
    induction N with
    | nil => exact List.nodup_nil
    | cons p N ih =>
      rw [List.flatMap_cons]
      obtain ⟨d1, d2⟩ := List.pairwise_cons.mp hd
      refine List.nodup_append.mpr ⟨ext_nodup k (h.next (hin' p List.mem_cons_self)), ih d2 fun q m => hin' q (List.mem_cons_of_mem _ m), fun x mx y my e => ?_⟩
      subst e
      obtain ⟨q, hq, my⟩ := List.mem_flatMap.mp my
      obtain ⟨_, _, e1⟩ := mem_ext k (h.next (hin' p List.mem_cons_self)) mx
      obtain ⟨_, _, e2⟩ := mem_ext k (h.next (hin' q (List.mem_cons_of_mem _ hq))) my
      rw [List.length_append, List.length_singleton] at e1 e2
      rw [e1] at e2
      have := List.append_cancel_left e2
      exact d1 q hq (List.singleton_inj.mp this)
theorem allP_nodup (c : Co) (k : Nat) : (allP c k).Nodup := by
  rw [allP_ext]
  exact ext_nodup k (POrd.nil c)
theorem all_at {c : Co} {k i j : Nat} {r : List Int} (h : (allP c k)[i]? = some r) (g : (allP c k)[j]? = some r) : i = j := (List.getElem?_inj (List.getElem?_eq_some_iff.mp h).1 (allP_nodup c k)).mp (h.trans g.symm)
theorem flat_head {α β : Type} (f : α → List β) {x : α} {l : List α} {k : Nat} {y : β} (h : ((x :: l).flatMap f)[k]? = some y) : (k < (f x).length ∧ (f x)[k]? = some y) ∨ ((f x).length ≤ k ∧ (l.flatMap f)[k - (f x).length]? = some y) := by
  rw [List.flatMap_cons] at h
  by_cases e : k < (f x).length
  · rw [List.getElem?_append_left e] at h
    exact .inl ⟨e, h⟩
  · rw [List.getElem?_append_right (by omega)] at h
    exact .inr ⟨by omega, h⟩
theorem En.next {c : Co} {D : TL} (h : En c 0 D) {r : List Int} (hr : POrd c r) {p : Int} (hp : p ∈ nexts c r) : getN D (srt (r ++ [p])) = some ((Wy c (c.length - (r.length + 1)) (r ++ [p]) : Nat) : Int) := by
  have := h.val _ (hr.next hp) (Nat.zero_le _)
  rw [List.length_append, List.length_singleton] at this
  exact this
theorem En.all {c : Co} {D : TL} (h : En c 0 D) : getN D [] = some ((Wy c c.length [] : Nat) : Int) := by
  have := h.val [] (POrd.nil c) (Nat.zero_le _)
  rw [srt_nil] at this
  exact this
theorem un_zero {c : Co} {m : Nat} {r t : List Int} {k : Nat} (hm : r.length + 1 + m = c.length) (h : (ext c (c.length - r.length) r)[k]? = some t) : (((nexts c r).drop 0).flatMap fun p => ext c (c.length - (r.length + 1)) (r ++ [p]))[k]? = some t := by
  rw [show c.length - r.length = (c.length - (r.length + 1)) + 1 by omega] at h
  exact h
theorem un_step {c : Co} {r t : List Int} {k j m : Nat} {p : Int} (hp : (nexts c r)[j]? = some p) (h : (((nexts c r).drop j).flatMap fun p => ext c m (r ++ [p]))[k]? = some t) :
    (k < Wy c m (r ++ [p]) ∧ (ext c m (r ++ [p]))[k]? = some t) ∨ (Wy c m (r ++ [p]) ≤ k ∧ (((nexts c r).drop (j + 1)).flatMap fun p => ext c m (r ++ [p]))[k - Wy c m (r ++ [p])]? = some t) := by
  obtain ⟨hj, e⟩ := List.getElem?_eq_some_iff.mp hp
  rw [List.drop_eq_getElem_cons hj, e] at h
  have := flat_head _ h
  rw [ext_len] at this
  exact this
def Beg (c : Co) (s : List Int) (f : Nat) : Prop := ∀ k y, (ext c (c.length - s.length) s)[k]? = some y → (allP c c.length)[f + k]? = some y
theorem Beg.zero (c : Co) : Beg c [] 0 := fun k y h => by
  rw [Nat.zero_add, allP_ext]
  exact h
theorem flat_at {α β : Type} (f : α → List β) : ∀ {l : List α} {j : Nat} {x : α} {k : Nat} {y : β}, l[j]? = some x → (f x)[k]? = some y → (l.flatMap f)[((l.take j).map fun a => (f a).length).sum + k]? = some y
  | a :: l, 0, x, k, y, h, g => by
    cases h
    rw [List.flatMap_cons, List.take_zero, List.map_nil, List.sum_nil, Nat.zero_add, List.getElem?_append_left (List.getElem?_eq_some_iff.mp g).1]
    exact g
  | a :: l, j + 1, x, k, y, h, g => by
    rw [List.flatMap_cons, List.take_succ_cons, List.map_cons, List.sum_cons, List.getElem?_append_right (by omega)]
    have := flat_at f (l := l) (j := j) h g
    rw [show (f a).length + ((l.take j).map fun a => (f a).length).sum + k - (f a).length = ((l.take j).map fun a => (f a).length).sum + k by omega]
    exact this
theorem asc_less : ∀ {l : List Int} {j : Nat} {x : Int}, l.Pairwise (· < ·) → l[j]? = some x → (l.filter fun y => decide (y < x)) = l.take j
  | a :: l, 0, x, hp, h => by
    cases h
    obtain ⟨h1, _⟩ := List.pairwise_cons.mp hp
    rw [List.take_zero, List.filter_cons_of_neg (by simp), List.filter_eq_nil_iff]
    intro y hy z
    have := h1 y hy
    have z' : y < a := by simpa using z
    omega
  | a :: l, j + 1, x, hp, h => by
    obtain ⟨h1, h2⟩ := List.pairwise_cons.mp hp
    have := h1 x (List.mem_of_getElem? h)
    rw [List.filter_cons_of_pos (by simpa using this), List.take_succ_cons, asc_less h2 h]
theorem Beg.step {c : Co} {s : List Int} {f : Nat} (h : Beg c s f) {x : Int} (hx : x ∈ nexts c s) (hl : s.length < c.length) : Beg c (s ++ [x]) (f + (((nexts c s).filter fun y => decide (y < x)).map fun o => Wy c (c.length - (s.length + 1)) (s ++ [o])).sum) := fun k y g => by
  obtain ⟨j, hj⟩ := List.getElem?_of_mem hx
  rw [List.length_append, List.length_singleton] at g
  have := flat_at (fun p => ext c (c.length - (s.length + 1)) (s ++ [p])) hj g
  have e := h _ y (by rw [show c.length - s.length = (c.length - (s.length + 1)) + 1 by omega]; exact this)
  rw [asc_less (nexts_asc c s) hj]
  rw [show (((nexts c s).take j).map fun o => Wy c (c.length - (s.length + 1)) (s ++ [o])) = ((nexts c s).take j).map fun a => (ext c (c.length - (s.length + 1)) (s ++ [a])).length from List.map_congr_left fun a _ => (ext_len _ _ _).symm, Nat.add_assoc]
  exact e
theorem Beg.end {c : Co} {r : List Int} {f : Nat} (h : Beg c r f) (hl : r.length = c.length) : (allP c c.length)[f]? = some r := h 0 r (by rw [hl, Nat.sub_self]; rfl)
theorem all_grow {c : Co} (hw : nev c = []) {k : Nat} (hk : k < c.length) : (allP c k).length ≤ (allP c (k + 1)).length := by
  show _ ≤ ((allP c k).flatMap (stepP c)).length
  have h : ∀ r ∈ allP c k, 1 ≤ (stepP c r).length := fun r hr => by
    obtain ⟨h1, h2⟩ := mem_allP.mp hr
    obtain ⟨x, g0, g1, g2, g3⟩ := h1.more hw (by omega)
    rw [stepP_eq, List.length_map]
    exact List.length_pos_of_mem (mem_nexts.mpr ⟨⟨g0, g1⟩, g2, g3⟩)
  generalize allP c k = A at h
  induction A with
  | nil => exact Nat.zero_le _
  | cons r A ih =>
    have h1 := h r List.mem_cons_self
    have h2 := ih fun s m => h s (List.mem_cons_of_mem _ m)
    rw [List.flatMap_cons, List.length_append, List.length_cons]
    omega
theorem all_le {c : Co} (hw : nev c = []) : ∀ {k : Nat}, k ≤ c.length → (allP c k).length ≤ (allP c c.length).length := fun {k} h => by
  obtain ⟨d, hd⟩ : ∃ d, c.length = k + d := ⟨c.length - k, by omega⟩
  induction d generalizing k with
  | zero =>
    rw [hd]
    exact Nat.le_refl _
  | succ d ih => exact Nat.le_trans (all_grow hw (by omega)) (ih (by omega) (by omega))
theorem take_new {r : List Int} {i : Nat} {x : Int} (hn : r.Nodup) (hx : r[i]? = some x) : x ∉ r.take i := fun m => by
  obtain ⟨j, hj⟩ := List.getElem?_of_mem m
  have hl := (List.getElem?_eq_some_iff.mp hj).1
  rw [List.length_take] at hl
  rw [List.getElem?_take, if_pos (by omega)] at hj
  have := (List.getElem?_inj (List.getElem?_eq_some_iff.mp hj).1 hn).mp (hj.trans hx.symm)
  omega
theorem ow_iadd {K : PySem.W.Frag} {μ : Cells} {Q : Vd → Cells → Prop} {i j : Int} (h : Q (.d (.int (i + j))) μ) : OpW K (rI0 fun i j => .int (i + j)) (.d (.int i)) (.d (.int j)) μ Q := fun F H v u m o1 o2 QV c => ⟨i, j, dp_int o1, dp_int o2, c (.d (.int (i + j))) _ F H μ Fw.refl m (.int _) h⟩
theorem tups_step {c : Co} {x : List Int} (A : List (List Int)) : tups (A ++ stepP c x) = tups A ++ (nexts c x).map fun y => .tuple (intsD (x ++ [y])) := by
  unfold tups
  rw [List.map_append, stepP_eq, List.map_map]
  rfl
abbrev T_orderat : TrD := fun xs μ R => ∃ (dc : PyData) (c : Co) (k : Nat) (t : List Int), xs = [.d dc, .d (.int (k : Int))] ∧ CoD dc c ∧ c.length ≤ 12 ∧ nev c = [] ∧ (allP c c.length)[k]? = some t ∧ R (.d (.tuple (intsD t))) μ
abbrev T_numof : TrD := fun xs μ R => ∃ (dc : PyData) (c : Co) (dr : PyData) (r : List Int) (k : Nat), xs = [.d dc, .d dr] ∧ CoD dc c ∧ c.length ≤ 12 ∧ nev c = [] ∧ SqD dr (intsD r) ∧ (allP c c.length)[k]? = some r ∧ R (.d (.int (k : Int))) μ
abbrev T_allords : TrD := fun xs μ R => ∃ (dc : PyData) (c : Co), xs = [.d dc] ∧ CoD dc c ∧ c.length ≤ 12 ∧ nev c = [] ∧ (allP c c.length).length ≤ 300 ∧ ∀ q, R (.a q) ((q, tups (allP c c.length)) :: μ)
end Ec
set_option Elab.async false
set_option linter.all false
set_option maxRecDepth 100000
set_option maxHeartbeats 4000000
namespace Ec
open PySem PySem.Spec PyProof.Rows L2
theorem all_some {c : Co} (hw : nev c = []) : 0 < (allP c c.length).length := by
  have h0 := all_le hw (k := 0) (Nat.zero_le _)
  exact Nat.lt_of_lt_of_le (by decide : 0 < 1) h0
end Ec
set_option Elab.async false
set_option linter.all false
set_option maxRecDepth 100000
set_option maxHeartbeats 4000000
namespace Ec
open PySem PySem.Spec PyProof.Rows L2
theorem ext_add (c : Co) (i : Nat) : ∀ (k : Nat) (r : List Int), ext c (k + i) r = (ext c k r).flatMap (ext c i)
  | 0, r => by
    show ext c (0 + i) r = [r].flatMap (ext c i)
    rw [Nat.zero_add, List.flatMap_cons, List.flatMap_nil, List.append_nil]
  | k + 1, r => by
    rw [show k + 1 + i = (k + i) + 1 by omega]
    show (nexts c r).flatMap (fun p => ext c (k + i) (r ++ [p])) = ((nexts c r).flatMap fun p => ext c k (r ++ [p])).flatMap (ext c i)
    rw [List.flatMap_assoc]
    congr 1
    funext p
    exact ext_add c i k _
theorem all_split {c : Co} {i : Nat} (h : i ≤ c.length) : allP c c.length = (allP c i).flatMap (ext c (c.length - i)) := by
  rw [allP_ext, allP_ext, ← ext_add]
  congr 1
  omega
theorem ext_count {c : Co} {k : Nat} {r : List Int} (hr : POrd c r) (f : List Int → Bool) (g : Int → Bool) (h : ∀ x ∈ nexts c r, ∀ s ∈ ext c k (r ++ [x]), f s = g x) :
    (ext c (k + 1) r).countP f = ((nexts c r).map fun x => if g x = true then Wy c k (r ++ [x]) else 0).sum := by
  show ((nexts c r).flatMap fun p => ext c k (r ++ [p])).countP f = _
  rw [countP_flat]
  congr 1
  refine List.map_congr_left fun x hx => ?_
  by_cases e : g x = true
  · rw [if_pos e, ← ext_len, List.countP_eq_length]
    exact fun s hs => (h x hx s hs).trans e
  · rw [if_neg e, List.countP_eq_zero]
    exact fun s hs z => e ((h x hx s hs).symm.trans z)
theorem sum_one {p : Int} {k : Nat} (f : Int → Nat) (b : Bool) : ∀ (N : List Int), N.Nodup → (N.map fun x => if (decide (x = p) && b) = true then f x else 0).sum = if (decide (p ∈ N) && b) = true then f p else 0
  | [], _ => rfl
  | x :: N, h => by
    obtain ⟨h1, h2⟩ := List.nodup_cons.mp h
    rw [List.map_cons, List.sum_cons, sum_one (k := k) f b N h2]
    cases b
    · simp
    · by_cases e : x = p
      · subst e
        simp [h1]
      · have : (p ∈ x :: N) ↔ p ∈ N := ⟨fun m => (List.mem_cons.mp m).resolve_left fun z => e z.symm, List.mem_cons_of_mem _⟩
        simp [e, this, Ne.symm e]
def ixS (c : Co) (p : Int) (b : List Int → Bool) (i : Nat) : Nat := ((allP c i).map fun r => if (decide (p ∈ nexts c r) && b r) = true then Wy c (c.length - (i + 1)) (r ++ [p]) else 0).sum
theorem posn_ext {c : Co} {k : Nat} {r s : List Int} {x : Int} (hr : POrd c r) (hx : x ∈ nexts c r) (hs : s ∈ ext c k (r ++ [x])) : POrd c s ∧ s.take r.length = r ∧ x ∈ s ∧ posn x s = r.length := by
  obtain ⟨h1, h2, h3⟩ := mem_ext k (hr.next hx) hs
  rw [List.length_append, List.length_singleton] at h2 h3
  have ht : s.take r.length = r := by
    have := congrArg (List.take r.length) h3
    rw [List.take_take, Nat.min_eq_left (by omega), List.take_left] at this
    exact this
  have hi : s[r.length]? = some x := by
    have := congrArg (·[r.length]?) h3
    simp only [List.getElem?_take, List.getElem?_append_right (Nat.le_refl _), Nat.sub_self] at this
    rw [if_pos (by omega)] at this
    exact this
  have hm := List.mem_of_getElem? hi
  refine ⟨h1, ht, hm, ?_⟩
  have h4 := (posn_at hm).1
  exact (List.getElem?_inj (List.getElem?_eq_some_iff.mp h4).1 h1.nd).mp (h4.trans hi.symm)
theorem ix_count {c : Co} {p : Int} (b : List Int → Bool) (hb : ∀ r s : List Int, (∀ x, x ∈ r ↔ x ∈ s) → b r = b s) {i : Nat} (hi : i < c.length) (hp : 0 ≤ p ∧ p < c.length) :
    ixS c p b i = (allP c c.length).countP fun s => decide (posn p s = i) && b (s.take i) := by
  rw [all_split (Nat.le_of_lt hi), countP_flat]
  unfold ixS
  congr 1
  refine List.map_congr_left fun r hr => ?_
  obtain ⟨h1, h2⟩ := mem_allP.mp hr
  rw [show c.length - i = (c.length - (i + 1)) + 1 by omega]
  rw [ext_count h1 (fun s => decide (posn p s = i) && b (s.take i)) (fun x => decide (x = p) && b r) fun x hx s hs => ?_]
  · rw [sum_one (k := i) (fun x => Wy c (c.length - (i + 1)) (r ++ [x])) (b r) (nexts c r) ((nexts_asc c r).imp fun h => by omega)]
  · obtain ⟨g1, g2, g3, g4⟩ := posn_ext h1 hx hs
    rw [h2] at g2 g4
    rw [g2]
    congr 1
    refine decide_eq_decide.mpr ⟨fun e => ?_, fun e => by rw [← e]; exact g4⟩
    have hlen := (mem_ext _ (h1.next hx) hs).2.1
    rw [List.length_append, List.length_singleton, h2] at hlen
    have hps : p ∈ s := (IsOrd.mem ⟨g1, by omega⟩ hp.1 hp.2)
    exact posn_inj g3 hps (g4.trans e.symm)
theorem lay_sum {c : Co} {i : Nat} {L : TL} (h : Lay c i L) (p : Int) (b : List Int → Bool) (hb : ∀ r s : List Int, (∀ x, x ∈ r ↔ x ∈ s) → b r = b s) :
    (L.map fun q => if (decide (p ∈ nexts c q.1) && b q.1) = true then q.2 * ((Wy c (c.length - (i + 1)) (q.1 ++ [p]) : Nat) : Int) else 0).sum = ((ixS c p b i : Nat) : Int) := by
  have e1 : (L.map fun q => if (decide (p ∈ nexts c q.1) && b q.1) = true then q.2 * ((Wy c (c.length - (i + 1)) (q.1 ++ [p]) : Nat) : Int) else 0) = L.map fun q => (((allP c i).countP fun r => decide (srt r = q.1) : Nat) : Int) * (if (decide (p ∈ nexts c q.1) && b q.1) = true then ((Wy c (c.length - (i + 1)) (q.1 ++ [p]) : Nat) : Int) else 0) := List.map_congr_left fun q hq => by
    rw [h.val q hq]
    split
    · rfl
    · rw [Int.mul_zero]
  rw [e1, sum_rows (fun t => if (decide (p ∈ nexts c t) && b t) = true then ((Wy c (c.length - (i + 1)) (t ++ [p]) : Nat) : Int) else 0) h.nd (allP c i) fun r hr => (h.key _).mpr ⟨r, hr, rfl⟩]
  unfold ixS
  rw [natsum_cast]
  congr 1
  refine List.map_congr_left fun r _ => ?_
  rw [nexts_srt, hb (srt r) r (srt_in r), Wy_congr _ (app_mem (srt_in r))]
  split <;> rfl
def cnI (c : Co) (p : Int) (i : Nat) : Nat := (allP c c.length).countP fun s => decide (posn p s = i)
theorem ix_all {c : Co} {p : Int} {i : Nat} (hi : i < c.length) (hp : 0 ≤ p ∧ p < c.length) : ixS c p (fun _ => true) i = cnI c p i := by
  rw [ix_count _ (fun _ _ _ => rfl) hi hp]
  unfold cnI
  exact List.countP_congr fun s _ => by rw [Bool.and_true]
theorem zero_sum {α : Type} : ∀ L : List α, (L.map fun _ => (0 : Nat)).sum = 0
  | [] => rfl
  | _ :: L => by rw [List.map_cons, List.sum_cons, zero_sum L]
theorem hit_sum {n k : Nat} (hk : k < n) : ((List.range n).map fun i => if k = i then 1 else 0).sum = 1 := by
  induction n with
  | zero => omega
  | succ n ih =>
    rw [List.range_succ, List.map_append, List.sum_append]
    by_cases e : k = n
    · subst e
      have : ((List.range k).map fun i => if k = i then 1 else 0) = (List.range k).map fun _ => 0 := List.map_congr_left fun i hi => if_neg (by have := List.mem_range.mp hi; omega)
      rw [this, zero_sum]
      simp
    · rw [ih (by omega)]
      simp [e]
theorem hit_sum2 {n k : Nat} (hk : k < n) (g : Nat → Bool) : ((List.range n).map fun i => if (decide (k = i) && g i) = true then 1 else 0).sum = if g k = true then 1 else 0 := by
  by_cases e : g k = true
  · rw [if_pos e]
    refine Eq.trans ?_ (hit_sum hk)
    congr 1
    refine List.map_congr_left fun i _ => ?_
    by_cases h : k = i
    · subst h
      simp [e]
    · simp [h]
  · rw [if_neg e]
    have : ((List.range n).map fun i => if (decide (k = i) && g i) = true then 1 else 0) = (List.range n).map fun _ => 0 := List.map_congr_left fun i _ => by
      by_cases h : k = i
      · subst h
        simp [e]
      · simp [h]
    rw [this, zero_sum]
theorem split_total {n : Nat} (pos : List Int → Nat) (g : List Int → Nat → Bool) : ∀ (A : List (List Int)), (∀ s ∈ A, pos s < n) → ((List.range n).map fun i => A.countP fun s => decide (pos s = i) && g s i).sum = A.countP fun s => g s (pos s)
  | [], _ => by
    show ((List.range n).map fun _ => 0).sum = 0
    exact zero_sum _
  | s :: A, h => by
    have i1 := split_total pos g A fun s m => h s (List.mem_cons_of_mem _ m)
    have i2 := hit_sum2 (h s List.mem_cons_self) (g s)
    rw [List.countP_cons, ← i1, ← i2]
    have : ((List.range n).map fun i => (s :: A).countP fun s => decide (pos s = i) && g s i) = (List.range n).map fun i => (A.countP fun s => decide (pos s = i) && g s i) + if (decide (pos s = i) && g s i) = true then 1 else 0 := List.map_congr_left fun i _ => by rw [List.countP_cons]
    rw [this]
    generalize List.range n = R
    induction R with
    | nil => rfl
    | cons x R ih2 =>
      rw [List.map_cons, List.sum_cons, List.map_cons, List.sum_cons, List.map_cons, List.sum_cons, ih2]
      omega
theorem all_pos {c : Co} {p : Int} (hp : 0 ≤ p ∧ p < c.length) : ∀ s ∈ allP c c.length, posn p s < c.length := fun s hs => by
  have ho := mem_all.mp hs
  have := posn_lt (ho.mem hp.1 hp.2)
  rw [ho.lens] at this
  exact this
theorem cn_total {c : Co} {p : Int} (hp : 0 ≤ p ∧ p < c.length) : ((List.range c.length).map (cnI c p)).sum = (allP c c.length).length := by
  have h := split_total (posn p) (fun _ _ => true) (allP c c.length) (all_pos hp)
  simp only [Bool.and_true, List.countP_true] at h
  exact h
def cnB (c : Co) (p o : Int) : Nat := (allP c c.length).countP fun s => decide (((posn p s : Nat) : Int) < ((posn o s : Nat) : Int))
theorem cnB_sum {c : Co} {p o : Int} (hp : 0 ≤ p ∧ p < c.length) (ho : 0 ≤ o ∧ o < c.length) (ne : p ≠ o) : ((List.range c.length).map fun i => ixS c p (fun t => !decide (o ∈ t)) i).sum = cnB c p o := by
  have e : ((List.range c.length).map fun i => ixS c p (fun t => !decide (o ∈ t)) i) = (List.range c.length).map fun i => (allP c c.length).countP fun s => decide (posn p s = i) && !decide (o ∈ s.take i) := List.map_congr_left fun i hi => ix_count _ (fun r s h => by rw [decide_eq_decide.mpr (h o)]) (List.mem_range.mp hi) hp
  rw [e, split_total (posn p) (fun s i => !decide (o ∈ s.take i)) (allP c c.length) (all_pos hp)]
  unfold cnB
  refine List.countP_congr fun s hs => ?_
  have hor := mem_all.mp hs
  have hps := hor.mem hp.1 hp.2
  have hos := hor.mem ho.1 ho.2
  have h1 := posn_in hps hos
  have h2 : posn p s ≠ posn o s := fun e => ne (posn_inj hps hos e)
  simp only [Bool.not_eq_true', decide_eq_false_iff_not, decide_eq_true_eq]
  rw [h1]
  omega
def red (a b : Nat) : List Int := [((a / Nat.gcd a b : Nat) : Int), ((b / Nat.gcd a b : Nat) : Int)]
abbrev T_gcd : TrD := fun xs μ R => ∃ a b : Nat, xs = [.d (.int (a : Int)), .d (.int (b : Int))] ∧ b < 1073741824 ∧ a < 1073741824 ∧ R (.d (.int ((Nat.gcd a b : Nat) : Int))) μ
abbrev T_red : TrD := fun xs μ R => ∃ a b : Nat, xs = [.d (.int (a : Int)), .d (.int (b : Int))] ∧ 0 < b ∧ b < 1073741824 ∧ a < 1073741824 ∧ R (.d (.tuple (intsD (red a b)))) μ
abbrev T_ixw : TrD := fun xs μ R => ∃ (dc : PyData) (c : Co) (p : Int), xs = [.d dc, .d (.int p)] ∧ CoD dc c ∧ c.length ≤ 12 ∧ nev c = [] ∧ 0 ≤ p ∧ p < c.length ∧ (allP c c.length).length < 1073741824 ∧ ∀ q, R (.a q) ((q, natsD ((List.range c.length).map (cnI c p))) :: μ)
abbrev T_chances : TrD := fun xs μ R => ∃ (dc : PyData) (c : Co) (p : Int), xs = [.d dc, .d (.int p)] ∧ CoD dc c ∧ c.length ≤ 12 ∧ nev c = [] ∧ 0 ≤ p ∧ p < c.length ∧ (allP c c.length).length < 1073741824 ∧ ∀ q, R (.a q) ((q, tups ((List.range c.length).map fun i => red (cnI c p i) (allP c c.length).length)) :: μ)
abbrev T_earliest : TrD := fun xs μ R => ∃ (dc : PyData) (c : Co) (p : Int) (k : Nat), xs = [.d dc, .d (.int p)] ∧ CoD dc c ∧ c.length ≤ 12 ∧ nev c = [] ∧ 0 ≤ p ∧ p < c.length ∧ (allP c c.length).length < 1073741824 ∧ 0 < cnI c p k ∧ (∀ i, i < k → cnI c p i = 0) ∧ R (.d (.int (k : Int))) μ
abbrev T_chb : TrD := fun xs μ R => ∃ (dc : PyData) (c : Co) (p o : Int), xs = [.d dc, .d (.int p), .d (.int o)] ∧ CoD dc c ∧ c.length ≤ 12 ∧ nev c = [] ∧ (0 ≤ p ∧ p < c.length) ∧ (0 ≤ o ∧ o < c.length) ∧ p ≠ o ∧ (allP c c.length).length < 1073741824 ∧ R (.d (.tuple (intsD (red (cnB c p o) (allP c c.length).length)))) μ
theorem gcd_go (a b : Nat) : Nat.gcd b (a % b) = Nat.gcd a b := (Nat.gcd_comm _ _).trans ((Nat.gcd_rec b a).symm.trans (Nat.gcd_comm _ _))
end Ec
set_option Elab.async false
set_option linter.all false
set_option maxRecDepth 100000
set_option maxHeartbeats 4000000
namespace Ec
open PySem PySem.Spec PyProof.Rows L2
def lyf (c : Co) (i : Nat) (p : Int) (b : List Int → Bool) (q : List Int × Int) : Int := if (decide (p ∈ nexts c q.1) && b q.1) = true then q.2 * ((Wy c (c.length - (i + 1)) (q.1 ++ [p]) : Nat) : Int) else 0
theorem flat_mem {α β : Type} (f : α → List β) {x : α} : ∀ {l : List α}, x ∈ l → (f x).length ≤ (l.flatMap f).length
  | a :: l, h => by
    rw [List.flatMap_cons, List.length_append]
    rcases List.mem_cons.mp h with rfl | h
    · omega
    · have := flat_mem f h
      omega
theorem Wy_le {c : Co} {r : List Int} (hr : POrd c r) : Wy c (c.length - r.length) r ≤ (allP c c.length).length := by
  have h := hr.len
  rw [all_split h, ← ext_len]
  exact flat_mem _ (mem_allP.mpr ⟨hr, rfl⟩)
theorem Wy_next {c : Co} {r : List Int} (hr : POrd c r) {p : Int} (hp : p ∈ nexts c r) : Wy c (c.length - (r.length + 1)) (r ++ [p]) ≤ (allP c c.length).length := by
  have := Wy_le (hr.next hp)
  rwa [List.length_append, List.length_singleton] at this
theorem lyf_take {c : Co} {i : Nat} {p : Int} {b : List Int → Bool} {L : TL} {j : Nat} {q : List Int × Int} (h : L[j]? = some q) : ((L.take (j + 1)).map (lyf c i p b)).sum = ((L.take j).map (lyf c i p b)).sum + lyf c i p b q := by
  rw [List.take_add_one, h, List.map_append, List.sum_append]
  simp
theorem ixS_end {c : Co} {p : Int} (hp : 0 ≤ p ∧ p < c.length) (b : List Int → Bool) : ixS c p b c.length = 0 := by
  unfold ixS
  have : ((allP c c.length).map fun r => if (decide (p ∈ nexts c r) && b r) = true then Wy c (c.length - (c.length + 1)) (r ++ [p]) else 0) = (allP c c.length).map fun _ => 0 := List.map_congr_left fun r hr => by
    have hm := (mem_all.mp hr).mem hp.1 hp.2
    have : p ∉ nexts c r := fun z => (mem_nexts.mp z).2.1 hm
    simp [this]
  rw [this, zero_sum]
theorem sum_snoc (f : Nat → Nat) (n : Nat) : ((List.range (n + 1)).map f).sum = ((List.range n).map f).sum + f n := by
  rw [List.range_succ, List.map_append, List.sum_append]
  simp
theorem nats_snoc (f : Nat → Nat) (n : Nat) : natsD ((List.range (n + 1)).map f) = natsD ((List.range n).map f) ++ [.int ((f n : Nat) : Int)] := by
  rw [List.range_succ, List.map_append]
  unfold natsD
  rw [List.map_append]
  rfl
theorem cn_le {c : Co} {p : Int} (i : Nat) : cnI c p i ≤ (allP c c.length).length := List.countP_le_length
theorem cnB_le {c : Co} {p o : Int} : cnB c p o ≤ (allP c c.length).length := List.countP_le_length
theorem least_at {f : Nat → Nat} {n k : Nat} (hk : k < n) (h1 : 0 < f k) (h2 : ∀ i, i < k → f i = 0) : ∃ l, (List.range n).filter (fun i => decide (0 < f i)) = k :: l := by
  have e : List.range n = List.range k ++ (k :: (List.range' (k + 1) (n - (k + 1)))) := by
    rw [List.range_eq_range', List.range_eq_range']
    have : n = k + (1 + (n - (k + 1))) := by omega
    conv => lhs; rw [this]
    rw [← List.range'_append_1, ← List.range'_append_1]
    simp
  rw [e, List.filter_append]
  have e1 : (List.range k).filter (fun i => decide (0 < f i)) = [] := by
    rw [List.filter_eq_nil_iff]
    intro i hi z
    have := h2 i (List.mem_range.mp hi)
    have z' : 0 < f i := by simpa using z
    omega
  rw [e1, List.nil_append, List.filter_cons_of_pos (by simpa using h1)]
  exact ⟨_, rfl⟩
end Ec
namespace Ec
open PySem PySem.Spec PyProof.Rows L2
theorem enum_nats (f : Nat → Nat) (n : Nat) : enumD (natsD ((List.range n).map f)) = (List.range n).map fun i : Nat => PyData.tuple [.int (i : Int), .int ((f i : Nat) : Int)] := by
  refine List.ext_getElem? fun i => ?_
  unfold enumD natsD
  simp [List.getElem?_mapIdx, List.getElem?_range]
  by_cases h : i < n
  · simp [h]
  · simp [h]
end Ec
set_option Elab.async false
set_option linter.all false
set_option maxRecDepth 100000
set_option maxHeartbeats 4000000
namespace Ec
open PySem PySem.Spec PyProof.Rows L2
end Ec
namespace Ec
open PySem PySem.Spec PyProof.Rows L2
end Ec
set_option Elab.async false
set_option linter.all false
set_option maxRecDepth 100000
set_option maxHeartbeats 4000000
namespace Ec
open PySem PySem.Spec PyProof.Rows L2
theorem nodup_leG {α : Type} [DecidableEq α] : ∀ {as bs : List α}, as.Nodup → (∀ x ∈ as, x ∈ bs) → as.length ≤ bs.length
  | [], _, _, _ => Nat.zero_le _
  | a :: as, bs, h, hs => by
    rw [List.nodup_cons] at h
    have h1 : a ∈ bs := hs a List.mem_cons_self
    have := nodup_leG (bs := bs.erase a) h.2 fun x hx => (List.mem_erase_of_ne (fun e : x = a => h.1 (by rw [← e]; exact hx))).mpr (hs x (List.mem_cons_of_mem _ hx))
    rw [List.length_erase_of_mem h1] at this
    have h2 := List.length_pos_of_mem h1
    show as.length + 1 ≤ bs.length
    omega
theorem Wid.more {c c' : Co} (h : Wid c c') (w : CoW c) (w' : CoW c') : (allP c c.length).length ≤ (allP c' c'.length).length :=
  nodup_leG (allP_nodup c _) fun r hr => mem_all.mpr (h.ord w w' (mem_all.mp hr))
theorem Wid.mb {c c' : Co} (h : Wid c c') (w : CoW c) (w' : CoW c') {q : Int × Int} (hq : q ∈ Ec.mb c') : q ∈ Ec.mb c := by
  obtain ⟨a, b⟩ := q
  rw [mem_mb, mem_bh] at *
  obtain ⟨⟨h0, h1⟩, ⟨h2, h3⟩, h4, h5⟩ := hq
  rw [h.len] at h1 h3
  exact ⟨⟨h0, h1⟩, ⟨h2, h3⟩, h4, fun z => h5 (h.cl w w' [a] b z)⟩
theorem Wid.fp {c c' : Co} (h : Wid c c') (w : CoW c) (w' : CoW c') {q : Int × Int} (hq : q ∈ Ec.fp c) : q ∈ Ec.fp c' := by
  obtain ⟨a, b⟩ := q
  rw [mem_fp] at *
  obtain ⟨h0, h1, h2, h3, h4⟩ := hq
  exact ⟨h0, h1, by rw [h.len]; exact h2, fun z => h3 (h.mb w w' z), fun z => h4 (h.mb w w' z)⟩
theorem cnI_some {c : Co} {p : Int} {k : Nat} : 0 < cnI c p k ↔ ∃ r, IsOrd c r ∧ posn p r = k := by
  unfold cnI
  rw [List.countP_pos_iff]
  exact ⟨fun ⟨r, h1, h2⟩ => ⟨r, mem_all.mp h1, of_decide_eq_true h2⟩, fun ⟨r, h1, h2⟩ => ⟨r, mem_all.mpr h1, decide_eq_true h2⟩⟩
end Ec
namespace Ec
end Ec
namespace Ec
theorem mb_few {c : Co} (hl : c.length ≤ 20) : (mb c).length ≤ 400 := by rw [← tieN_all]; exact tieN_len c _ hl
theorem fp_few {c : Co} (hl : c.length ≤ 20) : (fp c).length ≤ 400 := by rw [← frN_all]; exact frN_len c _ hl
end Ec
set_option Elab.async false
set_option linter.all false
set_option maxRecDepth 100000
set_option maxHeartbeats 4000000
namespace Ec
open PySem PySem.Spec PyProof.Rows L2
def fct : Nat → Nat
  | 0 => 1
  | n + 1 => (n + 1) * fct n
theorem nexts_few {c : Co} {r : List Int} (h : POrd c r) : (nexts c r).length ≤ c.length - r.length := by
  have h1 := len_und h.nd h.rg
  have h2 : (nexts c r).length ≤ und c r := List.length_filter_le _ _
  omega
theorem allP_fct (c : Co) : ∀ k, k ≤ c.length → (allP c k).length * fct (c.length - k) ≤ fct c.length
  | 0, _ => by simp [allP]
  | k + 1, h => by
    have ih := allP_fct c k (by omega)
    have h1 : (allP c (k + 1)).length ≤ (allP c k).length * (c.length - k) := flatI_le _ _ _ fun s hs => by
      obtain ⟨g1, g2⟩ := mem_allP.mp hs
      rw [stepP_eq, List.length_map, ← g2]
      exact nexts_few g1
    have e : fct (c.length - k) = (c.length - k) * fct (c.length - (k + 1)) := by
      rw [show c.length - k = (c.length - (k + 1)) + 1 by omega]
      rfl
    rw [e, ← Nat.mul_assoc] at ih
    exact Nat.le_trans (Nat.mul_le_mul_right _ h1) ih
theorem fct_mono : ∀ {n m : Nat}, n ≤ m → fct n ≤ fct m
  | n, 0, h => by rw [Nat.le_zero.mp h]; exact Nat.le_refl _
  | n, m + 1, h => by
    by_cases e : n = m + 1
    · rw [e]; exact Nat.le_refl _
    · exact Nat.le_trans (fct_mono (by omega : n ≤ m)) (Nat.le_mul_of_pos_left _ (by omega))
theorem all_fct {c : Co} {n : Nat} (h : c.length ≤ n) : (allP c c.length).length ≤ fct n := by
  have := allP_fct c c.length (Nat.le_refl _)
  rw [Nat.sub_self] at this
  have e : fct 0 = 1 := rfl
  rw [e, Nat.mul_one] at this
  exact Nat.le_trans this (fct_mono h)
end Ec
namespace Ec
open PySem PySem.Spec PyProof.Rows L2
end Ec
set_option Elab.async false
set_option linter.all false
set_option maxRecDepth 100000
set_option maxHeartbeats 4000000
namespace Ec
open PySem PySem.Spec PyProof.Rows L2
end Ec
set_option Elab.async false
set_option linter.all false
set_option maxRecDepth 100000
set_option maxHeartbeats 4000000
namespace Ec
open PySem PySem.Spec PyProof.Rows L2
def isInv (c : Co) (t : List Int) : Bool := decide (nev (inv c t) = [])
theorem isInv_len (c : Co) (t : List Int) : decide ((((nev (inv c t)).length : Nat) : Int) = 0) = isInv c t := by
  unfold isInv
  refine decide_eq_decide.mpr ⟨fun h => List.length_eq_zero_iff.mp (by omega), fun h => by rw [h]; rfl⟩
theorem Rg.filter {n : Nat} {t : List Int} (h : Rg n t) (p : Int → Bool) : Rg n (t.filter p) := fun x m => h x (List.mem_filter.mp m).1
abbrev T_isinv : TrD := fun xs μ R => ∃ (dc : PyData) (c : Co) (dp : PyData) (t : List Int), xs = [.d dc, .d dp] ∧ CoD dc c ∧ SqD dp (intsD t) ∧ Rg c.length t ∧ c.length ≤ 60 ∧ R (.d (.bool (isInv c t))) μ
def spr (c : Co) (t : List Int) : List Int := t.filter fun p => isInv c (t.filter fun o => !decide (o = p))
abbrev T_spare : TrD := fun xs μ R => ∃ (dc : PyData) (c : Co) (dp : PyData) (t : List Int), xs = [.d dc, .d dp] ∧ CoD dc c ∧ SqD dp (intsD t) ∧ Rg c.length t ∧ t.length ≤ 1000 ∧ c.length ≤ 60 ∧ nev (inv c t) = [] ∧ ∀ q, R (.a q) ((q, intsD (spr c t)) :: μ)
end Ec
set_option Elab.async false
set_option linter.all false
set_option maxRecDepth 100000
set_option maxHeartbeats 4000000
namespace Ec
open PySem PySem.Spec PyProof.Rows L2
def aft (s : List Int) : Int := match s.getLast? with
  | none => 0
  | some x => x + 1
theorem aft_nil : aft [] = 0 := rfl
theorem aft_snoc (s : List Int) (x : Int) : aft (s ++ [x]) = x + 1 := by
  unfold aft
  rw [List.getLast?_append]
  rfl
theorem aft_last {s : List Int} (h : s ≠ []) : aft s = s.getLastD 0 + 1 := by
  rcases List.eq_nil_or_concat s with rfl | ⟨t, y, rfl⟩
  · exact absurd rfl h
  · rw [List.concat_eq_append, aft_snoc]
    simp
def moreP (n : Nat) (s : List Int) : List (List Int) := (List.range ((n : Int) - aft s).toNat).map fun i : Nat => s ++ [aft s + (i : Int)]
def pks (n : Nat) : Nat → List (List Int)
  | 0 => [[]]
  | k + 1 => (pks n k).flatMap (moreP n)
theorem mem_moreP {n : Nat} {s r : List Int} : r ∈ moreP n s ↔ ∃ x : Int, aft s ≤ x ∧ x < n ∧ r = s ++ [x] := by
  unfold moreP
  rw [List.mem_map]
  constructor
  · rintro ⟨i, hi, rfl⟩
    rw [List.mem_range] at hi
    exact ⟨aft s + (i : Int), by omega, by omega, rfl⟩
  · rintro ⟨x, h1, h2, rfl⟩
    exact ⟨(x - aft s).toNat, List.mem_range.mpr (by omega), by rw [show aft s + ((x - aft s).toNat : Int) = x by omega]⟩
theorem Sub.aft {n : Nat} {s : List Int} (h : Sub n s) : 0 ≤ Ec.aft s ∧ Ec.aft s ≤ n ∧ ∀ x : Int, Ec.aft s ≤ x ↔ 0 ≤ x ∧ ∀ a ∈ s, a < x := by
  rcases List.eq_nil_or_concat s with rfl | ⟨t, y, rfl⟩
  · exact ⟨Int.le_refl _, by rw [aft_nil]; omega, fun x => ⟨fun h => ⟨h, fun a m => by cases m⟩, fun h => h.1⟩⟩
  · rw [List.concat_eq_append] at h ⊢
    rw [aft_snoc]
    obtain ⟨h1, h2⟩ := h
    have hy := h2 y (by simp)
    refine ⟨by omega, by omega, fun x => ⟨fun hx => ⟨by omega, fun a m => ?_⟩, fun ⟨_, hx⟩ => ?_⟩⟩
    · rcases List.mem_append.mp m with m | m
      · have := (List.pairwise_append.mp h1).2.2 a m y (by simp)
        omega
      · cases List.mem_singleton.mp m
        omega
    · have := hx y (by simp)
      omega
theorem Sub.snoc {n : Nat} {s : List Int} {x : Int} : Sub n (s ++ [x]) ↔ Sub n s ∧ Ec.aft s ≤ x ∧ x < n := by
  constructor
  · rintro ⟨h1, h2⟩
    obtain ⟨g1, _, g3⟩ := List.pairwise_append.mp h1
    have hs : Sub n s := ⟨g1, fun y m => h2 y (List.mem_append_left _ m)⟩
    have hx := h2 x (by simp)
    exact ⟨hs, (hs.aft.2.2 x).mpr ⟨hx.1, fun a m => g3 a m x (by simp)⟩, hx.2⟩
  · rintro ⟨hs, h1, h2⟩
    obtain ⟨g1, g2⟩ := (hs.aft.2.2 x).mp h1
    refine ⟨List.pairwise_append.mpr ⟨hs.1, List.pairwise_singleton _ _, fun a m b mb => ?_⟩, fun y m => ?_⟩
    · cases List.mem_singleton.mp mb
      exact g2 a m
    · rcases List.mem_append.mp m with m | m
      · exact hs.2 y m
      · cases List.mem_singleton.mp m
        exact ⟨g1, h2⟩
theorem mem_pks {n : Nat} : ∀ {k : Nat} {r : List Int}, r ∈ pks n k ↔ Sub n r ∧ r.length = k
  | 0, r => by
    unfold pks
    rw [List.mem_singleton]
    exact ⟨fun h => by rw [h]; exact ⟨⟨.nil, fun x m => by cases m⟩, rfl⟩, fun h => List.length_eq_zero_iff.mp h.2⟩
  | k + 1, r => by
    unfold pks
    rw [List.mem_flatMap]
    constructor
    · rintro ⟨s, hs, hr⟩
      obtain ⟨h1, h2⟩ := mem_pks.mp hs
      obtain ⟨x, g1, g2, rfl⟩ := mem_moreP.mp hr
      exact ⟨Sub.snoc.mpr ⟨h1, g1, g2⟩, by rw [List.length_append, h2]; rfl⟩
    · rintro ⟨h, hl⟩
      rcases List.eq_nil_or_concat r with rfl | ⟨s, x, rfl⟩
      · simp at hl
      · rw [List.concat_eq_append] at h hl ⊢
        obtain ⟨h1, h2, h3⟩ := Sub.snoc.mp h
        rw [List.length_append, List.length_singleton] at hl
        exact ⟨s, mem_pks.mpr ⟨h1, by omega⟩, mem_moreP.mpr ⟨x, h2, h3, rfl⟩⟩
theorem lt_app {a b : List Int} (hl : a.length = b.length) (h : a < b) (s t : List Int) : a ++ s < b ++ t := by
  induction a generalizing b with
  | nil =>
    cases b with
    | nil => exact absurd h (List.lt_irrefl _)
    | cons y b => simp at hl
  | cons x a ih =>
    cases b with
    | nil => simp at hl
    | cons y b =>
      rw [List.cons_append, List.cons_append]
      rcases List.cons_lt_cons_iff.mp h with g | ⟨e, g⟩
      · exact List.cons_lt_cons_iff.mpr (.inl g)
      · exact List.cons_lt_cons_iff.mpr (.inr ⟨e, ih (by simpa using hl) g⟩)
theorem app_lt (s : List Int) {a b : List Int} (h : a < b) : s ++ a < s ++ b := by
  induction s with
  | nil => exact h
  | cons x s ih => exact List.cons_lt_cons_iff.mpr (.inr ⟨rfl, ih⟩)
theorem pks_asc (n : Nat) : ∀ k, (pks n k).Pairwise (· < ·)
  | 0 => List.pairwise_singleton _ _
  | k + 1 => by
    unfold pks
    rw [List.pairwise_flatMap]
    refine ⟨fun s hs => ?_, (pks_asc n k).imp_of_mem fun {a b} ha hb h x hx y hy => ?_⟩
    · unfold moreP
      rw [List.pairwise_map]
      exact List.pairwise_lt_range.imp fun {i j} h => app_lt s (List.cons_lt_cons_iff.mpr (.inl (by omega)))
    · obtain ⟨u, _, _, rfl⟩ := mem_moreP.mp hx
      obtain ⟨v, _, _, rfl⟩ := mem_moreP.mp hy
      exact lt_app (by rw [(mem_pks.mp ha).2, (mem_pks.mp hb).2]) h _ _
theorem asc_nd {L : List (List Int)} (h : L.Pairwise (· < ·)) : L.Nodup := h.imp fun {a b} z e => by
  subst e
  exact List.lt_irrefl _ z
theorem pks_few {n : Nat} (h : n ≤ 12) (k : Nat) : (pks n k).length ≤ 4096 := few_keys (asc_nd (pks_asc n k)) (fun s m => (mem_pks.mp m).1) h
theorem pks_take {n k j : Nat} {s : List Int} (h : (pks n k)[j]? = some s) : ((pks n k).take (j + 1)).flatMap (moreP n) = ((pks n k).take j).flatMap (moreP n) ++ moreP n s := by
  rw [List.take_add_one, h, List.flatMap_append]
  simp
theorem pks_room {n k j : Nat} {s : List Int} (h : (pks n k)[j]? = some s) (hn : n ≤ 12) : (((pks n k).take j).flatMap (moreP n)).length + (moreP n s).length ≤ 4096 := by
  have e := congrArg List.length (pks_take h)
  rw [List.length_append] at e
  have h2 : (((pks n k).take (j + 1)).flatMap (moreP n)).length ≤ ((pks n k).flatMap (moreP n)).length := by
    conv => rhs; rw [← List.take_append_drop (j + 1) (pks n k), List.flatMap_append, List.length_append]
    omega
  have h3 : ((pks n k).flatMap (moreP n)).length ≤ 4096 := pks_few hn (k + 1)
  omega
def allS (n : Nat) : List (List Int) := (List.range (n + 1)).flatMap (pks n)
theorem mem_allS {n : Nat} {s : List Int} : s ∈ allS n ↔ Sub n s := by
  unfold allS
  rw [List.mem_flatMap]
  constructor
  · rintro ⟨k, _, h⟩
    exact (mem_pks.mp h).1
  · intro h
    have hl : s.length ≤ n := by
      have := nodup_le (h.1.imp fun {a b} z => (show a ≠ b by omega)) (rng_nodup n) fun x m => mem_rng.mpr (h.2 x m)
      rwa [rng_len] at this
    exact ⟨s.length, List.mem_range.mpr (by omega), mem_pks.mpr ⟨h, rfl⟩⟩
def fi (c : Co) : List Int := ((allS c.length).find? (isInv c)).getD (rng c.length)
def begS (n i : Nat) : List (List Int) := (List.range i).flatMap (pks n)
theorem begS_succ (n i : Nat) : begS n (i + 1) = begS n i ++ pks n i := by
  unfold begS
  rw [List.range_succ, List.flatMap_append]
  simp
theorem fi_at {c : Co} {i j : Nat} {x : List Int} (hi : i < c.length + 1) (hx : (pks c.length i)[j]? = some x) (h0 : ∀ s ∈ begS c.length i ++ (pks c.length i).take j, isInv c s = false) (h1 : isInv c x = true) : fi c = x := by
  have e : ∃ r, allS c.length = (begS c.length i ++ (pks c.length i).take j) ++ x :: r := by
    obtain ⟨hj, ex⟩ := List.getElem?_eq_some_iff.mp hx
    refine ⟨(pks c.length i).drop (j + 1) ++ ((List.range (c.length + 1)).drop (i + 1)).flatMap (pks c.length), ?_⟩
    have e1 : List.range (c.length + 1) = List.range i ++ i :: (List.range (c.length + 1)).drop (i + 1) := by
      conv => lhs; rw [← List.take_append_drop i (List.range (c.length + 1))]
      rw [List.take_range, Nat.min_eq_left (by omega), List.drop_eq_getElem_cons (by rw [List.length_range]; exact hi), List.getElem_range]
    have e2 : pks c.length i = (pks c.length i).take j ++ x :: (pks c.length i).drop (j + 1) := by
      conv => lhs; rw [← List.take_append_drop j (pks c.length i)]
      rw [List.drop_eq_getElem_cons hj, ex]
    unfold allS begS
    conv => lhs; rw [e1, List.flatMap_append, List.flatMap_cons, e2]
    simp
  obtain ⟨r, e⟩ := e
  unfold fi
  rw [e, List.find?_append, List.find?_eq_none.mpr fun s m => by rw [h0 s m]; decide, List.find?_cons_of_pos h1]
  rfl
theorem rng_subN (n : Nat) : Sub n (rng n) := ⟨rng_lt n, fun x m => mem_rng.mp m⟩
theorem isInv_iff {c : Co} {t : List Int} : isInv c t = true ↔ nev (inv c t) = [] := by
  unfold isInv
  exact decide_eq_true_iff
theorem comes0 {c : Co} {t : List Int} {p : Int} (h : nd c p ≤ 0) : comes c t p = true := by
  unfold comes cnt
  exact decide_eq_true (by omega)
theorem isInv_all (c : Co) : isInv c (rng c.length) = true := by
  rw [isInv_iff, whole_iff]
  intro p h0 h1
  rw [inv_len] at h1
  refine gr_shut h0 (by rw [inv_len]; exact h1) (t := []) (fun x m => by cases m) (comes0 ?_)
  rw [inv_nd _ (fun x m => mem_rng.mp m) p h0, if_pos (mem_rng.mpr ⟨h0, h1⟩)]
  exact Int.le_refl _
theorem fi_inv (c : Co) : isInv c (fi c) = true ∧ Sub c.length (fi c) := by
  unfold fi
  cases h : (allS c.length).find? (isInv c) with
  | none => exact ⟨isInv_all c, rng_subN _⟩
  | some s => exact ⟨List.find?_some h, mem_allS.mp (List.mem_of_find?_eq_some h)⟩
theorem fi_found (c : Co) : ∃ s ∈ begS c.length (c.length + 1), isInv c s = true := ⟨fi c, mem_allS.mpr (fi_inv c).2, (fi_inv c).1⟩
theorem sub_len {n : Nat} {s : List Int} (h : Sub n s) : s.length ≤ n := by
  have := nodup_le (h.1.imp fun {a b} z => (show a ≠ b by omega)) (rng_nodup n) fun x m => mem_rng.mpr (h.2 x m)
  rwa [rng_len] at this
theorem fi_len (c : Co) : (fi c).length ≤ c.length := sub_len (fi_inv c).2
abbrev T_setsof : TrD := fun xs μ R => ∃ (n k : Nat), xs = [.d (.int (n : Int)), .d (.int (k : Int))] ∧ n ≤ 12 ∧ k ≤ 12 ∧ ∀ q, R (.a q) ((q, Cont.l (tups (pks n k))) :: μ)
abbrev T_fi : TrD := fun xs μ R => ∃ (dc : PyData) (c : Co), xs = [.d dc] ∧ CoD dc c ∧ c.length ≤ 12 ∧ R (.d (.tuple (intsD (fi c)))) μ
abbrev T_few : TrD := fun xs μ R => ∃ (dc : PyData) (c : Co), xs = [.d dc] ∧ CoD dc c ∧ c.length ≤ 12 ∧ R (.d (.int ((fi c).length : Int))) μ
theorem we_is {X : Cx} {δ : Dl} {μ : Cells} {e : Expr} {Q : Vd → Cells → Prop} (v : Vd) (h : WE X e δ μ fun x μ' => x = v ∧ μ' = μ) (k : Q v μ) : WE X e δ μ Q := h.mono fun x μ' ⟨a, b⟩ => by
  rw [a, b]
  exact k
theorem no_next {f : List Int → Bool} {B L : List (List Int)} {j : Nat} {x : List Int} (h : ∀ s ∈ B ++ L.take j, f s = false) (hx : L[j]? = some x) (hf : ¬ f x = true) : ∀ s ∈ B ++ L.take (j + 1), f s = false := fun s m => by
  rw [List.take_add_one, hx, ← List.append_assoc] at m
  rcases List.mem_append.mp m with m | m
  · exact h s m
  · cases List.mem_singleton.mp m
    exact Bool.eq_false_iff.mpr hf
theorem tups_more {n : Nat} {x : List Int} (A : List (List Int)) : tups (A ++ moreP n x) = tups A ++ (List.range ((n : Int) - aft x).toNat).map fun y : Nat => .tuple (intsD (x ++ [aft x + (y : Int)])) := by
  unfold tups
  rw [List.map_append]
  unfold moreP
  rw [List.map_map]
  rfl
end Ec
set_option Elab.async false
set_option linter.all false
set_option maxRecDepth 100000
set_option maxHeartbeats 4000000
namespace Ec
open PySem PySem.Spec PyProof.Rows L2
section
variable {X : Cx} {δ : Dl} {μ : Cells} {Q : Vd → Cells → Prop} {e a b o : Expr} {pos p : Pos} {mg : Str → Option Value}
theorem call_reprA (hgd : X.A.guards = some []) (hu : X.A.units + 64 < cLine) : CallR X (.builtin "repr") (fun xs H Q => ∃ v d, xs = [v] ∧ Dp X.K H v d ∧ d.showable = true ∧ d.hasDict = false ∧ d.depth ≤ 60 ∧ d.shown.length ≤ sizeLine ∧ Q (.str d.shown) H) := by
  intro pins s σ H xs us Q I r h
  obtain ⟨v, d, rfl, hd, h1, h2, h3, h5, q⟩ := h
  cases d with
  | list l => exact call_reprD hgd hu pins s σ H _ us Q I r ⟨v, _, rfl, hd, h1, h2, h3, ⟨l, .inl rfl⟩, h5, q⟩
  | tuple l => exact call_reprD hgd hu pins s σ H _ us Q I r ⟨v, _, rfl, hd, h1, h2, h3, ⟨l, .inr rfl⟩, h5, q⟩
  | dict l => simp only [PyData.hasDict, Bool.true_eq_false] at h2
  | none =>
    cases hd
    obtain ⟨u, rfl, r1⟩ := vals1 r
    cases r1
    exact PySem.P.repr_of_none ⟨.str _, H, I.tok _, ⟨_, rfl⟩, q⟩
  | bool k =>
    cases hd
    obtain ⟨u, rfl, r1⟩ := vals1 r
    cases r1
    exact PySem.P.repr_of_bool ⟨.str _, H, I.tok _, ⟨_, rfl⟩, q⟩
  | int i =>
    cases hd
    obtain ⟨u, rfl, t, rfl⟩ := vals1 r
    exact PySem.P.repr_of_int (by simpa only [PyData.showable, decide_eq_true_eq] using h1) ⟨.str _, H, I.tok _, ⟨_, rfl⟩, q⟩
  | str x =>
    cases hd
    obtain ⟨u, rfl, t, rfl⟩ := vals1 r
    exact PySem.P.repr_of_str ⟨.str _, H, I.tok _, ⟨_, rfl⟩, q⟩ h5
theorem we_reprA (B : Bl mg) (hg : Gl X "repr") (hu : X.A.units + 64 < cLine) (h : WE X e δ μ fun x μ1 => ∃ d, x = .d d ∧ d.showable = true ∧ d.hasDict = false ∧ d.depth ≤ 60 ∧ d.shown.length ≤ sizeLine ∧ Q (.d (.str d.shown)) μ1) (hgd : X.A.guards = some [] := by assumption) (hm : X.mg = mg := by rfl)
    (s1 : starEach [e] X.env = (false, eval e X.env) :: starEach [] X.env := by rfl) (s2 : (backTo pos (starEach [] X.env)).any (·.1) = false := by rfl) :
    WE X (.Call (.Name "repr" p) [e] [] pos) δ μ Q := fun F H σ R QV k =>
  toE (pe_callB (call_reprA hgd hu) hg (hm ▸ B.repr) boot_repr (pa_cons (pcE X e) pa_nil s1) (by decide) (by decide) s1 s2)
    (h F H σ R _ fun v x F1 H1 μ1 w1 R1 o1 q => by
      obtain ⟨d, rfl, h1, h2, h3, h5, q⟩ := q
      exact ⟨v, d, rfl, De.dp (dp_up R1.m.ex _ _ o1), h1, h2, h3, h5, k _ (.d (.str d.shown)) F1 H1 μ1 w1 R1 (.str _) q⟩)
end
end Ec
set_option Elab.async false
set_option linter.all false
set_option maxRecDepth 100000
set_option maxHeartbeats 4000000
namespace Ec
open PySem PySem.Spec PyProof.Rows L2
inductive Okd (N L : Nat) : PyData → Prop
  | non : Okd N L .none
  | bl (b : Bool) : Okd N L (.bool b)
  | int {i : Int} (h : i.natAbs ≤ N) : Okd N L (.int i)
  | str {x : Str} (h : ∀ c ∈ x.cps.toList, c < 16 ^ 8) (h2 : x.cps.size ≤ 60) : Okd N L (.str x)
  | lst {ds : List PyData} (hl : ds.length ≤ L) (h : ∀ d ∈ ds, Okd N L d) : Okd N L (.list ds)
  | tup {ds : List PyData} (hl : ds.length ≤ L) (h : ∀ d ∈ ds, Okd N L d) : Okd N L (.tuple ds)
theorem Okd.mono {N L M L' : Nat} (l : N ≤ M) (l' : L ≤ L') {d : PyData} (h : Okd N L d) : Okd M L' d := by
  induction h with
  | non => exact .non
  | bl b => exact .bl b
  | int h => exact .int (Nat.le_trans h l)
  | str h h2 => exact .str h h2
  | lst hl h ih => exact .lst (Nat.le_trans hl l') ih
  | tup hl h ih => exact .tup (Nat.le_trans hl l') ih
theorem leavesAll_of {B : Nat} : ∀ {ds : List PyData}, (∀ d ∈ ds, d.leavesShort B = true) → PyData.leavesShortAll B ds = true
  | [], _ => by simp only [PyData.leavesShortAll]
  | d :: ds, h => by
    simp only [PyData.leavesShortAll, Bool.and_eq_true]
    exact ⟨h d List.mem_cons_self, leavesAll_of fun x m => h x (List.mem_cons_of_mem _ m)⟩
theorem int_short {i : Int} (h : i.natAbs ≤ 10 ^ 40) : (toString i).length ≤ 42 := int_text_length_le10 (k := 41) (by decide) (Nat.lt_of_le_of_lt h (by decide))
theorem int_log {i : Int} (h : i.natAbs ≤ 10 ^ 40) : i.natAbs.log2 < 1920 := by
  by_cases h0 : i.natAbs = 0
  · rw [h0]
    decide
  · exact (Nat.log2_lt h0).mpr (Nat.lt_of_le_of_lt h (Nat.lt_of_lt_of_le (by decide : 10 ^ 40 < 2 ^ 200) (Nat.pow_le_pow_right (by decide) (by decide))))
theorem Okd.sh {N L : Nat} (hN : N ≤ 10 ^ 40) {d : PyData} (h : Okd N L d) : d.showable = true ∧ d.hasDict = false ∧ d.leavesShort 60 = true := by
  induction h with
  | non => exact ⟨by simp only [PyData.showable], by simp only [PyData.hasDict], by simp only [PyData.leavesShort]⟩
  | bl b => exact ⟨by simp only [PyData.showable], by simp only [PyData.hasDict], by simp only [PyData.leavesShort]⟩
  | @int i h =>
    have h' := Nat.le_trans h hN
    refine ⟨by simp only [PyData.showable]; exact decide_eq_true (int_log h'), by simp only [PyData.hasDict], ?_⟩
    simp only [PyData.leavesShort, PyData.shown]
    refine decide_eq_true ?_
    have e := int_short h'
    show (Str.ofString (toString i)).length ≤ _
    rw [PySem.ofString_length]
    omega
  | @str x h h2 =>
    refine ⟨by simp only [PyData.showable], by simp only [PyData.hasDict], ?_⟩
    simp only [PyData.leavesShort]
    exact List.all_eq_true.mpr fun c m => decide_eq_true (h c m)
  | lst hl h ih =>
    refine ⟨?_, ?_, ?_⟩
    · simp only [PyData.showable]; exact showableAll_of fun d m => (ih d m).1
    · simp only [PyData.hasDict]; exact hasDictAll_of fun d m => (ih d m).2.1
    · simp only [PyData.leavesShort]; exact leavesAll_of fun d m => (ih d m).2.2
  | tup hl h ih =>
    refine ⟨?_, ?_, ?_⟩
    · simp only [PyData.showable]; exact showableAll_of fun d m => (ih d m).1
    · simp only [PyData.hasDict]; exact hasDictAll_of fun d m => (ih d m).2.1
    · simp only [PyData.leavesShort]; exact leavesAll_of fun d m => (ih d m).2.2
structure Nc (N L k W : Nat) (d : PyData) : Prop where
  ok : Okd N L d
  dp : d.depth ≤ k
  wt : d.weight ≤ W
theorem Nc.mono {N L k W N' L' k' W' : Nat} {d : PyData} (h : Nc N L k W d) (a : N ≤ N') (b : L ≤ L') (c : k ≤ k') (e : W ≤ W') : Nc N' L' k' W' d := ⟨h.ok.mono a b, Nat.le_trans h.dp c, Nat.le_trans h.wt e⟩
theorem Nc.shw {N L k W : Nat} {d : PyData} (h : Nc N L k W d) (hN : N ≤ 10 ^ 40) (hk : k ≤ 60) (hW : W ≤ 200000) : d.showable = true ∧ d.hasDict = false ∧ d.depth ≤ 60 ∧ d.shown.length ≤ sizeLine := by
  obtain ⟨a, b, c⟩ := h.ok.sh hN
  refine ⟨a, b, Nat.le_trans h.dp hk, ?_⟩
  have := PyData.shown_le 60 (by decide) d c
  have h2 := h.wt
  exact Nat.le_trans (by omega : d.shown.length ≤ 62 * 200000 + 60) (by decide)
end Ec
namespace Ec
open PySem PySem.Spec PyProof.Rows L2
end Ec
set_option Elab.async false
set_option linter.all false
set_option maxRecDepth 100000
set_option maxHeartbeats 4000000
namespace Ec
open PySem PySem.Spec PyProof.Rows L2
theorem rev_ints (l : List Int) : (intsD l).reverse = intsD l.reverse := List.map_reverse.symm
def ea28 (c : Co) (p : Int) : Nat := ((List.range c.length).filter fun i => decide (0 < cnI c p i)).headD 0
theorem ea28_ok {c : Co} {p : Int} (hw : nev c = []) (hp : 0 ≤ p ∧ p < c.length) : 0 < cnI c p (ea28 c p) ∧ ∀ i, i < ea28 c p → cnI c p i = 0 := by
  obtain ⟨r, hr⟩ := ord_there hw
  have hk : 0 < cnI c p (posn p r) := cnI_some.mpr ⟨r, hr, rfl⟩
  have hkl : posn p r < c.length := by
    have := posn_lt (hr.mem hp.1 hp.2)
    have h2 := hr.lens
    omega
  unfold ea28
  cases e : (List.range c.length).filter fun i => decide (0 < cnI c p i) with
  | nil =>
    have : posn p r ∈ (List.range c.length).filter fun i => decide (0 < cnI c p i) := List.mem_filter.mpr ⟨List.mem_range.mpr hkl, decide_eq_true hk⟩
    rw [e] at this
    cases this
  | cons x L =>
    have hx : x ∈ (List.range c.length).filter fun i => decide (0 < cnI c p i) := by rw [e]; exact List.mem_cons_self
    obtain ⟨hx1, hx2⟩ := List.mem_filter.mp hx
    refine ⟨of_decide_eq_true hx2, fun i hi => ?_⟩
    have hi : i < x := hi
    by_cases h0 : 0 < cnI c p i
    · have hm : i ∈ (List.range c.length).filter fun i => decide (0 < cnI c p i) := List.mem_filter.mpr ⟨List.mem_range.mpr (by have := List.mem_range.mp hx1; omega), decide_eq_true h0⟩
      have hs : ((List.range c.length).filter fun i => decide (0 < cnI c p i)).Pairwise (· < ·) := List.Pairwise.filter _ List.pairwise_lt_range
      rw [e] at hm hs
      rcases List.mem_cons.mp hm with h | h
      · omega
      · have := List.rel_of_pairwise_cons hs h
        omega
    · omega
def rows28 (c : Co) (k : Nat) (s o : Int) (t : List Int) : List (List PyData) :=
  [[.int ((allP c c.length).length : Nat), .tuple (intsD t), .int (k : Int), .tuple (intsD (fo c)), .tuple (intsD (la c)), misV c t.reverse],
   (mb c).map duoD, (fp c).map duoD, tups (AR c [] []), intsD (nexts c (srt (t.take 2))),
   [.tuple (intsD (er c s)), .tuple (intsD (bh c s)), .int ((cl c [] [s]).length : Nat)],
   [.tuple (intsD (gr c)), .tuple (intsD (cl c [] [s])), .int ((fi c).length : Nat), .tuple (intsD (fi c))],
   natsD (frp c t), (crs c.length t (la c)).map duoD, [.int ((crs c.length t (la c)).length : Nat)],
   tups ((List.range c.length).map fun i => red (cnI c s i) (allP c c.length).length), [.int (ea28 c s : Nat)], intsD (spr c [s])]
def q28 (c : Co) (a b : Nat) : List (List PyData) :=
  rows28 c (a % (allP c c.length).length) ((a % c.length : Nat) : Int) ((b % c.length : Nat) : Int) ((allP c c.length).getD (a % (allP c c.length).length) [])
    ++ (if a % c.length = b % c.length then [] else [[.tuple (intsD (red (cnB c ((a % c.length : Nat) : Int) ((b % c.length : Nat) : Int)) (allP c c.length).length))]])
    ++ if (allP c c.length).length ≤ 60 then [tups (allP c c.length)] else []
abbrev T_qry : TrD := fun xs μ R => ∃ (dc : PyData) (c : Co) (a b : Nat), xs = [.d dc, .d (.tuple [.int (a : Int), .int (b : Int)])] ∧ CoD dc c ∧ 2 ≤ c.length ∧ c.length ≤ 6 ∧ nev c = [] ∧ CoW c ∧ μ = [] ∧
  ∀ (p : Addr) (ν : List (Addr × List PyData)), ν.map Prod.snd = q28 c a b → R (.a p) ((p, (pcs ν : Cont)) :: cls ν)
structure Nw (w : Nat) (d : PyData) : Prop where
  ok : Okd 1000 400 d
  dp : d.depth ≤ 4
  wt : d.weight ≤ w
theorem nw_int {i : Int} (h : i.natAbs ≤ 1000) : Nw 10 (.int i) := ⟨.int h, Nat.zero_le _, by
  unfold PyData.weight
  split
  · exact Nat.zero_le _
  · rename_i h0
    have h1 : i.natAbs ≠ 0 := fun z => h0 (by rw [beq_iff_eq]; omega)
    have := (Nat.log2_lt h1).mpr (Nat.lt_of_le_of_lt h (by decide : 1000 < 2 ^ 10))
    omega⟩
structure Nws (w l k : Nat) (ds : List PyData) : Prop where
  ok : ∀ d ∈ ds, Okd 1000 400 d
  dp : PyData.depthAll ds ≤ k
  wt : PyData.weightAll ds ≤ w
  ln : ds.length ≤ l
theorem nws_of {w k : Nat} : ∀ {ds : List PyData}, (∀ d ∈ ds, Okd 1000 400 d ∧ d.depth ≤ k ∧ d.weight ≤ w) → Nws (ds.length * (w + 1)) ds.length k ds := fun {ds} h => by
  refine ⟨fun d m => (h d m).1, depths_le fun d m => (h d m).2.1, ?_, Nat.le_refl _⟩
  induction ds with
  | nil => simp only [PyData.weightAll]; exact Nat.zero_le _
  | cons d ds ih =>
    simp only [PyData.weightAll, List.length_cons]
    have h1 := (h d List.mem_cons_self).2.2
    have h2 := ih fun x m => h x (List.mem_cons_of_mem _ m)
    rw [Nat.succ_mul]
    omega
theorem Nws.mono {w l k w' l' k' : Nat} {ds : List PyData} (h : Nws w l k ds) (a : w ≤ w') (b : l ≤ l') (c : k ≤ k') : Nws w' l' k' ds := ⟨h.ok, Nat.le_trans h.dp c, Nat.le_trans h.wt a, Nat.le_trans h.ln b⟩
theorem nws_ints {L : List Int} {n : Nat} (h : ∀ x ∈ L, 0 ≤ x ∧ x < 1000) (hl : L.length ≤ n) : Nws (n * 11) n 0 (intsD L) := by
  have := nws_of (ds := intsD L) (w := 10) (k := 0) fun d m => by
    obtain ⟨i, hi, rfl⟩ := List.mem_map.mp m
    have h1 := h i hi
    have h2 := nw_int (i := i) (by omega)
    exact ⟨h2.ok, Nat.zero_le _, h2.wt⟩
  rw [List.length_map] at this
  exact this.mono (Nat.mul_le_mul_right _ hl) hl (Nat.le_refl _)
theorem nws_tup {w l k : Nat} {ds : List PyData} (h : Nws w l k ds) (hl : l ≤ 400) : Okd 1000 400 (.tuple ds) ∧ (PyData.tuple ds).depth ≤ k + 1 ∧ (PyData.tuple ds).weight ≤ w := by
  refine ⟨.tup (Nat.le_trans h.ln hl) h.ok, ?_, ?_⟩
  · simp only [PyData.depth]; have := h.dp; omega
  · simp only [PyData.weight]; exact h.wt
theorem nws_lst {w l k : Nat} {ds : List PyData} (h : Nws w l k ds) (hl : l ≤ 400) : Okd 1000 400 (.list ds) ∧ (PyData.list ds).depth ≤ k + 1 ∧ (PyData.list ds).weight ≤ w := by
  refine ⟨.lst (Nat.le_trans h.ln hl) h.ok, ?_, ?_⟩
  · simp only [PyData.depth]; have := h.dp; omega
  · simp only [PyData.weight]; exact h.wt
theorem nws_tups {n l : Nat} {L : List (List Int)} (h : ∀ t ∈ L, (∀ x ∈ t, 0 ≤ x ∧ x < 1000) ∧ t.length ≤ n) (hl : L.length ≤ l) (hn : n ≤ 400) : Nws (l * (n * 11 + 1)) l 1 (tups L) := by
  have := nws_of (ds := tups L) (w := n * 11) (k := 1) fun d m => by
    obtain ⟨t, ht, rfl⟩ := List.mem_map.mp m
    exact nws_tup (nws_ints (h t ht).1 (h t ht).2) hn
  rw [List.length_map] at this
  exact this.mono (Nat.mul_le_mul_right _ hl) hl (Nat.le_refl _)
theorem nws_duo {l : Nat} {L : List (Int × Int)} (h : ∀ q ∈ L, (0 ≤ q.1 ∧ q.1 < 1000) ∧ 0 ≤ q.2 ∧ q.2 < 1000) (hl : L.length ≤ l) : Nws (l * 23) l 1 (L.map duoD) := by
  have := nws_of (ds := L.map duoD) (w := 22) (k := 1) fun d m => by
    obtain ⟨q, hq, rfl⟩ := List.mem_map.mp m
    have := nws_tup (nws_ints (L := [q.1, q.2]) (n := 2) (fun x mx => by
      rcases List.mem_cons.mp mx with rfl | mx
      · exact (h q hq).1
      · rcases List.mem_cons.mp mx with rfl | mx
        · exact (h q hq).2
        · cases mx) (by simp)) (by decide)
    exact this
  rw [List.length_map] at this
  exact this.mono (Nat.mul_le_mul_right _ hl) hl (Nat.le_refl _)
def Row28 (ds : List PyData) : Prop := Nws 9200 400 3 ds ∧ plS ds
theorem row_ints {L : List Int} (h : ∀ x ∈ L, 0 ≤ x ∧ x < 1000) (hl : L.length ≤ 400) : Row28 (intsD L) := ⟨(nws_ints h hl).mono (by decide) (by decide) (by decide), plS_map fun _ => rfl⟩
theorem row_duo {L : List (Int × Int)} (h : ∀ q ∈ L, (0 ≤ q.1 ∧ q.1 < 1000) ∧ 0 ≤ q.2 ∧ q.2 < 1000) (hl : L.length ≤ 400) : Row28 (L.map duoD) := ⟨(nws_duo h hl).mono (by decide) (by decide) (by decide), plS_map fun _ => rfl⟩
theorem row_tups {L : List (List Int)} (h : ∀ t ∈ L, (∀ x ∈ t, 0 ≤ x ∧ x < 1000) ∧ t.length ≤ 6) (hl : L.length ≤ 60) : Row28 (tups L) := ⟨(nws_tups h hl (by decide)).mono (by decide) (by decide) (by decide), plS_map fun _ => rfl⟩
def It28 (d : PyData) : Prop := (Okd 1000 400 d ∧ d.depth ≤ 2 ∧ d.weight ≤ 66) ∧ isP d = false
theorem it_int {i : Int} (h : i.natAbs ≤ 1000) : It28 (.int i) := ⟨⟨(nw_int h).ok, Nat.zero_le _, Nat.le_trans (nw_int h).wt (by decide)⟩, rfl⟩
theorem it_non : It28 .none := ⟨⟨.non, Nat.zero_le _, by simp only [PyData.weight]; exact Nat.zero_le _⟩, rfl⟩
theorem it_tup {L : List Int} (h : ∀ x ∈ L, 0 ≤ x ∧ x < 1000) (hl : L.length ≤ 6) : It28 (.tuple (intsD L)) := by
  obtain ⟨a, b, c⟩ := nws_tup (nws_ints h hl) (by decide)
  exact ⟨⟨a, Nat.le_trans b (by decide), c⟩, rfl⟩
theorem row_its {ds : List PyData} (h : ∀ d ∈ ds, It28 d) (hl : ds.length ≤ 60) : Row28 ds := by
  refine ⟨(nws_of fun d m => (h d m).1).mono ?_ (Nat.le_trans hl (by decide)) (by decide), fun d m => (h d m).2⟩
  exact Nat.le_trans (Nat.mul_le_mul_right _ hl) (by decide)
theorem rows_ok {rs : List (List PyData)} (h : ∀ r ∈ rs, Row28 r) (hl : rs.length ≤ 15) : (PyData.list (rs.map PyData.list)).showable = true ∧ (PyData.list (rs.map PyData.list)).hasDict = false ∧ (PyData.list (rs.map PyData.list)).depth ≤ 60 ∧ (PyData.list (rs.map PyData.list)).shown.length ≤ sizeLine := by
  have h1 := nws_of (ds := rs.map PyData.list) (w := 9200) (k := 4) fun d m => by
    obtain ⟨r, hr, rfl⟩ := List.mem_map.mp m
    exact nws_lst (h r hr).1 (by decide)
  rw [List.length_map] at h1
  obtain ⟨a, b, c⟩ := nws_lst h1 (Nat.le_trans hl (by decide))
  refine Nc.shw (N := 1000) (L := 400) (k := 5) (W := 138015) ⟨a, b, Nat.le_trans c ?_⟩ (by decide) (by decide) (by decide)
  exact Nat.le_trans (Nat.mul_le_mul_right _ hl) (by decide)
section
variable {c : Co}
theorem rg_k {n : Nat} {L : List Int} (h : Rg n L) (hn : n ≤ 6) : ∀ x ∈ L, 0 ≤ x ∧ x < 1000 := fun x m => by
  have := h x m
  omega
theorem cl_rgs (c : Co) (b : List Int) : Rg c.length (cl c [] b) := fun x m => by
  have := cl_in (c := c) (t := []) (b := b) (S := fun x => 0 ≤ x ∧ x < c.length) (fun p h0 h1 _ _ => ⟨h0, h1⟩) (fun _ z => by cases z) x m
  exact this
theorem red_le (a b : Nat) : ∀ x ∈ red a b, 0 ≤ x ∧ x ≤ ((max a b : Nat) : Int) := fun x m => by
  unfold red at m
  have h1 := Nat.div_le_self a (Nat.gcd a b)
  have h2 := Nat.div_le_self b (Nat.gcd a b)
  generalize a / Nat.gcd a b = u at m h1
  generalize b / Nat.gcd a b = v at m h2
  rcases List.mem_cons.mp m with rfl | m
  · omega
  · rcases List.mem_cons.mp m with rfl | m
    · omega
    · cases m
theorem er_le6 (c : Co) (p : Int) : (er c p).length ≤ c.length := by
  unfold er
  refine Nat.le_trans (List.length_filter_le _ _) ?_
  first | (rw [rng_len]; exact Nat.le_refl _) | (refine Nat.le_trans (List.length_filter_le _ _) ?_; rw [rng_len]; exact Nat.le_refl _)
theorem gr_rgs (c : Co) : Rg c.length (gr c) := cl_rgs c []
theorem rows28_ok {t : List Int} {s o : Int} {k : Nat} (hw : nev c = []) (h0 : 2 ≤ c.length) (h6 : c.length ≤ 6) (hW : (allP c c.length).length ≤ 720) (ht : IsOrd c t) (hs : 0 ≤ s ∧ s < c.length) (hk : k ≤ 720) : ∀ r ∈ rows28 c k s o t, Row28 r := by
  have tup : ∀ {L : List Int}, Rg c.length L → L.length ≤ c.length → It28 (.tuple (intsD L)) := fun {L} h l => it_tup (rg_k h h6) (by omega)
  have inz : ∀ {L : List Int}, Rg c.length L → L.length ≤ c.length → Row28 (intsD L) := fun {L} h l => row_ints (rg_k h h6) (by omega)
  have tl := ht.lens
  have hfo := fo_ord hw
  have hla := la_ord hw
  have hx := hfo.lens
  have hy := hla.lens
  have hcr : (crs c.length t (la c)).length ≤ 100 := crs_len64 (by omega) _ _
  have hea := (ea28_ok hw hs).1
  have hel : ea28 c s ≤ 6 := by
    obtain ⟨r, hr, e⟩ := cnI_some.mp hea
    have := posn_lt (hr.mem hs.1 hs.2)
    have := hr.lens
    omega
  have hcl := cl_le c [s]
  have hfl := fi_len c
  have hgl := gr_len' c
  intro r hr
  unfold rows28 at hr
  simp only [List.mem_cons, List.not_mem_nil, or_false] at hr
  rcases hr with rfl | rfl | rfl | rfl | rfl | rfl | rfl | rfl | rfl | rfl | rfl | rfl | rfl
  · refine row_its (fun d m => ?_) (by simp)
    simp only [List.mem_cons, List.not_mem_nil, or_false] at m
    rcases m with rfl | rfl | rfl | rfl | rfl | rfl
    · exact it_int (by omega)
    · exact tup ht.rows (by omega)
    · exact it_int (by omega)
    · exact tup hfo.rows (by omega)
    · exact tup hla.rows (by omega)
    · by_cases h : misL c t.reverse = []
      · rw [misV_empty h]
        exact it_non
      · obtain ⟨i, e, hi⟩ := misV_some h
        rw [e]
        rw [List.length_reverse] at hi
        exact it_int (by omega)
  · refine row_duo (fun q m => ?_) (mb_few (by omega))
    obtain ⟨a, b⟩ := mem_mb.mp (show (q.1, q.2) ∈ mb c from m)
    have := (mem_bh.mp b).1
    exact ⟨⟨by omega, by omega⟩, by omega, by omega⟩
  · refine row_duo (fun q m => ?_) (fp_few (by omega))
    have := mem_fp.mp (show (q.1, q.2) ∈ fp c from m)
    exact ⟨⟨by omega, by omega⟩, by omega, by omega⟩
  · refine row_tups (fun r m => ⟨fun x mx => ?_, ?_⟩) (Nat.le_trans AR_len (by omega))
    · have := AR_rg r m x mx
      omega
    · have := AR_row r m
      omega
  · exact inz (fun x m => (mem_nexts.mp m).1) (nexts_le c _)
  · refine row_its (fun d m => ?_) (by simp)
    simp only [List.mem_cons, List.not_mem_nil, or_false] at m
    rcases m with rfl | rfl | rfl
    · exact tup (fun x m => (er_mem.mp m).1) (er_le6 c s)
    · exact tup (fun x m => (mem_bh.mp m).1) (bh_le c s)
    · exact it_int (by omega)
  · refine row_its (fun d m => ?_) (by simp)
    simp only [List.mem_cons, List.not_mem_nil, or_false] at m
    rcases m with rfl | rfl | rfl | rfl
    · exact tup (gr_rgs c) hgl
    · exact tup (cl_rgs c _) hcl
    · exact it_int (by omega)
    · exact tup (fun x m => (fi_inv c).2.2 x m) hfl
  · rw [natsD_ints]
    refine row_ints (fun x m => ?_) ?_
    · obtain ⟨i, hi, rfl⟩ := List.mem_map.mp m
      have := (frp_ok ht).mp hi
      omega
    · rw [List.length_map]
      exact Nat.le_trans (frp_le40 ht (by omega)) (by decide)
  · refine row_duo (fun q m => ?_) (by omega)
    have := (mem_crs.mp (show (q.1, q.2) ∈ crs c.length t (la c) from m)).1
    exact ⟨⟨by omega, by omega⟩, by omega, by omega⟩
  · refine row_its (fun d m => ?_) (by simp)
    rw [List.mem_singleton.mp m]
    exact it_int (by omega)
  · refine row_tups (fun r m => ?_) (by rw [List.length_map, List.length_range]; omega)
    obtain ⟨i, hi, rfl⟩ := List.mem_map.mp m
    refine ⟨fun x mx => ?_, by unfold red; simp⟩
    have h1 := red_le _ _ x mx
    have h2 : cnI c s i ≤ (allP c c.length).length := List.countP_le_length
    omega
  · refine row_its (fun d m => ?_) (by simp)
    rw [List.mem_singleton.mp m]
    exact it_int (by omega)
  · refine inz (fun x m => ?_) ?_
    · unfold spr at m
      have := (List.mem_filter.mp m).1
      rw [List.mem_singleton.mp this]
      exact hs
    · unfold spr
      refine Nat.le_trans (List.length_filter_le _ _) ?_
      simp
      omega
theorem ord28 {c : Co} (hw : nev c = []) (a : Nat) : (allP c c.length)[a % (allP c c.length).length]? = some ((allP c c.length).getD (a % (allP c c.length).length) []) ∧ IsOrd c ((allP c c.length).getD (a % (allP c c.length).length) []) := by
  have h := Nat.mod_lt a (all_some hw)
  have e : (allP c c.length)[a % (allP c c.length).length]? = some ((allP c c.length).getD (a % (allP c c.length).length) []) := by
    rw [List.getD_eq_getElem?_getD, List.getElem?_eq_getElem h]
    rfl
  exact ⟨e, mem_all.mp (List.mem_of_getElem? e)⟩
theorem fct28 {c : Co} (h6 : c.length ≤ 6) : (allP c c.length).length ≤ 720 := Nat.le_trans (all_fct h6) (by decide)
theorem q28_ok {a b : Nat} (hw : nev c = []) (h0 : 2 ≤ c.length) (h6 : c.length ≤ 6) : ∀ r ∈ q28 c a b, Row28 r := by
  have hW := fct28 h6
  have h := Nat.mod_lt a (all_some hw)
  have hs := Nat.mod_lt a (show 0 < c.length by omega)
  intro r hr
  unfold q28 at hr
  rcases List.mem_append.mp hr with hr | hr
  · rcases List.mem_append.mp hr with hr | hr
    · exact rows28_ok hw h0 h6 hW (ord28 hw a).2 ⟨by omega, by omega⟩ (by omega) r hr
    · split at hr
      · cases hr
      · rw [List.mem_singleton.mp hr]
        refine row_its (fun d m => ?_) (by simp)
        rw [List.mem_singleton.mp m]
        refine it_tup (fun x mx => ?_) (by unfold red; simp)
        have h1 := red_le _ _ x mx
        have h2 : cnB c ((a % c.length : Nat) : Int) ((b % c.length : Nat) : Int) ≤ (allP c c.length).length := List.countP_le_length
        omega
  · split at hr
    · rename_i h60
      rw [List.mem_singleton.mp hr]
      refine row_tups (fun t m => ?_) h60
      have ho := mem_all.mp m
      refine ⟨fun x mx => ?_, ?_⟩
      · have := ho.rows x mx
        omega
      · have := ho.lens
        omega
    · cases hr
theorem q28_len {a b : Nat} : (q28 c a b).length ≤ 15 := by
  unfold q28 rows28
  simp only [List.length_append, List.length_cons, List.length_nil]
  split <;> split <;> simp
end
end Ec
namespace Ec
open PySem PySem.Spec PyProof.Rows L2
structure G28 (c : Co) : Prop where
  lo : 2 ≤ c.length
  hi : c.length ≤ 6
  nv : nev c = []
  cw : CoW c
  fr : ∀ e ∈ c, e.1.length ≤ 1000
theorem G28.co {c : Co} (h : G28 c) : CoD (coD c) c := coD_ok' (by have := h.hi; omega) h.fr
theorem G28.coL {c : Co} (h : G28 c) : CoD (Ec.coL c) c := coL_ok (by have := h.hi; omega) h.fr
def txt28 (c : Co) (a b : Nat) : Str := (PyData.list ((q28 c a b).map PyData.list)).shown
theorem pda28 {c : Co} {a b : Nat} {ν : List (Addr × List PyData)} (h : ν.map Prod.snd = q28 c a b) : pda ν = (q28 c a b).map PyData.list := by
  rw [← h, List.map_map]
  rfl
theorem pl28 {c : Co} {a b : Nat} (g : G28 c) {ν : List (Addr × List PyData)} (h : ν.map Prod.snd = q28 c a b) : ∀ y ∈ ν, plS y.2 := fun y m =>
  (q28_ok g.nv g.lo g.hi y.2 (by rw [← h]; exact List.mem_map.mpr ⟨y, m, rfl⟩)).2
theorem ln28 {c : Co} {a b : Nat} (g : G28 c) {ν : List (Addr × List PyData)} (h : ν.map Prod.snd = q28 c a b) : ∀ y ∈ ν, y.2.length ≤ 400 := fun y m =>
  (q28_ok g.nv g.lo g.hi y.2 (by rw [← h]; exact List.mem_map.mpr ⟨y, m, rfl⟩)).1.ln
theorem shw28 {c : Co} {a b : Nat} (g : G28 c) : (PyData.list ((q28 c a b).map PyData.list)).showable = true ∧ (PyData.list ((q28 c a b).map PyData.list)).hasDict = false ∧ (PyData.list ((q28 c a b).map PyData.list)).depth ≤ 60 ∧ (PyData.list ((q28 c a b).map PyData.list)).shown.length ≤ sizeLine :=
  rows_ok (q28_ok g.nv g.lo g.hi) q28_len
theorem kept28 {c d : Co} (g : G28 c) (h : G28 d) : Shw 4000000 4 (.list [coD c, coD d]) := by
  refine (Shw.lst (n := 1000000) (k := 3) (ds := [coD c, coD d]) fun x hx => ?_).mono (show 2 * (1000000 + 2) + 3 ≤ 4000000 by decide)
  simp only [List.mem_cons, List.mem_nil_iff, or_false] at hx
  rcases hx with rfl | rfl
  · exact g.cw.shw (by have := g.hi; omega) g.fr
  · exact h.cw.shw (by have := h.hi; omega) h.fr
theorem pcs_map (ν : List (Addr × List PyData)) : pcs ν = (ν.map Prod.fst).map ptr := by
  rw [List.map_map]
  rfl
theorem two28 {c d : Co} (g : G28 c) (h : G28 d) {v : Int} (h0 : 0 ≤ v) (h1 : v < 2) (a b : Nat) : ∃ x, G28 x ∧ atI [coD c, coD d] v = some (coD x) ∧ atI ([c, d].map fun x => PyData.str (txt28 x a b)) v = some (.str (txt28 x a b)) := by
  have : v = 0 ∨ v = 1 := by omega
  rcases this with rfl | rfl
  · exact ⟨c, g, rfl, rfl⟩
  · exact ⟨d, h, rfl, rfl⟩
end Ec
set_option Elab.async false
set_option linter.all false
set_option autoImplicit false
set_option maxRecDepth 100000
set_option maxHeartbeats 4000000
set_option pp.maxSteps 60
namespace Lw
open PySem PySem.Spec PyProof.Rows L2 Ec
def topS (i : Nat) : Stmt := PySem.Challenge.pw_enoughcame_k28_queries_in_turn.main.body.getD i (.Pass ⟨0, 0, 0, 0⟩)
abbrev s_iStuck : Stmt := clsS (topS 1) 0
theorem sc_iStuck : FnScope ["self", "people"] ["self", "people"] (defScope s_iStuck) := ⟨rfl, rfl, rfl, by decide +kernel, rfl, by decide +kernel, by decide +kernel⟩
theorem ini_Stuck {P : Program} {w : World} {K : PySem.W.Frag} {mg : Str → Option Value} {base : Heap} {f C : Addr} {fd : FuncData} (F : Fun K "__init__" "Stuck.__init__" s_iStuck f fd) (T : Oxg K C "ValueError.__new__" [.type "ValueError", .type "Exception", .type "BaseException", .type "object"])
    (hno : PySem.W.findIn K (.ref C) "people" = some none) (hm : mg "ValueError" = none) (vV : PySem.W.findCls K (.type "ValueError") (.type "type") "__init__" = some (.val (.builtin "ValueError.__init__"))) :
    FnOk P w K mg base CX0 1 f fd ["self", "people"] (spIni C "people" (Fm K)) :=
  ini_fn F sc_iStuck bas_VE T hno hm (by kernel_rfl) vV (by decide +kernel) (by decide +kernel) (by decide) (by decide) (by with_unfolding_all rfl) (by with_unfolding_all rfl) (by with_unfolding_all rfl) (by decide) (by decide)
    (fun X h => by unfold Gl; unfold Env.kindOf; rw [h]; with_unfolding_all rfl) _ (fun X h => by with_unfolding_all rfl) (fun X hr hN h => ⟨_, (.cons (txt_c 100 (by decide +kernel)) (.cons (txt_v hr hN (h ▸ .inl (by with_unfolding_all rfl)) (by decide) (by decide)) .nil)), by decide⟩) (fun X h => by with_unfolding_all rfl) (fun X h => by with_unfolding_all rfl)
abbrev s_iMisfit : Stmt := clsS (topS 2) 0
theorem sc_iMisfit : FnScope ["self", "place"] ["self", "place"] (defScope s_iMisfit) := ⟨rfl, rfl, rfl, by decide +kernel, rfl, by decide +kernel, by decide +kernel⟩
theorem ini_Misfit {P : Program} {w : World} {K : PySem.W.Frag} {mg : Str → Option Value} {base : Heap} {f C : Addr} {fd : FuncData} (F : Fun K "__init__" "Misfit.__init__" s_iMisfit f fd) (T : Oxg K C "ValueError.__new__" [.type "ValueError", .type "Exception", .type "BaseException", .type "object"])
    (hno : PySem.W.findIn K (.ref C) "place" = some none) (hm : mg "ValueError" = none) (vV : PySem.W.findCls K (.type "ValueError") (.type "type") "__init__" = some (.val (.builtin "ValueError.__init__"))) :
    FnOk P w K mg base CX0 1 f fd ["self", "place"] (spIni C "place" (Fm K)) :=
  ini_fn F sc_iMisfit bas_VE T hno hm (by kernel_rfl) vV (by decide +kernel) (by decide +kernel) (by decide) (by decide) (by with_unfolding_all rfl) (by with_unfolding_all rfl) (by with_unfolding_all rfl) (by decide) (by decide)
    (fun X h => by unfold Gl; unfold Env.kindOf; rw [h]; with_unfolding_all rfl) _ (fun X h => by with_unfolding_all rfl) (fun X hr hN h => ⟨_, (.cons (txt_c 100 (by decide +kernel)) (.cons (txt_v hr hN (h ▸ .inl (by with_unfolding_all rfl)) (by decide) (by decide)) (.cons (txt_c 100 (by decide +kernel)) .nil))), by decide⟩) (fun X h => by with_unfolding_all rfl) (fun X h => by with_unfolding_all rfl)
abbrev s_iNoInvitation : Stmt := clsS (topS 3) 0
theorem sc_iNoInvitation : FnScope ["self", "people"] ["self", "people"] (defScope s_iNoInvitation) := ⟨rfl, rfl, rfl, by decide +kernel, rfl, by decide +kernel, by decide +kernel⟩
theorem ini_NoInvitation {P : Program} {w : World} {K : PySem.W.Frag} {mg : Str → Option Value} {base : Heap} {f C : Addr} {fd : FuncData} (F : Fun K "__init__" "NoInvitation.__init__" s_iNoInvitation f fd) (T : Oxg K C "ValueError.__new__" [.type "ValueError", .type "Exception", .type "BaseException", .type "object"])
    (hno : PySem.W.findIn K (.ref C) "people" = some none) (hm : mg "ValueError" = none) (vV : PySem.W.findCls K (.type "ValueError") (.type "type") "__init__" = some (.val (.builtin "ValueError.__init__"))) :
    FnOk P w K mg base CX0 1 f fd ["self", "people"] (spIni C "people" (Fm K)) :=
  ini_fn F sc_iNoInvitation bas_VE T hno hm (by kernel_rfl) vV (by decide +kernel) (by decide +kernel) (by decide) (by decide) (by with_unfolding_all rfl) (by with_unfolding_all rfl) (by with_unfolding_all rfl) (by decide) (by decide)
    (fun X h => by unfold Gl; unfold Env.kindOf; rw [h]; with_unfolding_all rfl) _ (fun X h => by with_unfolding_all rfl) (fun X hr hN h => ⟨_, (.cons (txt_c 100 (by decide +kernel)) (.cons (txt_v hr hN (h ▸ .inl (by with_unfolding_all rfl)) (by decide) (by decide)) .nil)), by decide⟩) (fun X h => by with_unfolding_all rfl) (fun X h => by with_unfolding_all rfl)
abbrev s_iNoPerson : Stmt := clsS (topS 4) 0
theorem sc_iNoPerson : FnScope ["self", "person"] ["self", "person"] (defScope s_iNoPerson) := ⟨rfl, rfl, rfl, by decide +kernel, rfl, by decide +kernel, by decide +kernel⟩
theorem ini_NoPerson {P : Program} {w : World} {K : PySem.W.Frag} {mg : Str → Option Value} {base : Heap} {f C : Addr} {fd : FuncData} (F : Fun K "__init__" "NoPerson.__init__" s_iNoPerson f fd) (T : Oxg K C "LookupError.__new__" [.type "LookupError", .type "Exception", .type "BaseException", .type "object"])
    (hno : PySem.W.findIn K (.ref C) "person" = some none) (hm : mg "LookupError" = none) (vV : PySem.W.findCls K (.type "LookupError") (.type "type") "__init__" = some (.val (.builtin "LookupError.__init__"))) :
    FnOk P w K mg base CX0 1 f fd ["self", "person"] (spIni C "person" (Fm K)) :=
  ini_fn F sc_iNoPerson bas_LE T hno hm (by kernel_rfl) vV (by decide +kernel) (by decide +kernel) (by decide) (by decide) (by with_unfolding_all rfl) (by with_unfolding_all rfl) (by with_unfolding_all rfl) (by decide) (by decide)
    (fun X h => by unfold Gl; unfold Env.kindOf; rw [h]; with_unfolding_all rfl) _ (fun X h => by with_unfolding_all rfl) (fun X hr hN h => ⟨_, (.cons (txt_c 100 (by decide +kernel)) (.cons (txt_v hr hN (h ▸ .inl (by with_unfolding_all rfl)) (by decide) (by decide)) .nil)), by decide⟩) (fun X h => by with_unfolding_all rfl) (fun X h => by with_unfolding_all rfl)
abbrev s_iNoNumber : Stmt := clsS (topS 5) 0
theorem sc_iNoNumber : FnScope ["self", "number"] ["self", "number"] (defScope s_iNoNumber) := ⟨rfl, rfl, rfl, by decide +kernel, rfl, by decide +kernel, by decide +kernel⟩
theorem ini_NoNumber {P : Program} {w : World} {K : PySem.W.Frag} {mg : Str → Option Value} {base : Heap} {f C : Addr} {fd : FuncData} (F : Fun K "__init__" "NoNumber.__init__" s_iNoNumber f fd) (T : Oxg K C "LookupError.__new__" [.type "LookupError", .type "Exception", .type "BaseException", .type "object"])
    (hno : PySem.W.findIn K (.ref C) "number" = some none) (hm : mg "LookupError" = none) (vV : PySem.W.findCls K (.type "LookupError") (.type "type") "__init__" = some (.val (.builtin "LookupError.__init__"))) :
    FnOk P w K mg base CX0 1 f fd ["self", "number"] (spIni C "number" (Fm K)) :=
  ini_fn F sc_iNoNumber bas_LE T hno hm (by kernel_rfl) vV (by decide +kernel) (by decide +kernel) (by decide) (by decide) (by with_unfolding_all rfl) (by with_unfolding_all rfl) (by with_unfolding_all rfl) (by decide) (by decide)
    (fun X h => by unfold Gl; unfold Env.kindOf; rw [h]; with_unfolding_all rfl) _ (fun X h => by with_unfolding_all rfl) (fun X hr hN h => ⟨_, (.cons (txt_c 100 (by decide +kernel)) (.cons (txt_v hr hN (h ▸ .inl (by with_unfolding_all rfl)) (by decide) (by decide)) .nil)), by decide⟩) (fun X h => by with_unfolding_all rfl) (fun X h => by with_unfolding_all rfl)
abbrev s_iTooMany : Stmt := clsS (topS 6) 0
theorem sc_iTooMany : FnScope ["self", "many"] ["self", "many"] (defScope s_iTooMany) := ⟨rfl, rfl, rfl, by decide +kernel, rfl, by decide +kernel, by decide +kernel⟩
theorem ini_TooMany {P : Program} {w : World} {K : PySem.W.Frag} {mg : Str → Option Value} {base : Heap} {f C : Addr} {fd : FuncData} (F : Fun K "__init__" "TooMany.__init__" s_iTooMany f fd) (T : Oxg K C "OverflowError.__new__" [.type "OverflowError", .type "ArithmeticError", .type "Exception", .type "BaseException", .type "object"])
    (hno : PySem.W.findIn K (.ref C) "many" = some none) (hm : mg "OverflowError" = none) (vV : PySem.W.findCls K (.type "OverflowError") (.type "type") "__init__" = some (.val (.builtin "OverflowError.__init__"))) :
    FnOk P w K mg base CX0 1 f fd ["self", "many"] (spIni C "many" (Fm K)) :=
  ini_fn F sc_iTooMany bas_OE T hno hm (by kernel_rfl) vV (by decide +kernel) (by decide +kernel) (by decide) (by decide) (by with_unfolding_all rfl) (by with_unfolding_all rfl) (by with_unfolding_all rfl) (by decide) (by decide)
    (fun X h => by unfold Gl; unfold Env.kindOf; rw [h]; with_unfolding_all rfl) _ (fun X h => by with_unfolding_all rfl) (fun X hr hN h => ⟨_, (.cons (txt_c 100 (by decide +kernel)) (.cons (txt_v hr hN (h ▸ .inl (by with_unfolding_all rfl)) (by decide) (by decide)) .nil)), by decide⟩) (fun X h => by with_unfolding_all rfl) (fun X h => by with_unfolding_all rfl)
abbrev s_plain : Stmt := topS 8
theorem sc_plain : FnScope ["company", "friends", "need"] ["company"] (defScope s_plain) := ⟨rfl, rfl, rfl, by decide +kernel, rfl, by decide +kernel, by decide +kernel⟩
abbrev s_look_person : Stmt := topS 9
theorem sc_look_person : FnScope ["company", "person"] ["company", "person"] (defScope s_look_person) := ⟨rfl, rfl, rfl, by decide +kernel, rfl, by decide +kernel, by decide +kernel⟩
abbrev s_with_need : Stmt := topS 10
theorem sc_with_need : FnScope ["company", "person", "need", "found"] ["company", "person", "need"] (defScope s_with_need) := ⟨rfl, rfl, rfl, by decide +kernel, rfl, by decide +kernel, by decide +kernel⟩
abbrev s_invited : Stmt := topS 11
theorem sc_invited : FnScope ["company", "people", "found", "person"] ["company", "people"] (defScope s_invited) := ⟨rfl, rfl, rfl, by decide +kernel, rfl, by decide +kernel, by decide +kernel⟩
abbrev s_count_there : Stmt := topS 13
theorem sc_count_there : FnScope ["company", "person", "there", "friend"] ["company", "person", "there"] (defScope s_count_there) := ⟨rfl, rfl, rfl, by decide +kernel, rfl, by decide +kernel, by decide +kernel⟩
abbrev s_can_come : Stmt := topS 14
theorem sc_can_come : FnScope ["company", "person", "there"] ["company", "person", "there"] (defScope s_can_come) := ⟨rfl, rfl, rfl, by decide +kernel, rfl, by decide +kernel, by decide +kernel⟩
abbrev s_next_people : Stmt := topS 15
theorem sc_next_people : FnScope ["company", "people", "others", "person"] ["company", "people"] (defScope s_next_people) := ⟨rfl, rfl, rfl, by decide +kernel, rfl, by decide +kernel, by decide +kernel⟩
abbrev s_all_rounds : Stmt := topS 16
theorem sc_all_rounds : FnScope ["company", "begin", "barred", "there", "found", "some", "person"] ["company", "begin", "barred"] (defScope s_all_rounds) := ⟨rfl, rfl, rfl, by decide +kernel, rfl, by decide +kernel, by decide +kernel⟩
abbrev s_closure : Stmt := topS 17
theorem sc_closure : FnScope ["company", "begin", "barred", "found", "some"] ["company", "begin", "barred"] (defScope s_closure) := ⟨rfl, rfl, rfl, by decide +kernel, rfl, by decide +kernel, by decide +kernel⟩
abbrev s_greatest : Stmt := topS 18
theorem sc_greatest : FnScope ["company"] ["company"] (defScope s_greatest) := ⟨rfl, rfl, rfl, by decide +kernel, rfl, by decide +kernel, by decide +kernel⟩
abbrev s_comes_without : Stmt := topS 19
theorem sc_comes_without : FnScope ["company", "people"] ["company", "people"] (defScope s_comes_without) := ⟨rfl, rfl, rfl, by decide +kernel, rfl, by decide +kernel, by decide +kernel⟩
abbrev s_never : Stmt := topS 20
theorem sc_never : FnScope ["company", "there", "person"] ["company"] (defScope s_never) := ⟨rfl, rfl, rfl, by decide +kernel, rfl, by decide +kernel, by decide +kernel⟩
abbrev s_rounds : Stmt := topS 21
theorem sc_rounds : FnScope ["company"] ["company"] (defScope s_rounds) := ⟨rfl, rfl, rfl, by decide +kernel, rfl, by decide +kernel, by decide +kernel⟩
abbrev s_look_whole : Stmt := topS 23
theorem sc_look_whole : FnScope ["company", "people"] ["company"] (defScope s_look_whole) := ⟨rfl, rfl, rfl, by decide +kernel, rfl, by decide +kernel, by decide +kernel⟩
abbrev s_misfit : Stmt := topS 24
theorem sc_misfit : FnScope ["company", "row", "found", "place", "person"] ["company", "row"] (defScope s_misfit) := ⟨rfl, rfl, rfl, by decide +kernel, rfl, by decide +kernel, by decide +kernel⟩
abbrev s_look_order : Stmt := topS 25
theorem sc_look_order : FnScope ["company", "row", "place"] ["company", "row"] (defScope s_look_order) := ⟨rfl, rfl, rfl, by decide +kernel, rfl, by decide +kernel, by decide +kernel⟩
abbrev s_first_order : Stmt := topS 26
theorem sc_first_order : FnScope ["company", "found", "turn"] ["company"] (defScope s_first_order) := ⟨rfl, rfl, rfl, by decide +kernel, rfl, by decide +kernel, by decide +kernel⟩
abbrev s_last_order : Stmt := topS 27
theorem sc_last_order : FnScope ["company", "found", "turn"] ["company"] (defScope s_last_order) := ⟨rfl, rfl, rfl, by decide +kernel, rfl, by decide +kernel, by decide +kernel⟩
abbrev s_swapped : Stmt := topS 29
theorem sc_swapped : FnScope ["order", "place"] ["order", "place"] (defScope s_swapped) := ⟨rfl, rfl, rfl, by decide +kernel, rfl, by decide +kernel, by decide +kernel⟩
abbrev s_look_orders : Stmt := topS 30
theorem sc_look_orders : FnScope ["company", "one", "other"] ["company", "one", "other"] (defScope s_look_orders) := ⟨rfl, rfl, rfl, by decide +kernel, rfl, by decide +kernel, by decide +kernel⟩
abbrev s_free_places : Stmt := topS 31
theorem sc_free_places : FnScope ["company", "order", "place"] ["company", "order"] (defScope s_free_places) := ⟨rfl, rfl, rfl, by decide +kernel, rfl, by decide +kernel, by decide +kernel⟩
abbrev s_exchanges : Stmt := topS 32
theorem sc_exchanges : FnScope ["company", "order"] ["company", "order"] (defScope s_exchanges) := ⟨rfl, rfl, rfl, by decide +kernel, rfl, by decide +kernel, by decide +kernel⟩
abbrev s_pairs_of : Stmt := topS 33
theorem sc_pairs_of : FnScope ["size", "found", "low", "high"] ["size"] (defScope s_pairs_of) := ⟨rfl, rfl, rfl, by decide +kernel, rfl, by decide +kernel, by decide +kernel⟩
abbrev s_crossed : Stmt := topS 34
theorem sc_crossed : FnScope ["company", "one", "other", "mine", "its", "pairs", "a", "b"] ["company", "one", "other"] (defScope s_crossed) := ⟨rfl, rfl, rfl, by decide +kernel, rfl, by decide +kernel, by decide +kernel⟩
abbrev s_distance : Stmt := topS 35
theorem sc_distance : FnScope ["company", "one", "other"] ["company", "one", "other"] (defScope s_distance) := ⟨rfl, rfl, rfl, by decide +kernel, rfl, by decide +kernel, by decide +kernel⟩
abbrev s_behind : Stmt := topS 37
theorem sc_behind : FnScope ["company", "person", "there", "other"] ["company", "person"] (defScope s_behind) := ⟨rfl, rfl, rfl, by decide +kernel, rfl, by decide +kernel, by decide +kernel⟩
abbrev s_must_before : Stmt := topS 38
theorem sc_must_before : FnScope ["company", "found", "person", "other"] ["company"] (defScope s_must_before) := ⟨rfl, rfl, rfl, by decide +kernel, rfl, by decide +kernel, by decide +kernel⟩
abbrev s_free_pairs : Stmt := topS 39
theorem sc_free_pairs : FnScope ["company", "bound", "pairs", "low", "high"] ["company"] (defScope s_free_pairs) := ⟨rfl, rfl, rfl, by decide +kernel, rfl, by decide +kernel, by decide +kernel⟩
abbrev s_earlier_people : Stmt := topS 40
theorem sc_earlier_people : FnScope ["company", "person", "others", "other"] ["company", "person"] (defScope s_earlier_people) := ⟨rfl, rfl, rfl, by decide +kernel, rfl, by decide +kernel, by decide +kernel⟩
abbrev s_later_people : Stmt := topS 41
theorem sc_later_people : FnScope ["company", "person"] ["company", "person"] (defScope s_later_people) := ⟨rfl, rfl, rfl, by decide +kernel, rfl, by decide +kernel, by decide +kernel⟩
abbrev s_latest_place : Stmt := topS 42
theorem sc_latest_place : FnScope ["company", "person"] ["company", "person"] (defScope s_latest_place) := ⟨rfl, rfl, rfl, by decide +kernel, rfl, by decide +kernel, by decide +kernel⟩
abbrev s_is_invitation : Stmt := topS 46
theorem sc_is_invitation : FnScope ["company", "people"] ["company", "people"] (defScope s_is_invitation) := ⟨rfl, rfl, rfl, by decide +kernel, rfl, by decide +kernel, by decide +kernel⟩
abbrev s_sets_of : Stmt := topS 47
theorem sc_sets_of : FnScope ["size", "many", "found", "turn", "longer", "some", "begin", "person"] ["size", "many"] (defScope s_sets_of) := ⟨rfl, rfl, rfl, by decide +kernel, rfl, by decide +kernel, by decide +kernel⟩
abbrev s_first_invitation : Stmt := topS 48
theorem sc_first_invitation : FnScope ["company", "many", "people"] ["company"] (defScope s_first_invitation) := ⟨rfl, rfl, rfl, by decide +kernel, rfl, by decide +kernel, by decide +kernel⟩
abbrev s_fewest_invited : Stmt := topS 49
theorem sc_fewest_invited : FnScope ["company"] ["company"] (defScope s_fewest_invited) := ⟨rfl, rfl, rfl, by decide +kernel, rfl, by decide +kernel, by decide +kernel⟩
abbrev s_spare : Stmt := topS 50
theorem sc_spare : FnScope ["company", "people", "left", "person", "other"] ["company", "people"] (defScope s_spare) := ⟨rfl, rfl, rfl, by decide +kernel, rfl, by decide +kernel, by decide +kernel⟩
abbrev s_look_small : Stmt := topS 52
theorem sc_look_small : FnScope ["company"] ["company"] (defScope s_look_small) := ⟨rfl, rfl, rfl, by decide +kernel, rfl, by decide +kernel, by decide +kernel⟩
abbrev s_layers : Stmt := topS 53
theorem sc_layers : FnScope ["company", "found", "turn", "later", "there", "ways", "person", "whole"] ["company"] (defScope s_layers) := ⟨rfl, rfl, rfl, by decide +kernel, rfl, by decide +kernel, by decide +kernel⟩
abbrev s_endings : Stmt := topS 54
theorem sc_endings : FnScope ["company", "some", "found", "layer", "there", "wholes", "person", "whole"] ["company", "some"] (defScope s_endings) := ⟨rfl, rfl, rfl, by decide +kernel, rfl, by decide +kernel, by decide +kernel⟩
abbrev s_ways_on : Stmt := topS 55
theorem sc_ways_on : FnScope ["company"] ["company"] (defScope s_ways_on) := ⟨rfl, rfl, rfl, by decide +kernel, rfl, by decide +kernel, by decide +kernel⟩
abbrev s_count_orders : Stmt := topS 56
theorem sc_count_orders : FnScope ["company"] ["company"] (defScope s_count_orders) := ⟨rfl, rfl, rfl, by decide +kernel, rfl, by decide +kernel, by decide +kernel⟩
abbrev s_order_at : Stmt := topS 57
theorem sc_order_at : FnScope ["company", "number", "ways", "found", "rest", "turn", "person", "some"] ["company", "number"] (defScope s_order_at) := ⟨rfl, rfl, rfl, by decide +kernel, rfl, by decide +kernel, by decide +kernel⟩
abbrev s_number_of : Stmt := topS 58
theorem sc_number_of : FnScope ["company", "order", "ways", "found", "here", "person", "less", "other"] ["company", "order"] (defScope s_number_of) := ⟨rfl, rfl, rfl, by decide +kernel, rfl, by decide +kernel, by decide +kernel⟩
abbrev s_all_orders : Stmt := topS 59
theorem sc_all_orders : FnScope ["company", "many", "found", "turn", "longer", "some", "person"] ["company"] (defScope s_all_orders) := ⟨rfl, rfl, rfl, by decide +kernel, rfl, by decide +kernel, by decide +kernel⟩
abbrev s_gcd : Stmt := topS 60
theorem sc_gcd : FnScope ["one", "other"] ["one", "other"] (defScope s_gcd) := ⟨rfl, rfl, rfl, by decide +kernel, rfl, by decide +kernel, by decide +kernel⟩
abbrev s_reduced : Stmt := topS 61
theorem sc_reduced : FnScope ["numerator", "denominator", "common"] ["numerator", "denominator"] (defScope s_reduced) := ⟨rfl, rfl, rfl, by decide +kernel, rfl, by decide +kernel, by decide +kernel⟩
abbrev s_index_ways : Stmt := topS 62
theorem sc_index_ways : FnScope ["company", "person", "some", "ways", "found", "layer", "total", "there", "begun"] ["company", "person"] (defScope s_index_ways) := ⟨rfl, rfl, rfl, by decide +kernel, rfl, by decide +kernel, by decide +kernel⟩
abbrev s_chances_of : Stmt := topS 63
theorem sc_chances_of : FnScope ["company", "person", "found", "ways"] ["company", "person"] (defScope s_chances_of) := ⟨rfl, rfl, rfl, by decide +kernel, rfl, by decide +kernel, by decide +kernel⟩
abbrev s_earliest_place : Stmt := topS 64
theorem sc_earliest_place : FnScope ["company", "person", "place", "ways"] ["company", "person"] (defScope s_earliest_place) := ⟨rfl, rfl, rfl, by decide +kernel, rfl, by decide +kernel, by decide +kernel⟩
abbrev s_chance_before : Stmt := topS 65
theorem sc_chance_before : FnScope ["company", "one", "other", "some", "ways", "found", "layer", "there", "begun"] ["company", "one", "other"] (defScope s_chance_before) := ⟨rfl, rfl, rfl, by decide +kernel, rfl, by decide +kernel, by decide +kernel⟩
abbrev s_cell_at_l : Stmt := topS 67
theorem sc_cell_at_l : FnScope ["_law_script", "_law_k"] ["_law_script", "_law_k"] (defScope s_cell_at_l) := ⟨rfl, rfl, rfl, by decide +kernel, rfl, by decide +kernel, by decide +kernel⟩
abbrev s_box_l : Stmt := topS 68
theorem sc_box_l : FnScope ["_law_script", "_law_k", "_law_core"] ["_law_script", "_law_k"] (defScope s_box_l) := ⟨rfl, rfl, rfl, by decide +kernel, rfl, by decide +kernel, by decide +kernel⟩
abbrev s_take_l : Stmt := topS 69
theorem sc_take_l : FnScope ["_law_box_here", "_law_below", "_law_found", "_law_once", "_law_twice"] ["_law_box_here", "_law_below"] (defScope s_take_l) := ⟨rfl, rfl, rfl, by decide +kernel, rfl, by decide +kernel, by decide +kernel⟩
abbrev s_crowd_of_l : Stmt := topS 70
theorem sc_crowd_of_l : FnScope ["_law_box_here", "_law_count", "_law_found", "_law_dense", "_law_soul", "_law_pals", "_law_kind", "_law_due", "_law_its"] ["_law_box_here", "_law_count"] (defScope s_crowd_of_l) := ⟨rfl, rfl, rfl, by decide +kernel, rfl, by decide +kernel, by decide +kernel⟩
abbrev s_eased_l : Stmt := topS 71
theorem sc_eased_l : FnScope ["_law_crowd", "_law_there", "_law_stuck", "_law_low", "_law_have", "_law_soul", "_law_pal"] ["_law_crowd"] (defScope s_eased_l) := ⟨rfl, rfl, rfl, by decide +kernel, rfl, by decide +kernel, by decide +kernel⟩
abbrev s_comes_l : Stmt := topS 72
theorem sc_comes_l : FnScope ["_law_crowd", "_law_soul", "_law_there", "_law_pal"] ["_law_crowd", "_law_soul", "_law_there"] (defScope s_comes_l) := ⟨rfl, rfl, rfl, by decide +kernel, rfl, by decide +kernel, by decide +kernel⟩
abbrev s_closed_l : Stmt := topS 73
theorem sc_closed_l : FnScope ["_law_crowd", "_law_begun", "_law_barred", "_law_there", "_law_more", "_law_soul"] ["_law_crowd", "_law_begun", "_law_barred"] (defScope s_closed_l) := ⟨rfl, rfl, rfl, by decide +kernel, rfl, by decide +kernel, by decide +kernel⟩
abbrev s_queries_l : Stmt := topS 74
theorem sc_queries_l : FnScope ["_law_crowd", "_law_picks", "_law_size", "_law_full", "_law_queue", "_law_there", "_law_soul", "_law_mate", "_law_found"] ["_law_crowd", "_law_picks"] (defScope s_queries_l) := ⟨rfl, rfl, rfl, by decide +kernel, rfl, by decide +kernel, by decide +kernel⟩
abbrev s_right_l : Stmt := topS 75
theorem sc_right_l : FnScope ["_law_box_here", "_law_count", "_law_crowds", "_law_picks", "_law_kept", "_law_due", "_law_turn", "_law_at", "_law_found", "_law_some", "_law_soft", "_law_crowd", "_law_pals", "_law_due_so"] ["_law_box_here"] (defScope s_right_l) := ⟨rfl, rfl, rfl, by decide +kernel, rfl, by decide +kernel, by decide +kernel⟩
abbrev s_law : Stmt := topS 76
theorem sc_law : FnScope ["_law_script", "_law_k"] ["_law_script"] (defScope s_law) := ⟨rfl, rfl, rfl, by decide +kernel, rfl, by decide +kernel, by decide +kernel⟩
local macro_rules | `(tactic| walk_at "vis") => `(tactic| with_unfolding_all first | exact Or.inl rfl | exact Or.inr (Or.inl rfl) | exact Or.inr (Or.inr rfl))
local macro_rules | `(tactic| walk_at "loc") => `(tactic| with_unfolding_all first | exact Or.inl rfl | exact Or.inr rfl)
local macro_rules | `(tactic| walk_at "nm") => `(tactic| with_reducible assumption)
local macro_rules | `(tactic| walk_at "rfl") => `(tactic| with_unfolding_all rfl)
local macro_rules | `(tactic| walk_at "room") => `(tactic| first | assumption | exact Room.mono (by assumption) (by decide))
local macro_rules | `(tactic| walk_at "ct") => `(tactic| with_unfolding_all first | exact Ct.l _ | exact Ct.t _ | exact Ct.c 0 rfl | exact Ct.c 1 rfl | exact Ct.c 2 rfl | exact Ct.c 3 rfl | exact Ct.c 4 rfl)
local macro_rules | `(tactic| walk_at "vw") => `(tactic| with_unfolding_all first | exact Vw.d _ | exact Vw.c 0 rfl | exact Vw.c 1 rfl | exact Vw.c 2 rfl | exact Vw.c 3 rfl | exact Vw.c 4 rfl)
local macro_rules | `(tactic| walk_at "e") => `(tactic| with_reducible first
  | refine we_name _ (by assumption) (by walk_at "vis") (by walk_at "rfl") ?_
  | refine we_int ?_
  | refine we_bl ?_
  | refine we_non ?_
  | refine we_str ?_
  | refine we_ix ix_seq (by with_unfolding_all exact fun _ _ => rfl) ?_
  | refine we_cmp (op := .Lt) op_lt (nomark _) ?_
  | refine we_cmp (op := .LtE) op_le (nomark _) ?_
  | refine we_cmp (op := .Gt) op_gt (nomark _) ?_
  | refine we_cmp (op := .GtE) op_ge (nomark _) ?_
  | refine we_bin (op := .Add) o_add ?_
  | refine we_bin (op := .Sub) op_sub ?_
  | refine we_bin (op := .Mult) o_mul ?_
  | refine we_bin (op := .Mod) op_mod ?_
  | refine we_bin (op := .FloorDiv) op_fdiv ?_
  | refine we_bin (op := .Pow) op_pow ?_
  | refine we_un (op := .USub) un_neg ?_
  | refine we_cmp (op := .In) op_in_seq (by walk_at "rfl") ?_
  | refine we_cmp (op := .NotIn) op_notIn_seq (by walk_at "rfl") ?_)
local macro_rules | `(tactic| walk_at "eq") => `(tactic| with_reducible first
  | refine we_cmp (op := .Eq) (op_eqD (Room.units (k := 0) (by with_unfolding_all exact Room.mono (by assumption) (Nat.zero_le _)))) (nomark _) ?_
  | refine we_cmp (op := .NotEq) (op_neD (Room.units (k := 0) (by with_unfolding_all exact Room.mono (by assumption) (Nat.zero_le _)))) (nomark _) ?_
  | refine we_cmp (op := .Is) op_isN (nomark _) ?_
  | refine we_cmp (op := .IsNot) op_notN (nomark _) ?_)
local macro_rules | `(tactic| walk_at "t") => `(tactic| with_reducible first
  | refine wt_cmp (op := .Lt) op_lt (nomark _) ?_
  | refine wt_cmp (op := .LtE) op_le (nomark _) ?_
  | refine wt_cmp (op := .Gt) op_gt (nomark _) ?_
  | refine wt_cmp (op := .GtE) op_ge (nomark _) ?_
  | refine wt_cmp (op := .In) op_in_seq (by walk_at "rfl") ?_
  | refine wt_cmp (op := .NotIn) op_notIn_seq (by walk_at "rfl") ?_
  | refine wt_cmp (op := .Eq) (op_eqD (Room.units (k := 0) (by with_unfolding_all exact Room.mono (by assumption) (Nat.zero_le _)))) (nomark _) ?_
  | refine wt_cmp (op := .NotEq) (op_neD (Room.units (k := 0) (by with_unfolding_all exact Room.mono (by assumption) (Nat.zero_le _)))) (nomark _) ?_
  | refine wt_cmp (op := .Is) op_isN (nomark _) ?_
  | refine wt_cmp (op := .IsNot) op_notN (nomark _) ?_
  | refine wt_not ?_
  | refine wt_w (ww_and ?_)
  | refine wt_w (ww_or ?_)
  | refine ww_and ?_
  | refine ww_or ?_
  | refine ww_and1 ?_
  | refine ww_or1 ?_
  | refine wt_val ?_ (by with_unfolding_all exact fun _ => rfl))
local macro_rules | `(tactic| walk_at "go1") => `(tactic| with_reducible first
  | walk_at "e"
  | refine ow_add ?_
  | refine ow_sub ?_
  | refine ow_cmp ?_
  | refine uw_neg ?_
  | refine wa_cons ?_ (by walk_at "rfl")
  | refine wa_nil ?_)
local macro_rules | `(tactic| walk_at "go") => `(tactic| repeat (walk_at "go1"))
local macro_rules | `(tactic| walk_at "so") => `(tactic| first | assumption | omega | (exact rfl) | decide | (simp only [List.length_map, List.length_append, List.length_cons, List.length_nil]; omega))
local macro_rules | `(tactic| walk_at "pl") => `(tactic| repeat' first | exact plS_nil | exact plS_map (fun _ => rfl) | refine plS_app ?_ ?_ | refine plS_cons rfl ?_ | assumption)
local macro_rules | `(tactic| walk_at "shp") => `(tactic| first | exact shaped_lst _ | exact shaped_tup _ | exact prs_shaped _ | exact tups_shaped _ | exact natsD_shaped _ | rfl | exact fits_shaped (by assumption))
local macro_rules | `(tactic| walk_at "lk") => `(tactic| with_unfolding_all first | exact Lk.d _ | exact Lk.c 0 rfl | exact Lk.c 1 rfl | exact Lk.c 2 rfl)
local macro_rules | `(tactic| walk_at "len") => `(tactic| first | omega | (simp only [List.length_append, List.length_cons, List.length_nil, List.length_map]; omega) | (simp; done) | (simp; omega) | (simp only [List.length_append, List.length_cons, List.length_nil, lgs_len]; omega))
local macro_rules | `(tactic| walk_at "txt") => `(tactic| first | omega | assumption | (decide +kernel))
section
variable {P : Program} {w : World} {K : PySem.W.Frag} {mg : Str → Option Value} {base : Heap} {c_BadText c_BadLine c_Contradiction c_Stuck c_Misfit c_NoInvitation c_NoPerson c_NoPlace c_NoNumber c_NoOperation c_Blocked c_Early c_Here c_TooMany c_Full c_Gathering : Addr}
theorem ok_plain {f : Addr} {fd : FuncData} (F : Fun K "plain" "plain" s_plain f fd) (B : Bl mg) : FnG P w K mg base CX0 1 f fd ["company"] (spW K T_plain) := by
  refine fn_w F sc_plain (by decide) (fun xs μ R h => ?_) fun cdv A outer s H E hr hgd xs μ R hT => ?_
  · obtain ⟨dc, c, rfl, _⟩ := h
    rfl
  · obtain ⟨dc, c, rfl, hc, hR⟩ := hT
    refine wb_names (N := ["company", "friends", "need"]) rfl fun hn => ?_
    have n0 := hn 0 _ rfl
    have n1 := hn 1 _ rfl
    have n2 := hn 2 _ rfl
    obtain ⟨ds, sq, al⟩ := hc.sq
    obtain ⟨z1, z2, z3⟩ := allD_zip al
    have hzl : (ds.zip c).length ≤ 1000 := by
      have h1 := congrArg List.length z2
      rw [List.length_map] at h1
      rw [h1]
      exact hc.len
    refine wb_one (ws_ret ?_)
    refine we_tuple B rfl ?_
    refine we_lc [("friends", 1), ("need", 2)] rfl sc_plain.nd (blkOk_by (N := ["company", "friends", "need"]) (sc := defScope s_plain) (by decide +kernel)) (lcP (Prod.fst : PyData × (List Int × Int) → PyData) (fun _ => true) (fun z => enD z.2) ?_)
    refine wi_seq ?_
    walk_at "e"
    refine ⟨_, seqd_sq sq, ds.zip c, z1.symm, by omega, fun z hz => ?_, fun q => ?_⟩
    · obtain ⟨df, q1, q2⟩ := z3 z hz
      have hfr := hc.frs z.2 (by
        rw [← z2]
        exact List.mem_map_of_mem hz)
      intro s1 H1 C cl fp
      refine wg_sq (ds := [_, _]) q1 rfl ?_
      refine wgs_cons ?_
      refine wg_name 1 sc_plain.nd n1 (by walk_at "loc") (by first | exact .inl rfl | exact .inr rfl) (by decide) ?_
      refine wgs_cons ?_
      refine wg_name 2 sc_plain.nd n2 (by walk_at "loc") (by first | exact .inl rfl | exact .inr rfl) (by decide) ?_
      refine wgs_nil ?_
      intro s1 H1 C cl fp
      refine wts_nil ⟨rfl, itT rfl ?_⟩
      intro s1 H1 C cl fp
      refine we_tup ?_
      refine wa_cons ?_
      refine we_tuple B rfl ?_
      walk_at "e"
      refine ⟨_, ct_sq q2, ?_⟩
      refine wa_one ?_
      walk_at "e"
      exact ⟨_, rfl, by simp, rfl, rfl⟩
    rw [filt_all]
    have e : (ds.zip c).map (fun z => enD z.2) = c.map enD := by
      conv => rhs; rw [← z2]
      rw [List.map_map]
      rfl
    rw [e]
    refine ⟨_, .c 0 rfl, ?_⟩
    exact keep_drop (keep hR)
theorem ok_look_person {f : Addr} {fd : FuncData} (F : Fun K "look_person" "look_person" s_look_person f fd) (B : Bl mg) : FnG P w K mg base CX0 1 f fd ["company", "person"] (spW K T_lookp) := by
  refine fn_w F sc_look_person (by decide) (fun xs μ R h => ?_) fun cdv A outer s H E hr hgd xs μ R hT => ?_
  · obtain ⟨dc, c, p, rfl, _⟩ := h
    rfl
  · obtain ⟨dc, c, p, rfl, hc, h0, h1, hR⟩ := hT
    refine wb_names (N := ["company", "person"]) rfl fun hn => ?_
    have n0 := hn 0 _ rfl
    have n1 := hn 1 _ rfl
    obtain ⟨ds, sq, al⟩ := hc.sq
    have hlen := allD_len al
    refine wb_one (ws_if ?_)
    refine wt_not ?_
    refine wt_chain op_le op_lt ?_
    walk_at "go"
    refine ⟨_, rfl, itT (decide_eq_true h0) fun y' ey => ?_⟩
    subst ey
    refine we_len B rfl ?_
    walk_at "e"
    refine ⟨ds, ct_sq sq, ?_⟩
    refine ow_cmp ⟨_, rfl, ?_⟩
    rw [decide_eq_true (show p < ((ds.length : Nat) : Int) by omega)]
    refine itF rfl ?_
    exact wb_nil (keep hR)
theorem ok_with_need {f : Addr} {fd : FuncData} (F : Fun K "with_need" "with_need" s_with_need f fd) (B : Bl mg) (c1 : Cal P w K mg base 1 "look_person" T_lookp) (c2 : Cal P w K mg base 1 "plain" T_plain) : FnG P w K mg base CX0 2 f fd ["company", "person", "need"] (spW K T_withn) := by
  refine fn_w F sc_with_need (by decide) (fun xs μ R h => ?_) fun cdv A outer s H E hr hgd xs μ R hT => ?_
  · obtain ⟨dc, c, p, v, rfl, _⟩ := h
    rfl
  · obtain ⟨dc, c, p, v, rfl, hc, h0, h1, hR⟩ := hT
    refine wb_names (N := ["company", "person", "need", "found"]) rfl fun hn => ?_
    have n0 := hn 0 _ rfl
    have n1 := hn 1 _ rfl
    have n2 := hn 2 _ rfl
    have n3 := hn 3 _ rfl
    obtain ⟨k, rfl⟩ := Int.eq_ofNat_of_zero_le h0
    have hk : k < c.length := by omega
    refine wb_cons (ws_expr ?_)
    refine we_callP c1 (by walk_at "room") rfl ?_
    refine wa_cons ?_
    walk_at "e"
    refine wa_one ?_
    walk_at "e"
    refine ⟨_, _, _, rfl, hc, h0, h1, ?_⟩
    refine wb_cons ?_
    refine ws_set 3 sc_with_need.nd n3 (by walk_at "loc") (by first | exact .inl rfl | exact .inr rfl) ?_
    refine we_list B rfl ?_
    refine we_callP c2 (by walk_at "room") rfl ?_
    refine wa_one ?_
    walk_at "e"
    have hl := hc.len
    refine ⟨_, c, rfl, hc, ?_⟩
    refine ⟨_, .t _, fun q => ?_⟩
    refine wb_cons ?_
    refine ws_asg [] ?_
    refine we_tup ?_
    refine wa_cons ?_
    walk_at "e"
    walk_at "e"
    walk_at "e"
    walk_at "e"
    refine ow_ixC 0 rfl (atI_enD hk) (.inl ⟨rfl, ?_⟩)
    walk_at "e"
    refine ow_ix (.t _) (atI_nat (j := 0) rfl) ?_
    refine wa_one ?_
    walk_at "e"
    refine ⟨[.tuple (intsD (c.getD k ([], 0)).1), .int v], rfl, by simp, ?_⟩
    refine wg_setL ?_
    walk_at "e"
    walk_at "e"
    refine ⟨q, _, k, 0, rfl, rfl, rfl, by rw [List.length_map]; exact hk, ?_⟩
    rw [coD_wn hk]
    refine wb_one (ws_ret (we_tuple B rfl ?_))
    walk_at "e"
    refine ⟨_, .c 0 rfl, ?_⟩
    exact keep_drop (keep hR)
theorem ok_invited {f : Addr} {fd : FuncData} (F : Fun K "invited" "invited" s_invited f fd) (B : Bl mg) (c1 : Cal P w K mg base 2 "with_need" T_withn) (c2 : Cal P w K mg base 1 "plain" T_plain) : FnG P w K mg base CX0 3 f fd ["company", "people"] (spW K T_inv) := by
  refine fn_w F sc_invited (by decide) (fun xs μ R h => ?_) fun cdv A outer s H E hr hgd xs μ R hT => ?_
  · obtain ⟨dc, c, dp, t, rfl, _⟩ := h
    rfl
  · obtain ⟨dc, c, dp, t, rfl, hc, hq, hr, hR⟩ := hT
    refine wb_names (N := ["company", "people", "found", "person"]) rfl fun hn => ?_
    have n0 := hn 0 _ rfl
    have n1 := hn 1 _ rfl
    have n2 := hn 2 _ rfl
    have n3 := hn 3 _ rfl
    refine wb_cons ?_
    refine ws_set 2 sc_invited.nd n2 (by walk_at "loc") (by first | exact .inl rfl | exact .inr rfl) ?_
    refine we_callP c2 (by walk_at "room") rfl ?_
    refine wa_one ?_
    walk_at "e"
    have hl := hc.len
    have hfr := hc.frs
    refine ⟨_, c, rfl, hc, ?_⟩
    refine wb_cons ?_
    refine ws_for [3] PassesOwn.never rfl ?_
    refine wi_seq ?_
    walk_at "e"
    refine ⟨_, seqd_sq hq, fun i δ' μ' => ∃ x3, δ' = [some (.d dc), some (.d dp), some (.d (coD (inv c (t.take i)))), x3] ∧ μ' = μ, ⟨_, rfl, rfl⟩, fun i d δ' μ' hd hI => ?_, fun δ' μ' hI => ?_⟩
    · obtain ⟨x3, rfl, rfl⟩ := hI
      obtain ⟨p, ep, rfl⟩ := map_item hd
      have hp := hr p (List.mem_of_getElem? ep)
      have hrt : Rg c.length (t.take i) := fun x m => hr x (List.mem_of_mem_take m)
      have hln := inv_len (t.take i) c
      have hfi := inv_frs (t.take i) hrt hfr
      refine wg_name 3 sc_invited.nd n3 (by walk_at "loc") (by first | exact .inl rfl | exact .inr rfl) (by decide) ?_
      refine wb_cons ?_
      refine ws_set 2 sc_invited.nd n2 (by walk_at "loc") (by first | exact .inl rfl | exact .inr rfl) ?_
      refine we_callP c1 (by walk_at "room") rfl ?_
      refine wa_cons ?_
      walk_at "e"
      refine wa_cons ?_
      walk_at "e"
      refine wa_one ?_
      walk_at "e"
      refine ⟨_, _, _, _, rfl, coD_ok' (by omega) hfi, hp.1, by omega, ?_⟩
      refine wb_nil ?_
      refine ⟨some (.d (.int p)), ?_, rfl⟩
      have tk : t.take (i + 1) = t.take i ++ [p] := by
        rw [List.take_add_one, ep]
        rfl
      rw [tk, inv_snoc]
      rfl
    · rw [List.length_map] at hI
      obtain ⟨x3, rfl, rfl⟩ := hI
      rw [List.take_length]
      refine wb_one (ws_ret ?_)
      walk_at "e"
      exact keep hR
theorem ok_count_there {f : Addr} {fd : FuncData} (F : Fun K "count_there" "count_there" s_count_there f fd) (B : Bl mg) : FnG P w K mg base CX0 1 f fd ["company", "person", "there"] (spW K T_cnt) := by
  refine fn_w F sc_count_there (by decide) (fun xs μ R h => ?_) fun cdv A outer s H E hr hgd xs μ R hT => ?_
  · obtain ⟨dc, c, p, dt, t, rfl, _⟩ := h
    rfl
  · obtain ⟨dc, c, p, dt, t, rfl, hc, h0, h1, ht, hR⟩ := hT
    refine wb_names (N := ["company", "person", "there", "friend"]) rfl fun hn => ?_
    have n0 := hn 0 _ rfl
    have n1 := hn 1 _ rfl
    have n2 := hn 2 _ rfl
    have n3 := hn 3 _ rfl
    obtain ⟨ds, de, sq, ha, df, hde, hdf⟩ := co_at hc h0 h1
    refine wb_one (ws_ret (we_len B rfl ?_))
    refine we_lc [("friend", 3)] rfl sc_count_there.nd (blkOk_by (N := ["company", "person", "there", "friend"]) (sc := defScope s_count_there) (by decide +kernel)) (lcP PyData.int (fun x => decide (x ∈ t)) PyData.int ?_)
    refine wi_seq ?_
    walk_at "e"
    walk_at "e"
    walk_at "e"
    walk_at "e"
    refine ow_ix (ct_sq sq) ha ?_
    walk_at "e"
    refine ow_ix (ct_sq hde) (atI_nat (j := 0) rfl) ?_
    refine ⟨_, seqd_sq hdf, _, rfl, ?_, fun x _ => ?_, fun q => ⟨_, .c 0 rfl, ?_⟩⟩
    · exact Nat.le_trans (fr_len hc) (by decide)
    · intro s1 H1 C cl fp
      refine wg_name 3 (X := _) sc_count_there.nd n3 (.inl rfl) (.inr rfl) (List.mem_singleton.mpr rfl) ?_
      intro s1 H1 C cl fp
      show WT _ _ _ _ _
      walk_at "t"
      walk_at "e"
      walk_at "e"
      refine ow_in (ct_sq ht) rfl (flat_ints t) ⟨_, rfl, inD_int x t, ?_⟩
      split
      · intro s1 H1 C cl fp
        walk_at "e"
        exact ⟨rfl, rfl⟩
      · rfl
    · rw [List.length_map]
      exact keep_drop (keep hR)
theorem ok_can_come {f : Addr} {fd : FuncData} (F : Fun K "can_come" "can_come" s_can_come f fd) (B : Bl mg) (c1 : Cal P w K mg base 1 "count_there" T_cnt) : FnG P w K mg base CX0 2 f fd ["company", "person", "there"] (spW K T_can) := by
  refine fn_w F sc_can_come (by decide) (fun xs μ R h => ?_) fun cdv A outer s H E hr hgd xs μ R hT => ?_
  · obtain ⟨dc, c, p, dt, t, rfl, _⟩ := h
    rfl
  · obtain ⟨dc, c, p, dt, t, rfl, hc, h0, h1, ht, hR⟩ := hT
    refine wb_names (N := ["company", "person", "there"]) rfl fun hn => ?_
    have n0 := hn 0 _ rfl
    have n1 := hn 1 _ rfl
    have n2 := hn 2 _ rfl
    obtain ⟨ds, de, sq, ha, df, hde, hdf⟩ := co_at hc h0 h1
    refine wb_one (ws_ret ?_)
    walk_at "e"
    refine we_callP c1 hr rfl ?_
    refine wa_cons ?_
    walk_at "e"
    refine wa_cons ?_
    walk_at "e"
    refine wa_cons ?_
    walk_at "e"
    refine wa_nil ?_
    refine ⟨dc, c, p, dt, t, rfl, hc, h0, h1, ht, ?_⟩
    walk_at "e"
    walk_at "e"
    walk_at "e"
    walk_at "e"
    refine ow_ix (ct_sq sq) ha ?_
    walk_at "e"
    refine ow_ix (ct_sq hde) (atI_nat (j := 1) rfl) ?_
    refine ow_cmp ?_
    exact keep hR
theorem ok_next_people {f : Addr} {fd : FuncData} (F : Fun K "next_people" "next_people" s_next_people f fd) (B : Bl mg) (c1 : Cal P w K mg base 2 "can_come" T_can) : FnG P w K mg base CX0 3 f fd ["company", "people"] (spW K T_next) := by
  refine fn_w F sc_next_people (by decide) (fun xs μ R h => ?_) fun cdv A outer s H E hr hgd xs μ R hT => ?_
  · obtain ⟨dc, c, dt, t, rfl, _⟩ := h
    rfl
  · obtain ⟨dc, c, dt, t, rfl, hc, ht, hR⟩ := hT
    refine wb_names (N := ["company", "people", "others", "person"]) rfl fun hn => ?_
    have n0 := hn 0 _ rfl
    have n1 := hn 1 _ rfl
    have n2 := hn 2 _ rfl
    have n3 := hn 3 _ rfl
    obtain ⟨ds, sq, al⟩ := hc.sq
    have hl := hc.len
    have hlen := allD_len al
    refine wb_cons ?_
    refine ws_setLc 2 [("person", 3)] rfl sc_next_people.nd n2 rfl (sw_true rfl rfl rfl (by decide +kernel)) (blkOk_by (N := ["company", "people", "others", "person"]) (sc := defScope s_next_people) (by decide +kernel)) (lcP PyData.int (fun p => !decide (p ∈ t)) PyData.int ?_)
    refine wi_range1 rfl B.range ?_
    refine wa_one (we_len B rfl ?_)
    walk_at "e"
    refine ⟨ds, ct_sq sq, _, rfl, by omega, by omega, rng ds.length, ?_, by rw [rng_len]; omega, fun x _ => ?_, fun q => ?_⟩
    · rw [Int.toNat_natCast, rangeD_eq]
    · intro s1 H1 C cl fp
      refine wg_name 3 sc_next_people.nd n3 (.inl rfl) (.inr rfl) (List.mem_singleton.mpr rfl) ?_
      intro s1 H1 C cl fp
      show WT _ _ _ _ _
      walk_at "t"
      walk_at "go"
      refine ow_ni (ct_sq ht) rfl (flat_ints t) ⟨_, rfl, by rw [inD_int x t], ?_⟩
      split
      · intro s1 H1 C cl fp
        walk_at "e"
        exact ⟨rfl, rfl⟩
      · rfl
    · refine wb_frz 0 [2] rfl (fun j hj => by cases List.mem_singleton.mp hj; rfl) ?_
      refine wb_one (ws_ret ?_)
      refine we_lc [("person", 3)] rfl sc_next_people.nd (blkOk_by (N := ["company", "people", "others", "person"]) (sc := defScope s_next_people) (by decide +kernel)) (lcP PyData.int (comes c t) PyData.int ?_)
      refine wi_seq ?_
      walk_at "e"
      refine ⟨_, .l _, _, rfl, ?_, fun x hx => ?_, fun q => ?_⟩
      · refine Nat.le_trans (List.length_filter_le _ _) ?_
        rw [rng_len]
        omega
      · have hx' := mem_rng.mp (List.mem_filter.mp hx).1
        intro s1 H1 C cl fp
        refine wg_name 3 sc_next_people.nd n3 (.inl rfl) (.inr rfl) (List.mem_singleton.mpr rfl) ?_
        intro s1 H1 C cl fp
        show WT _ _ _ _ _
        walk_at "t"
        refine we_callP c1 hr rfl ?_
        walk_at "go"
        refine ⟨dc, c, x, dt, t, rfl, hc, hx'.1, by omega, ht, _, rfl, rfl, ?_⟩
        split
        · intro s1 H1 C cl fp
          walk_at "e"
          exact ⟨rfl, rfl⟩
        · rfl
      · refine keep ?_
        have := hR q
        unfold nexts at this
        rw [← hlen] at this
        exact this
theorem ok_all_rounds {f : Addr} {fd : FuncData} (F : Fun K "all_rounds" "all_rounds" s_all_rounds f fd) (B : Bl mg) (c1 : Cal P w K mg base 3 "next_people" T_next) : FnG P w K mg base CX0 4 f fd ["company", "begin", "barred"] (spW K T_rounds) := by
  refine fn_w F sc_all_rounds (by decide) (fun xs μ R h => ?_) fun cdv A outer s H E hr hgd xs μ R hT => ?_
  · obtain ⟨dc, c, dt, t, db, b, rfl, _⟩ := h
    rfl
  · obtain ⟨dc, c, dt, t, db, b, rfl, hc, ht, hb, htl, hR⟩ := hT
    refine wb_names (N := ["company", "begin", "barred", "there", "found", "some", "person"]) rfl fun hn => ?_
    have n0 := hn 0 _ rfl
    have n1 := hn 1 _ rfl
    have n2 := hn 2 _ rfl
    have n3 := hn 3 _ rfl
    have n4 := hn 4 _ rfl
    have n5 := hn 5 _ rfl
    have n6 := hn 6 _ rfl
    have hl := hc.len
    refine wb_cons ?_
    refine ws_par 3 4 rfl sc_all_rounds.nd n3 n4 (by decide) rfl rfl ?_ (by rfl)
    refine we_list B rfl ?_
    walk_at "e"
    refine ⟨_, ct_sq ht, fun p1 => ?_⟩
    refine we_lst (wa_nil ⟨[], rfl, by decide, fun p2 => ?_⟩)
    refine wb_one ?_
    refine ws_while PassesOwn.never (fun m δ' μ' => ∃ t' acc x5, δ' = [some (.d dc), some (.d dt), some (.d db), some (.a p1), some (.a p2), x5, none] ∧ μ' = ((p2, tups acc) :: (p1, intsD t') :: μ : Cells) ∧
      AR c t b = acc ++ rnds (m + 1) c t' b ∧ und c t' ≤ m ∧ acc.length + m ≤ 1000 ∧ t'.length + und c t' ≤ 2000) ⟨c.length, t, [], none, rfl, ?_, rfl, und_le c t, by simp; omega, by have := und_le c t; omega⟩ ?_
    · rfl
    · rintro m δ' μ' ⟨t', acc, x5, rfl, rfl, hA, hu, hm, hs⟩
      refine wt_val (we_bl ⟨true, rfl, ?_⟩)
      rw [if_pos rfl]
      refine wb_cons ?_
      refine ws_setLc 5 [("person", 6)] rfl sc_all_rounds.nd n5 rfl (sw_true rfl rfl rfl (by decide +kernel)) (blkOk_by (N := ["company", "begin", "barred", "there", "found", "some", "person"]) (sc := defScope s_all_rounds) (by decide +kernel)) (lcP PyData.int (fun p => !decide (p ∈ b)) PyData.int ?_)
      refine wi_seq (we_fz (we_callZ 1 c1 hr rfl ?_))
      walk_at "go"
      refine ⟨p1, _, _, rfl, plS_map (fun _ => rfl), .keep (.lend .nil), dc, c, _, t', rfl, hc, .inl rfl, fun q => ⟨rfl, fun y hy => ?_, q, _, _, rfl, rfl, plS_map (fun _ => rfl), _, .l _, _, rfl, ?_, fun x _ => ?_, fun q3 => ?_⟩⟩
      · cases List.mem_singleton.mp hy
        exact noLs_ints _
      · refine Nat.le_trans (List.length_filter_le _ _) (Nat.le_trans (List.length_filter_le _ _) ?_)
        rw [rng_len]
        omega
      · intro s1 H1 C cl fp
        refine wg_name 6 sc_all_rounds.nd n6 (.inl rfl) (.inr rfl) (List.mem_singleton.mpr rfl) ?_
        intro s1 H1 C cl fp
        show WT _ _ _ _ _
        walk_at "t"
        walk_at "go"
        refine ow_ni (ct_sq hb) rfl (flat_ints b) ⟨_, rfl, by rw [inD_int x b], ?_⟩
        split
        · intro s1 H1 C cl fp
          walk_at "e"
          exact ⟨rfl, rfl⟩
        · rfl
      ·
        have es : ((nexts c t').filter fun p => !decide (p ∈ b)).map PyData.int = intsD (stp c t' b) := rfl
        have sl := stp_sum c t' b
        rw [es]
        refine wb_cons (ws_if ?_)
        walk_at "t"
        refine we_len B rfl ?_
        walk_at "e"
        refine ⟨_, .c 0 rfl, ?_⟩
        walk_at "e"
        refine ow_eq (.d _) (.d _) rfl rfl ⟨_, rfl, ?_⟩
        have e0 : PyData.eqv (.int ((intsD (stp c t' b)).length : Nat)) (.int 0) = decide (stp c t' b = []) := by
          simp only [PyData.eqv, List.length_map]
          cases stp c t' b <;> simp <;> omega
        rw [e0]
        unfold rnds at hA
        split
        · rename_i e1
          have e2 := of_decide_eq_true e1
          rw [if_pos e2, List.append_nil] at hA
          refine wb_one (ws_ret ?_)
          walk_at "e"
          refine keep_drop (keep_perm (List.Perm.swap _ _ _) (keep_drop (keep ?_)))
          rw [← hA]
          exact hR p2
        · rename_i e1
          have e2 : stp c t' b ≠ [] := fun z => e1 (decide_eq_true z)
          rw [if_neg e2] at hA
          have lt := stp_lt e2
          refine wb_nil ?_
          refine wb_cons (ws_expr ?_)
          refine we_append ?_
          walk_at "e"
          refine ⟨p2, _, ⟨1, rfl⟩, rfl, ?_⟩
          refine we_tuple B rfl ?_
          walk_at "e"
          refine ⟨_, .c 0 rfl, _, _, 1, rfl, rfl, by rw [List.length_map]; omega, ?_⟩
          refine wb_cons (ws_expr ?_)
          refine we_extend ?_
          walk_at "e"
          refine ⟨p1, _, ⟨2, rfl⟩, rfl, ?_⟩
          walk_at "e"
          refine ⟨_, _, _, 2, 0, rfl, rfl, rfl, by rw [List.length_map, List.length_map]; omega, ?_⟩
          refine wb_nilK (keep_drop (keep ⟨m - 1, by omega, t' ++ stp c t' b, acc ++ [stp c t' b], some (.a q3), rfl, ?_, ?_, by omega, by rw [List.length_append, List.length_singleton]; omega, by rw [List.length_append]; omega⟩))
          · simp [tups, intsD]
          · rw [hA, List.append_assoc]
            have : m - 1 + 1 = m := by omega
            rw [this]
            rfl
theorem ok_closure {f : Addr} {fd : FuncData} (F : Fun K "closure" "closure" s_closure f fd) (B : Bl mg) (c1 : Cal P w K mg base 4 "all_rounds" T_rounds) : FnG P w K mg base CX0 5 f fd ["company", "begin", "barred"] (spW K T_closure) := by
  refine fn_w F sc_closure (by decide) (fun xs μ R h => ?_) fun cdv A outer s H E hr hgd xs μ R hT => ?_
  · obtain ⟨dc, c, dt, t, db, b, rfl, _⟩ := h
    rfl
  · obtain ⟨dc, c, dt, t, db, b, rfl, hc, ht, hb, htl, hR⟩ := hT
    refine wb_names (N := ["company", "begin", "barred", "found", "some"]) rfl fun hn => ?_
    have n0 := hn 0 _ rfl
    have n1 := hn 1 _ rfl
    have n2 := hn 2 _ rfl
    have n3 := hn 3 _ rfl
    have n4 := hn 4 _ rfl
    have hl := hc.len
    have hfl := cl_len c t b
    refine wb_cons ?_
    refine ws_set 3 sc_closure.nd n3 (.inl rfl) (.inl rfl) ?_
    refine we_list B rfl ?_
    walk_at "e"
    refine ⟨_, ct_sq ht, fun p1 => ?_⟩
    refine wb_cons ?_
    refine ws_for [4] PassesOwn.never rfl ?_
    refine wi_seq (we_fz (we_callP c1 hr rfl ?_))
    walk_at "go"
    refine ⟨dc, c, dt, t, db, b, rfl, hc, ht, hb, by omega, fun q => ⟨q, _, _, rfl, rfl, plS_map (fun _ => rfl), _, .l _, ?_⟩⟩
    refine ⟨fun i δ' μ' => ∃ x4, δ' = [some (.d dc), some (.d dt), some (.d db), some (.a p1), x4] ∧ μ' = ((p1, intsD (t ++ ((AR c t b).take i).flatten)) :: μ : Cells), ⟨none, rfl, by simp⟩, fun i d δ' μ' hd hI => ?_, fun δ' μ' hI => ?_⟩
    · obtain ⟨x4, rfl, rfl⟩ := hI
      rw [List.getElem?_map] at hd
      cases hq : (AR c t b)[i]? with
      | none =>
        rw [hq] at hd
        cases hd
      | some r =>
        rw [hq] at hd
        cases hd
        refine wg_name 4 sc_closure.nd n4 (.inl rfl) (.inl rfl) (List.mem_singleton.mpr rfl) ?_
        refine wb_cons (ws_expr ?_)
        refine we_extendT ?_
        walk_at "e"
        refine ⟨p1, _, ⟨0, rfl⟩, rfl, ?_⟩
        walk_at "e"
        have lt := (List.getElem?_eq_some_iff.mp hq).1
        have e1 : ((AR c t b).take (i + 1)).flatten = ((AR c t b).take i).flatten ++ r := by rw [List.take_add_one, hq]; simp
        refine ⟨_, _, 0, rfl, rfl, ?_, ?_⟩
        · have : (((AR c t b).take (i + 1)).flatten).length ≤ ((AR c t b).flatten).length := by
            have e2 : (AR c t b).flatten = ((AR c t b).take (i + 1)).flatten ++ ((AR c t b).drop (i + 1)).flatten := by rw [← List.flatten_append, List.take_append_drop]
            rw [e2, List.length_append]
            omega
          rw [e1] at this
          simp only [List.length_append, List.length_map] at this hfl ⊢
          omega
        · refine wb_nil ⟨some (.d (.tuple (intsD r))), rfl, ?_⟩
          rw [e1]
          simp [intsD]
    · obtain ⟨x4, rfl, rfl⟩ := hI
      rw [List.length_map, List.take_length]
      refine wb_one (ws_ret ?_)
      refine we_tuple B rfl (we_sorted B rfl ?_)
      walk_at "e"
      refine ⟨_, .c 0 rfl, (fun _ z => by cases z), (by omega), fun q2 => ⟨_, .c 0 rfl, ?_⟩⟩
      exact keep_drop (keep_drop (keep hR))
theorem ok_greatest {f : Addr} {fd : FuncData} (F : Fun K "greatest" "greatest" s_greatest f fd) (B : Bl mg) (c1 : Cal P w K mg base 5 "closure" T_closure) : FnG P w K mg base CX0 6 f fd ["company"] (spW K T_great) := by
  refine fn_w F sc_greatest (by decide) (fun xs μ R h => ?_) fun cdv A outer s H E hr hgd xs μ R hT => ?_
  · obtain ⟨dc, c, rfl, _⟩ := h
    rfl
  · obtain ⟨dc, c, rfl, hc, hl, hR⟩ := hT
    refine wb_names (N := ["company"]) rfl fun hn => ?_
    have n0 := hn 0 _ rfl
    refine wb_one (ws_ret ?_)
    refine we_callP c1 hr rfl ?_
    walk_at "go"
    refine we_tup (wa_nil ⟨[], rfl, by decide, ?_⟩)
    refine wa_one ?_
    refine we_tup (wa_nil ⟨[], rfl, by decide, ?_⟩)
    exact ⟨dc, c, _, [], _, [], rfl, hc, .inr rfl, .inr rfl, by simpa using hl, keep hR⟩
theorem ok_comes_without {f : Addr} {fd : FuncData} (F : Fun K "comes_without" "comes_without" s_comes_without f fd) (B : Bl mg) (c1 : Cal P w K mg base 5 "closure" T_closure) : FnG P w K mg base CX0 6 f fd ["company", "people"] (spW K T_without) := by
  refine fn_w F sc_comes_without (by decide) (fun xs μ R h => ?_) fun cdv A outer s H E hr hgd xs μ R hT => ?_
  · obtain ⟨dc, c, db, b, rfl, _⟩ := h
    rfl
  · obtain ⟨dc, c, db, b, rfl, hc, hb, hl, hR⟩ := hT
    refine wb_names (N := ["company", "people"]) rfl fun hn => ?_
    have n0 := hn 0 _ rfl
    have n1 := hn 1 _ rfl
    refine wb_one (ws_ret ?_)
    refine we_callP c1 hr rfl ?_
    walk_at "go"
    refine we_tup (wa_nil ⟨[], rfl, by decide, ?_⟩)
    walk_at "go"
    exact ⟨dc, c, _, [], _, b, rfl, hc, .inr rfl, hb, by simpa using hl, keep hR⟩
theorem ok_never {f : Addr} {fd : FuncData} (F : Fun K "never" "never" s_never f fd) (B : Bl mg) (c1 : Cal P w K mg base 6 "greatest" T_great) : FnG P w K mg base CX0 7 f fd ["company"] (spW K T_never) := by
  refine fn_w F sc_never (by decide) (fun xs μ R h => ?_) fun cdv A outer s H E hr hgd xs μ R hT => ?_
  · obtain ⟨dc, c, rfl, _⟩ := h
    rfl
  · obtain ⟨dc, c, rfl, hc, hl, hR⟩ := hT
    refine wb_names (N := ["company", "there", "person"]) rfl fun hn => ?_
    have n0 := hn 0 _ rfl
    have n1 := hn 1 _ rfl
    have n2 := hn 2 _ rfl
    obtain ⟨ds, sq, al⟩ := hc.sq
    have hlen := allD_len al
    refine wb_cons ?_
    refine ws_set 1 sc_never.nd n1 (by walk_at "loc") (by first | exact .inl rfl | exact .inr rfl) ?_
    refine we_callP c1 hr rfl ?_
    refine wa_one ?_
    walk_at "go"
    refine ⟨dc, c, rfl, hc, hl, ?_⟩
    refine wb_one (ws_ret (we_tuple B rfl ?_))
    refine we_lc [("person", 2)] rfl sc_never.nd (blkOk_by (N := ["company", "there", "person"]) (sc := defScope s_never) (by decide +kernel)) (lcP PyData.int (fun p => !decide (p ∈ gr c)) PyData.int ?_)
    refine wi_range1 rfl B.range ?_
    refine wa_one (we_len B rfl ?_)
    walk_at "e"
    refine ⟨ds, ct_sq sq, _, rfl, by omega, by omega, rng ds.length, ?_, by rw [rng_len]; omega, fun x _ => ?_, fun q => ⟨_, .c 0 rfl, ?_⟩⟩
    · rw [Int.toNat_natCast, rangeD_eq]
    · intro s1 H1 C cl fp
      refine wg_name 2 sc_never.nd n2 (by walk_at "loc") (by first | exact .inl rfl | exact .inr rfl) (by decide) ?_
      intro s1 H1 C cl fp
      show WT _ _ _ _ _
      walk_at "t"
      walk_at "go"
      refine ow_ni (.t _) rfl (flat_ints _) ⟨_, rfl, by rw [inD_int], ?_⟩
      split
      · intro s1 H1 C cl fp
        walk_at "e"
        exact ⟨rfl, rfl⟩
      · rfl
    · refine keep_drop (keep ?_)
      unfold nev at hR
      rw [← hlen] at hR
      exact hR
theorem ok_rounds {f : Addr} {fd : FuncData} (F : Fun K "rounds" "rounds" s_rounds f fd) (B : Bl mg) (c_all_rounds : Cal P w K mg base 4 "all_rounds" T_rounds) : FnG P w K mg base CX0 5 f fd ["company"] (spW K T_rnds) := by
  refine fn_w F sc_rounds (by decide) (fun xs μ R h => ?_) fun cdv A outer s H E hr hgd xs μ R hT => ?_
  · obtain ⟨dc, c, rfl, _⟩ := h
    rfl
  · obtain ⟨dc, c, rfl, hc, hR⟩ := hT
    refine wb_names (N := ["company"]) rfl fun hn => ?_
    have n0 := hn 0 _ rfl
    refine wb_one (ws_ret ?_)
    refine we_callP c_all_rounds (by walk_at "room") rfl ?_
    refine wa_cons ?_
    walk_at "e"
    refine wa_cons ?_
    refine we_tup ?_
    refine wa_nil ?_
    refine ⟨[], rfl, by simp, ?_⟩
    refine wa_one ?_
    refine we_tup ?_
    refine wa_nil ?_
    refine ⟨[], rfl, by simp, ?_⟩
    refine ⟨_, c, _, [], _, [], rfl, by walk_at "so", .inr rfl, .inr rfl, by walk_at "so", fun p1 => ?_⟩
    exact keep (hR _)
theorem ok_look_whole {f : Addr} {fd : FuncData} (F : Fun K "look_whole" "look_whole" s_look_whole f fd) (B : Bl mg) (c1 : Cal P w K mg base 7 "never" T_never) : FnG P w K mg base CX0 8 f fd ["company"] (spW K T_lookw) := by
  refine fn_w F sc_look_whole (by decide) (fun xs μ R h => ?_) fun cdv A outer s H E hr hgd xs μ R hT => ?_
  · obtain ⟨dc, c, rfl, _⟩ := h
    rfl
  · obtain ⟨dc, c, rfl, hc, hl, hw, hR⟩ := hT
    refine wb_names (N := ["company", "people"]) rfl fun hn => ?_
    have n0 := hn 0 _ rfl
    have n1 := hn 1 _ rfl
    refine wb_cons ?_
    refine ws_set 1 sc_look_whole.nd n1 (by walk_at "loc") (by first | exact .inl rfl | exact .inr rfl) ?_
    refine we_callP c1 hr rfl ?_
    refine wa_one ?_
    walk_at "go"
    refine ⟨dc, c, rfl, hc, hl, ?_⟩
    rw [hw]
    refine wb_one (ws_if ?_)
    walk_at "t"
    refine we_len B rfl ?_
    walk_at "e"
    refine ⟨_, .t _, ?_⟩
    walk_at "go"
    refine ⟨_, rfl, itF rfl ?_⟩
    exact wb_nil (keep hR)
theorem ok_misfit {f : Addr} {fd : FuncData} (F : Fun K "misfit" "misfit" s_misfit f fd) (B : Bl mg) (c_can_come : Cal P w K mg base 2 "can_come" T_can) : FnG P w K mg base CX0 3 f fd ["company", "row"] (spW K T_misfit) := by
  refine fn_w F sc_misfit (by decide) (fun xs μ R h => ?_) fun cdv A outer s H E hr hgd xs μ R hT => ?_
  · obtain ⟨dc, c, dr, r, rfl, _⟩ := h
    rfl
  · obtain ⟨dc, c, dr, r, rfl, hc, hq, hl, hrg, hR⟩ := hT
    refine wb_names (N := ["company", "row", "found", "place", "person"]) rfl fun hn => ?_
    have n0 := hn 0 _ rfl
    have n1 := hn 1 _ rfl
    have n2 := hn 2 _ rfl
    have n3 := hn 3 _ rfl
    have n4 := hn 4 _ rfl
    have hgd : ∀ i : Nat, i < r.length → r.getD i 0 ∈ r := fun i hi => by
      rw [List.getD_eq_getElem?_getD, List.getElem?_eq_getElem hi]
      exact List.getElem_mem hi
    rcases hq with rfl | rfl
    · skip
      refine wb_cons ?_
      refine ws_setLcW 2 [("place", 3), ("person", 4)] rfl sc_misfit.nd n2 rfl (sw_true rfl rfl rfl (by decide +kernel)) (blkOk_by (N := ["company", "row", "found", "place", "person"]) (sc := defScope s_misfit) (by decide +kernel)) (lcW (fun i : Nat => .tuple [.int (i : Int), .int (r.getD i 0)]) (fun i => (!(comes c (r.take i) (r.getD i 0)))) (fun i => (.int (i : Int))) ?_)
      refine wi_enum rfl B.enum ?_
      refine wa_one ?_
      walk_at "e"
      refine ⟨_, _, rfl, (.l _), List.range r.length, enum_eq _, by rw [List.length_range]; walk_at "so", fun i hx => ?_, fun zq => ?_⟩
      · have hi' : i < r.length := List.mem_range.mp hx
        obtain ⟨g0, g1⟩ := hrg _ (hgd i hi')
        intro s1 H1 C cl fp
        refine wg_tupW (ds := [_, _]) rfl ?_
        refine wgs_cons ?_
        refine wg_name 3 sc_misfit.nd n3 (by walk_at "loc") (by first | exact .inl rfl | exact .inr rfl) (by decide) ?_
        refine wgs_cons ?_
        refine wg_name 4 sc_misfit.nd n4 (by walk_at "loc") (by first | exact .inl rfl | exact .inr rfl) (by decide) ?_
        refine wgs_nil ?_
        intro s1 H1 C cl fp
        show WT _ _ _ _ _
        refine wt_not ?_
        refine wt_val ?_
        refine we_callP c_can_come (by walk_at "room") rfl ?_
        refine wa_cons ?_
        walk_at "e"
        refine wa_cons ?_
        walk_at "e"
        refine wa_one ?_
        refine we_fz ?_
        refine we_slL ?_
        walk_at "e"
        refine wo_none ?_
        refine wo_some ?_
        walk_at "e"
        refine ⟨_, rfl, ?_⟩
        refine ⟨_, (.l _), (fun _ z => by cases z), ?_⟩
        rw [cutZ_take (by rw [List.length_map]; omega), ← List.map_take]
        refine fun p1 => ⟨p1, _, _, rfl, rfl, by walk_at "pl", ?_⟩
        refine ⟨_, _, _, _, (r.take i), rfl, by walk_at "so", by walk_at "so", by walk_at "so", .inl rfl, ?_⟩
        refine ⟨_, rfl, ?_⟩
        refine ⟨rfl, ?_⟩
        split
        · rename_i h1
          intro s1 H1 C cl fp
          walk_at "e"
          exact ⟨rfl, rfl⟩
        · rfl
      have em : ((List.range r.length).filter fun i => !comes c (r.take i) (r.getD i 0)) = misL c r := rfl
      rw [em]
      unfold misV at hR
      refine wb_one (ws_ret (we_if ?_))
      walk_at "t"
      refine we_len B rfl ?_
      walk_at "e"
      refine ⟨_, .c 0 rfl, ?_⟩
      walk_at "go"
      refine ⟨_, rfl, ?_⟩
      cases hm : misL c r with
      | nil =>
        rw [hm] at hR
        refine itF rfl ?_
        walk_at "e"
        exact keep_drop (keep hR)
      | cons i l =>
        rw [hm] at hR
        refine itT (decide_eq_true (by simp)) ?_
        walk_at "go"
        refine ow_ix (.c 0 rfl) (atI_nat (j := 0) rfl) ?_
        exact keep_drop (keep hR)
    · skip
      refine wb_cons ?_
      refine ws_setLcW 2 [("place", 3), ("person", 4)] rfl sc_misfit.nd n2 rfl (sw_true rfl rfl rfl (by decide +kernel)) (blkOk_by (N := ["company", "row", "found", "place", "person"]) (sc := defScope s_misfit) (by decide +kernel)) (lcW (fun i : Nat => .tuple [.int (i : Int), .int (r.getD i 0)]) (fun i => (!(comes c (r.take i) (r.getD i 0)))) (fun i => (.int (i : Int))) ?_)
      refine wi_enum rfl B.enum ?_
      refine wa_one ?_
      walk_at "e"
      refine ⟨_, _, rfl, (.t _), List.range r.length, enum_eq _, by rw [List.length_range]; walk_at "so", fun i hx => ?_, fun zq => ?_⟩
      · have hi' : i < r.length := List.mem_range.mp hx
        obtain ⟨g0, g1⟩ := hrg _ (hgd i hi')
        intro s1 H1 C cl fp
        refine wg_tupW (ds := [_, _]) rfl ?_
        refine wgs_cons ?_
        refine wg_name 3 sc_misfit.nd n3 (by walk_at "loc") (by first | exact .inl rfl | exact .inr rfl) (by decide) ?_
        refine wgs_cons ?_
        refine wg_name 4 sc_misfit.nd n4 (by walk_at "loc") (by first | exact .inl rfl | exact .inr rfl) (by decide) ?_
        refine wgs_nil ?_
        intro s1 H1 C cl fp
        show WT _ _ _ _ _
        refine wt_not ?_
        refine wt_val ?_
        refine we_callP c_can_come (by walk_at "room") rfl ?_
        refine wa_cons ?_
        walk_at "e"
        refine wa_cons ?_
        walk_at "e"
        refine wa_one ?_
        refine we_slT ?_
        walk_at "e"
        refine wo_none ?_
        refine wo_some ?_
        walk_at "e"
        refine ⟨_, rfl, ?_⟩
        refine ⟨_, rfl, ?_⟩
        rw [cutZ_take (by rw [List.length_map]; omega), ← List.map_take]
        refine ⟨_, _, _, _, (r.take i), rfl, by walk_at "so", by walk_at "so", by walk_at "so", .inr rfl, ?_⟩
        refine ⟨_, rfl, ?_⟩
        refine ⟨rfl, ?_⟩
        split
        · rename_i h1
          intro s1 H1 C cl fp
          walk_at "e"
          exact ⟨rfl, rfl⟩
        · rfl
      have em : ((List.range r.length).filter fun i => !comes c (r.take i) (r.getD i 0)) = misL c r := rfl
      rw [em]
      unfold misV at hR
      refine wb_one (ws_ret (we_if ?_))
      walk_at "t"
      refine we_len B rfl ?_
      walk_at "e"
      refine ⟨_, .c 0 rfl, ?_⟩
      walk_at "go"
      refine ⟨_, rfl, ?_⟩
      cases hm : misL c r with
      | nil =>
        rw [hm] at hR
        refine itF rfl ?_
        walk_at "e"
        exact keep_drop (keep hR)
      | cons i l =>
        rw [hm] at hR
        refine itT (decide_eq_true (by simp)) ?_
        walk_at "go"
        refine ow_ix (.c 0 rfl) (atI_nat (j := 0) rfl) ?_
        exact keep_drop (keep hR)
theorem ok_look_order {f : Addr} {fd : FuncData} (F : Fun K "look_order" "look_order" s_look_order f fd) (B : Bl mg) (c_misfit : Cal P w K mg base 3 "misfit" T_misfit) : FnG P w K mg base CX0 4 f fd ["company", "row"] (spW K T_looko) := by
  refine fn_w F sc_look_order (by decide) (fun xs μ R h => ?_) fun cdv A outer s H E hr hgd xs μ R hT => ?_
  · obtain ⟨dc, c, dr, r, rfl, _⟩ := h
    rfl
  · obtain ⟨dc, c, dr, r, rfl, hc, hq, hl, hrg, hm, hR⟩ := hT
    refine wb_names (N := ["company", "row", "place"]) rfl fun hn => ?_
    have n0 := hn 0 _ rfl
    have n1 := hn 1 _ rfl
    have n2 := hn 2 _ rfl
    refine wb_cons ?_
    refine ws_set 2 sc_look_order.nd n2 (by walk_at "loc") (by first | exact .inl rfl | exact .inr rfl) ?_
    refine we_callP c_misfit (by walk_at "room") rfl ?_
    refine wa_cons ?_
    walk_at "e"
    refine wa_one ?_
    walk_at "e"
    refine ⟨_, _, _, _, rfl, by walk_at "so", by assumption, by walk_at "so", by walk_at "so", ?_⟩
    have em : misV c r = .none := by unfold misV; rw [hm]
    rw [em]
    refine wb_cons (ws_if ?_)
    refine wt_cmp (op := .IsNot) op_notN (nomark _) ?_
    walk_at "e"
    walk_at "e"
    refine ow_notN ⟨_, rfl, ?_⟩
    refine itF (rfl) ?_
    refine wb_nil ?_
    refine wb_nil ?_
    exact keep hR
theorem ok_first_order {f : Addr} {fd : FuncData} (F : Fun K "first_order" "first_order" s_first_order f fd) (B : Bl mg) (c_look_whole : Cal P w K mg base 8 "look_whole" T_lookw) (c_next_people : Cal P w K mg base 3 "next_people" T_next) : FnG P w K mg base CX0 9 f fd ["company"] (spW K T_fo) := by
  refine fn_w F sc_first_order (by decide) (fun xs μ R h => ?_) fun cdv A outer s H E hr hgd xs μ R hT => ?_
  · obtain ⟨dc, c, rfl, _⟩ := h
    rfl
  · obtain ⟨dc, c, rfl, hc, hl, hw, hR⟩ := hT
    refine wb_names (N := ["company", "found", "turn"]) rfl fun hn => ?_
    have n0 := hn 0 _ rfl
    have n1 := hn 1 _ rfl
    have n2 := hn 2 _ rfl
    obtain ⟨ds, sq, al⟩ := hc.sq
    have hlen := allD_len al
    refine wb_cons (ws_expr ?_)
    refine we_callP c_look_whole (by walk_at "room") rfl ?_
    refine wa_one ?_
    walk_at "e"
    refine ⟨_, _, rfl, by walk_at "so", by walk_at "so", by walk_at "so", ?_⟩
    refine wb_cons ?_
    refine ws_set 1 sc_first_order.nd n1 (by walk_at "loc") (by first | exact .inl rfl | exact .inr rfl) ?_
    refine we_lst ?_
    refine wa_nil ?_
    refine ⟨[], rfl, by simp, fun p1 => ?_⟩
    refine wb_cons ?_
    refine ws_for [2] PassesOwn.never rfl ?_
    refine wi_rng rfl B.range ?_
    refine we_len B rfl ?_
    walk_at "e"
    refine ⟨_, (ct_sq (by assumption)), ?_⟩
    rw [hlen]
    refine ⟨c.length, rfl, by walk_at "so", fun i δ' μ' => ∃ x2, δ' = [some (.d dc), some (.a p1), x2] ∧ μ' = ((p1, (intsD (foS c i))) :: μ : Cells) ∧ True, ⟨_, rfl, rfl, trivial⟩, fun i d δ' μ' hd hI => ?_, fun δ' μ' hI => ?_⟩
    · obtain ⟨x2, rfl, rfl, _⟩ := hI
      obtain ⟨hi, rfl⟩ := rng_item hd
      refine wg_name 2 sc_first_order.nd n2 (by walk_at "loc") (by first | exact .inl rfl | exact .inr rfl) (by decide) ?_
      have hp := (foS_ok hw i (by omega))
      have hne := nexts_ne hp.1 hw (by rw [hp.2]; omega)
      have hpl := hp.2
      refine wb_cons (ws_expr ?_)
      refine we_append ?_
      walk_at "e"
      refine ⟨p1, _, ⟨0, rfl⟩, rfl, ?_⟩
      walk_at "e"
      refine we_fz ?_
      refine we_clT (wc_pos c_next_people (by walk_at "room") rfl ?_)
      refine wa_cons ?_
      walk_at "e"
      refine wa_one ?_
      walk_at "e"
      refine ⟨_, (.keep (.lend (.mk 0 rfl (litems_pl (by walk_at "pl"))) .nil)), _, c, _, (foS c i), rfl, by walk_at "so", .inl rfl, fun p2 => ⟨rfl, fun y hy => by cases List.mem_singleton.mp hy; exact noLs_ints _, p2, _, _, rfl, rfl, by walk_at "pl", ?_⟩⟩
      walk_at "e"
      refine ow_ix (.l _) (atI_ints (i := 0) (List.length_pos_iff.mpr hne)) ?_
      refine ⟨_, _, 0, rfl, rfl, by walk_at "so", ?_⟩
      refine wb_nil ?_
      exact ⟨_, rfl, by simp [foS, intsD], trivial⟩
    · rw [rng_items _] at hI
      obtain ⟨x2, rfl, rfl, _⟩ := hI
      refine wb_one (ws_ret ?_)
      refine we_tuple B rfl ?_
      walk_at "e"
      refine ⟨_, (.c 0 rfl), ?_⟩
      exact keep_drop (keep hR)
theorem ok_last_order {f : Addr} {fd : FuncData} (F : Fun K "last_order" "last_order" s_last_order f fd) (B : Bl mg) (c_look_whole : Cal P w K mg base 8 "look_whole" T_lookw) (c_next_people : Cal P w K mg base 3 "next_people" T_next) : FnG P w K mg base CX0 9 f fd ["company"] (spW K T_la) := by
  refine fn_w F sc_last_order (by decide) (fun xs μ R h => ?_) fun cdv A outer s H E hr hgd xs μ R hT => ?_
  · obtain ⟨dc, c, rfl, _⟩ := h
    rfl
  · obtain ⟨dc, c, rfl, hc, hl, hw, hR⟩ := hT
    refine wb_names (N := ["company", "found", "turn"]) rfl fun hn => ?_
    have n0 := hn 0 _ rfl
    have n1 := hn 1 _ rfl
    have n2 := hn 2 _ rfl
    obtain ⟨ds, sq, al⟩ := hc.sq
    have hlen := allD_len al
    refine wb_cons (ws_expr ?_)
    refine we_callP c_look_whole (by walk_at "room") rfl ?_
    refine wa_one ?_
    walk_at "e"
    refine ⟨_, _, rfl, by walk_at "so", by walk_at "so", by walk_at "so", ?_⟩
    refine wb_cons ?_
    refine ws_set 1 sc_last_order.nd n1 (by walk_at "loc") (by first | exact .inl rfl | exact .inr rfl) ?_
    refine we_lst ?_
    refine wa_nil ?_
    refine ⟨[], rfl, by simp, fun p1 => ?_⟩
    refine wb_cons ?_
    refine ws_for [2] PassesOwn.never rfl ?_
    refine wi_rng rfl B.range ?_
    refine we_len B rfl ?_
    walk_at "e"
    refine ⟨_, (ct_sq (by assumption)), ?_⟩
    rw [hlen]
    refine ⟨c.length, rfl, by walk_at "so", fun i δ' μ' => ∃ x2, δ' = [some (.d dc), some (.a p1), x2] ∧ μ' = ((p1, (intsD (laS c i))) :: μ : Cells) ∧ True, ⟨_, rfl, rfl, trivial⟩, fun i d δ' μ' hd hI => ?_, fun δ' μ' hI => ?_⟩
    · obtain ⟨x2, rfl, rfl, _⟩ := hI
      obtain ⟨hi, rfl⟩ := rng_item hd
      refine wg_name 2 sc_last_order.nd n2 (by walk_at "loc") (by first | exact .inl rfl | exact .inr rfl) (by decide) ?_
      have hp := (laS_ok hw i (by omega))
      have hne := nexts_ne hp.1 hw (by rw [hp.2]; omega)
      have hpl := hp.2
      refine wb_cons (ws_expr ?_)
      refine we_append ?_
      walk_at "e"
      refine ⟨p1, _, ⟨0, rfl⟩, rfl, ?_⟩
      walk_at "e"
      refine we_fz ?_
      refine we_clT (wc_pos c_next_people (by walk_at "room") rfl ?_)
      refine wa_cons ?_
      walk_at "e"
      refine wa_one ?_
      walk_at "e"
      refine ⟨_, (.keep (.lend (.mk 0 rfl (litems_pl (by walk_at "pl"))) .nil)), _, c, _, (laS c i), rfl, by walk_at "so", .inl rfl, fun p2 => ⟨rfl, fun y hy => by cases List.mem_singleton.mp hy; exact noLs_ints _, p2, _, _, rfl, rfl, by walk_at "pl", ?_⟩⟩
      walk_at "e"
      walk_at "e"
      refine uw_neg ?_
      refine ow_ix (.l _) (atI_lastI hne) ?_
      refine ⟨_, _, 0, rfl, rfl, by walk_at "so", ?_⟩
      refine wb_nil ?_
      exact ⟨_, rfl, by simp [laS, intsD], trivial⟩
    · rw [rng_items _] at hI
      obtain ⟨x2, rfl, rfl, _⟩ := hI
      refine wb_one (ws_ret ?_)
      refine we_tuple B rfl ?_
      walk_at "e"
      refine ⟨_, (.c 0 rfl), ?_⟩
      exact keep_drop (keep hR)
theorem ok_swapped {f : Addr} {fd : FuncData} (F : Fun K "swapped" "swapped" s_swapped f fd) (B : Bl mg) : FnG P w K mg base CX0 1 f fd ["order", "place"] (spW K T_swap) := by
  refine fn_w F sc_swapped (by decide) (fun xs μ R h => ?_) fun cdv A outer s H E hr hgd xs μ R hT => ?_
  · obtain ⟨dr, r, i, rfl, _⟩ := h
    rfl
  · obtain ⟨dr, r, i, rfl, hq, hi, hl, hR⟩ := hT
    refine wb_names (N := ["order", "place"]) rfl fun hn => ?_
    have n0 := hn 0 _ rfl
    have n1 := hn 1 _ rfl
    rcases hq with rfl | rfl
    · skip
      refine wb_one (ws_ret ?_)
      walk_at "e"
      walk_at "e"
      refine we_tuple B rfl ?_
      refine we_fz ?_
      refine we_slL ?_
      walk_at "e"
      refine wo_none ?_
      refine wo_some ?_
      walk_at "e"
      refine ⟨_, rfl, ?_⟩
      refine ⟨_, (.l _), (fun _ z => by cases z), ?_⟩
      rw [cutZ_take (by rw [List.length_map]; omega), ← List.map_take]
      refine fun p1 => ⟨p1, _, _, rfl, rfl, by walk_at "pl", ?_⟩
      refine ⟨_, (.l _), ?_⟩
      refine we_tup ?_
      refine wa_cons ?_
      walk_at "e"
      walk_at "e"
      walk_at "e"
      walk_at "e"
      walk_at "e"
      refine ow_add ?_
      refine ow_ix (.l _) (by rw [show ((i : Nat) : Int) + 1 = ((i + 1 : Nat) : Int) by omega]; exact atI_ints (by omega)) ?_
      refine wa_one ?_
      walk_at "e"
      walk_at "e"
      walk_at "e"
      refine ow_ix (.l _) (atI_ints (by omega)) ?_
      refine ⟨intsD [(r.getD (i + 1) 0), (r.getD i 0)], rfl, by simp, ?_⟩
      refine ow_catT (by rw [List.length_map, List.length_take]; simp; omega) ?_
      rw [← ints_app]
      refine we_tuple B rfl ?_
      refine we_fz ?_
      refine we_slL ?_
      walk_at "e"
      refine wo_some ?_
      walk_at "e"
      walk_at "e"
      walk_at "e"
      refine ow_add ?_
      refine ⟨_, rfl, ?_⟩
      refine wo_none ?_
      refine ⟨_, (.l _), (fun _ z => by cases z), ?_⟩
      rw [show ((i : Nat) : Int) + 2 = ((i + 2 : Nat) : Int) by omega, cutZ_drop (by rw [List.length_map]; omega), ← List.map_drop]
      refine fun p2 => ⟨p2, _, _, rfl, rfl, by walk_at "pl", ?_⟩
      refine ⟨_, (.l _), ?_⟩
      refine ow_catT (by simp; omega) ?_
      rw [← ints_app]
      exact keep hR
    · skip
      refine wb_one (ws_ret ?_)
      walk_at "e"
      walk_at "e"
      refine we_tuple B rfl ?_
      refine we_slT ?_
      walk_at "e"
      refine wo_none ?_
      refine wo_some ?_
      walk_at "e"
      refine ⟨_, rfl, ?_⟩
      refine ⟨_, rfl, ?_⟩
      rw [cutZ_take (by rw [List.length_map]; omega), ← List.map_take]
      refine ⟨_, (.t _), ?_⟩
      refine we_tup ?_
      refine wa_cons ?_
      walk_at "e"
      walk_at "e"
      walk_at "e"
      walk_at "e"
      walk_at "e"
      refine ow_add ?_
      refine ow_ix (.t _) (by rw [show ((i : Nat) : Int) + 1 = ((i + 1 : Nat) : Int) by omega]; exact atI_ints (by omega)) ?_
      refine wa_one ?_
      walk_at "e"
      walk_at "e"
      walk_at "e"
      refine ow_ix (.t _) (atI_ints (by omega)) ?_
      refine ⟨intsD [(r.getD (i + 1) 0), (r.getD i 0)], rfl, by simp, ?_⟩
      refine ow_catT (by rw [List.length_map, List.length_take]; simp; omega) ?_
      rw [← ints_app]
      refine we_tuple B rfl ?_
      refine we_slT ?_
      walk_at "e"
      refine wo_some ?_
      walk_at "e"
      walk_at "e"
      walk_at "e"
      refine ow_add ?_
      refine ⟨_, rfl, ?_⟩
      refine wo_none ?_
      refine ⟨_, rfl, ?_⟩
      rw [show ((i : Nat) : Int) + 2 = ((i + 2 : Nat) : Int) by omega, cutZ_drop (by rw [List.length_map]; omega), ← List.map_drop]
      refine ⟨_, (.t _), ?_⟩
      refine ow_catT (by simp; omega) ?_
      rw [← ints_app]
      exact keep hR
theorem ok_look_orders {f : Addr} {fd : FuncData} (F : Fun K "look_orders" "look_orders" s_look_orders f fd) (B : Bl mg) (c_look_whole : Cal P w K mg base 8 "look_whole" T_lookw) (c_look_order : Cal P w K mg base 4 "look_order" T_looko) : FnG P w K mg base CX0 9 f fd ["company", "one", "other"] (spW K T_lookos) := by
  refine fn_w F sc_look_orders (by decide) (fun xs μ R h => ?_) fun cdv A outer s H E hr hgd xs μ R hT => ?_
  · obtain ⟨dc, c, d1, r1, d2, r2, rfl, _⟩ := h
    rfl
  · obtain ⟨dc, c, d1, r1, d2, r2, rfl, hc, hl, hw, hq1, ho1, hq2, ho2, hR⟩ := hT
    refine wb_names (N := ["company", "one", "other"]) rfl fun hn => ?_
    have n0 := hn 0 _ rfl
    have n1 := hn 1 _ rfl
    have n2 := hn 2 _ rfl
    have hl1 := ho1.lens
    have hl2 := ho2.lens
    refine wb_cons (ws_expr ?_)
    refine we_callP c_look_whole (by walk_at "room") rfl ?_
    refine wa_one ?_
    walk_at "e"
    refine ⟨_, _, rfl, by walk_at "so", by walk_at "so", by walk_at "so", ?_⟩
    refine wb_cons (ws_expr ?_)
    refine we_callP c_look_order (by walk_at "room") rfl ?_
    refine wa_cons ?_
    walk_at "e"
    refine wa_one ?_
    walk_at "e"
    refine ⟨_, _, _, _, rfl, by walk_at "so", by assumption, by walk_at "so", ho1.rows, misL_nil ho1.po, ?_⟩
    refine wb_cons (ws_expr ?_)
    refine we_callP c_look_order (by walk_at "room") rfl ?_
    refine wa_cons ?_
    walk_at "e"
    refine wa_one ?_
    walk_at "e"
    refine ⟨_, _, _, _, rfl, by walk_at "so", by assumption, by walk_at "so", ho2.rows, misL_nil ho2.po, ?_⟩
    refine wb_nil ?_
    exact keep hR
theorem ok_free_places {f : Addr} {fd : FuncData} (F : Fun K "free_places" "free_places" s_free_places f fd) (B : Bl mg) (c_misfit : Cal P w K mg base 3 "misfit" T_misfit) (c_swapped : Cal P w K mg base 1 "swapped" T_swap) : FnG P w K mg base CX0 4 f fd ["company", "order"] (spW K T_frp) := by
  refine fn_w F sc_free_places (by decide) (fun xs μ R h => ?_) fun cdv A outer s H E hr hgd xs μ R hT => ?_
  · obtain ⟨dc, c, dr, r, rfl, _⟩ := h
    rfl
  · obtain ⟨dc, c, dr, r, rfl, hc, hq, hl, hrg, hR⟩ := hT
    refine wb_names (N := ["company", "order", "place"]) rfl fun hn => ?_
    have n0 := hn 0 _ rfl
    have n1 := hn 1 _ rfl
    have n2 := hn 2 _ rfl
    refine wb_one (ws_ret ?_)
    refine we_lc [("place", 2)] rfl sc_free_places.nd (blkOk_by (N := ["company", "order", "place"]) (sc := defScope s_free_places) (by decide +kernel)) (lcP (fun i : Nat => PyData.int (i : Int)) (fun i => (misL c (swp r i)).isEmpty) (fun i : Nat => PyData.int (i : Int)) ?_)
    refine wi_range1 rfl B.range (wa_one ?_)
    walk_at "e"
    refine we_len B rfl ?_
    walk_at "e"
    refine ⟨_, ct_sq hq, ?_⟩
    walk_at "e"
    refine ow_sub ?_
    rw [List.length_map]
    refine ⟨_, rfl, by omega, by omega, List.range (r.length - 1), ?_, by rw [List.length_range]; omega, fun i hi => ?_, fun q => ?_⟩
    · rw [show (((r.length : Nat) : Int) - 1).toNat = r.length - 1 by omega, rangeD_nats]
    · have hi' : i < r.length - 1 := List.mem_range.mp hi
      intro s1 H1 C cl fp
      refine wg_name 2 sc_free_places.nd n2 (by walk_at "loc") (by first | exact .inl rfl | exact .inr rfl) (by decide) ?_
      intro s1 H1 C cl fp
      show WT _ _ _ _ _
      refine wt_cmp (op := .Is) op_isN (nomark _) ?_
      refine we_callP c_misfit (by walk_at "room") rfl ?_
      refine wa_cons ?_
      walk_at "e"
      refine wa_one ?_
      refine we_callP c_swapped (by walk_at "room") rfl ?_
      refine wa_cons ?_
      walk_at "e"
      refine wa_one ?_
      walk_at "e"
      refine ⟨_, r, i, rfl, by assumption, by omega, by omega, ?_⟩
      refine ⟨_, _, _, _, rfl, by walk_at "so", .inr rfl, by rw [swp_len (by omega)]; omega, fun x hx => hrg x ((swp_perm (by omega)).mem_iff.mp hx), ?_⟩
      walk_at "e"
      refine ow_isN ⟨_, rfl, ?_⟩
      rw [misV_none]
      refine ⟨rfl, ?_⟩
      split
      · intro s1 H1 C cl fp
        walk_at "e"
        exact ⟨rfl, rfl⟩
      · rfl
    exact keep (hR q)
theorem ok_exchanges {f : Addr} {fd : FuncData} (F : Fun K "exchanges" "exchanges" s_exchanges f fd) (B : Bl mg) (c_look_whole : Cal P w K mg base 8 "look_whole" T_lookw) (c_look_order : Cal P w K mg base 4 "look_order" T_looko) (c_free_places : Cal P w K mg base 4 "free_places" T_frp) : FnG P w K mg base CX0 9 f fd ["company", "order"] (spW K T_exs) := by
  refine fn_w F sc_exchanges (by decide) (fun xs μ R h => ?_) fun cdv A outer s H E hr hgd xs μ R hT => ?_
  · obtain ⟨dc, c, dr, r, rfl, _⟩ := h
    rfl
  · obtain ⟨dc, c, dr, r, rfl, hc, hl, hw, hq, ho, hR⟩ := hT
    refine wb_names (N := ["company", "order"]) rfl fun hn => ?_
    have n0 := hn 0 _ rfl
    have n1 := hn 1 _ rfl
    have hl1 := ho.lens
    refine wb_cons (ws_expr ?_)
    refine we_callP c_look_whole (by walk_at "room") rfl ?_
    refine wa_one ?_
    walk_at "e"
    refine ⟨_, _, rfl, by walk_at "so", by walk_at "so", by walk_at "so", ?_⟩
    refine wb_cons (ws_expr ?_)
    refine we_callP c_look_order (by walk_at "room") rfl ?_
    refine wa_cons ?_
    walk_at "e"
    refine wa_one ?_
    walk_at "e"
    refine ⟨_, _, _, _, rfl, by walk_at "so", by assumption, by walk_at "so", ho.rows, misL_nil ho.po, ?_⟩
    refine wb_one (ws_ret ?_)
    refine we_callP c_free_places (by walk_at "room") rfl ?_
    refine wa_cons ?_
    walk_at "e"
    refine wa_one ?_
    walk_at "e"
    refine ⟨_, _, _, _, rfl, by walk_at "so", by assumption, by walk_at "so", ho.rows, fun p1 => ?_⟩
    exact keep (hR _)
theorem ok_pairs_of {f : Addr} {fd : FuncData} (F : Fun K "pairs_of" "pairs_of" s_pairs_of f fd) (B : Bl mg) : FnG P w K mg base CX0 1 f fd ["size"] (spW K T_pairs) := by
  refine fn_w F sc_pairs_of (by decide) (fun xs μ R h => ?_) fun cdv A outer s H E hr hgd xs μ R hT => ?_
  · obtain ⟨n, rfl, _⟩ := h
    rfl
  · obtain ⟨n, rfl, hn60, hR⟩ := hT
    refine wb_names (N := ["size", "found", "low", "high"]) rfl fun hn => ?_
    have n0 := hn 0 _ rfl
    have n1 := hn 1 _ rfl
    have n2 := hn 2 _ rfl
    have n3 := hn 3 _ rfl
    refine wb_cons ?_
    refine ws_set 1 sc_pairs_of.nd n1 (by walk_at "loc") (by first | exact .inl rfl | exact .inr rfl) ?_
    refine we_lst (wa_nil ⟨[], rfl, by decide, fun p1 => ?_⟩)
    refine wb_cons ?_
    refine ws_for [2] PassesOwn.never rfl ?_
    refine wi_range1 rfl B.range ?_
    refine wa_one ?_
    walk_at "e"
    refine ⟨_, rfl, by omega, by omega, ?_⟩
    rw [Int.toNat_natCast, rangeD_eq]
    have lle : ∀ l : List Int, (∀ x ∈ l, x ∈ rng n) → (l.flatMap fun lo => ((rng n).filter fun h => decide (lo < h)).map fun h => (lo, h)).length ≤ l.length * n := fun l _ => flat_le _ n l fun x _ => by
      rw [List.length_map]
      refine Nat.le_trans (List.length_filter_le _ _) ?_
      rw [rng_len]
      exact Nat.le_refl _
    refine ⟨fun i δ' μ' => ∃ x2, δ' = [some (.d (.int (n : Int))), some (.a p1), x2, none] ∧ μ' = ((p1, (((rng n).take i).flatMap fun lo => ((rng n).filter fun h => decide (lo < h)).map fun h => (lo, h)).map duoD) :: μ : Cells), ⟨none, rfl, rfl⟩, fun i d δ' μ' hd hI => ?_, fun δ' μ' hI => ?_⟩
    · obtain ⟨x2, rfl, rfl⟩ := hI
      have hi : i < n := by
        have := (List.getElem?_eq_some_iff.mp hd).1
        rw [List.length_map, rng_len] at this
        exact this
      have hd' : d = .int (i : Int) := by
        unfold intsD rng at hd
        rw [List.getElem?_map, List.getElem?_map, List.getElem?_range hi] at hd
        cases hd
        rfl
      subst hd'
      refine wg_name 2 sc_pairs_of.nd n2 (by walk_at "loc") (by first | exact .inl rfl | exact .inr rfl) (by decide) ?_
      refine wb_cons (ws_expr ?_)
      refine we_extend ?_
      walk_at "e"
      refine ⟨p1, _, ⟨0, rfl⟩, rfl, ?_⟩
      refine we_lc [("high", 3)] rfl sc_pairs_of.nd (blkOk_by (N := ["size", "found", "low", "high"]) (sc := defScope s_pairs_of) (by decide +kernel)) (lcP PyData.int (fun _ => true) (fun h => duoD ((i : Int), h)) ?_)
      refine wi_range2 rfl B.range ?_
      refine wa_two ?_
      walk_at "go"
      have e1 : ((i : Int) + 1) = ((i + 1 : Nat) : Int) := rfl
      have e2 : (rng n).filter (fun x => decide (((i + 1 : Nat) : Int) ≤ x)) = (rng n).filter fun h => decide ((i : Int) < h) := List.filter_congr fun x _ => by
        rw [decide_eq_decide]
        omega
      have e3 : ((n : Int) - ((i + 1 : Nat) : Int)).toNat = n - (i + 1) := by omega
      refine ⟨_, _, rfl, by omega, by omega, by omega, by omega, (rng n).filter fun h => decide ((i : Int) < h), ?_, ?_, fun x hx => ?_, fun q => ?_⟩
      · rw [e1, e3, rangeD_from (i + 1) n (by omega), e2]
      · refine Nat.le_trans (List.length_filter_le _ _) ?_
        rw [rng_len]
        omega
      · intro s1 H1 C cl fp
        refine wg_name 3 sc_pairs_of.nd n3 (by walk_at "loc") (by first | exact .inl rfl | exact .inr rfl) (by decide) ?_
        intro s1 H1 C cl fp
        refine ⟨rfl, itT rfl ?_⟩
        intro s1 H1 C cl fp
        refine we_tup (wa_two ?_)
        walk_at "go"
        exact ⟨_, rfl, by simp, rfl, rfl⟩
      rw [filt_all]
      have tk : (rng n).take (i + 1) = (rng n).take i ++ [(i : Int)] := rng_take_succ hi
      have hle := lle ((rng n).take (i + 1)) (fun x h => List.mem_of_mem_take h)
      rw [List.length_take, rng_len] at hle
      rw [tk, List.flatMap_append, List.length_append, List.flatMap_singleton, List.length_map] at hle
      have hz : min (i + 1) n * n ≤ 60 * 60 := Nat.mul_le_mul (Nat.le_trans (Nat.min_le_right _ _) hn60) hn60
      refine ⟨q, _, _, 1, 0, rfl, rfl, rfl, by rw [List.length_map, List.length_map]; omega, ?_⟩
      refine wb_nilK (keep_drop (keep ⟨_, rfl, ?_⟩))
      rw [tk, List.flatMap_append, List.flatMap_singleton, List.map_append, List.map_map]
      rfl
    · obtain ⟨x2, rfl, rfl⟩ := hI
      rw [List.length_map, List.take_length]
      refine wb_one (ws_ret ?_)
      walk_at "e"
      exact keep (hR p1)
theorem ok_crossed {f : Addr} {fd : FuncData} (F : Fun K "crossed" "crossed" s_crossed f fd) (B : Bl mg) (c_look_orders : Cal P w K mg base 9 "look_orders" T_lookos) (c_pairs_of : Cal P w K mg base 1 "pairs_of" T_pairs) : FnG P w K mg base CX0 10 f fd ["company", "one", "other"] (spW K T_cross) := by
  refine fn_w F sc_crossed (by decide) (fun xs μ R h => ?_) fun cdv A outer s H E hr hgd xs μ R hT => ?_
  · obtain ⟨dc, c, d1, r1, d2, r2, rfl, _⟩ := h
    rfl
  · obtain ⟨dc, c, d1, r1, d2, r2, rfl, hc, hl, hw, hq1, ho1, hq2, ho2, hR⟩ := hT
    refine wb_names (N := ["company", "one", "other", "mine", "its", "pairs", "a", "b"]) rfl fun hn => ?_
    have n0 := hn 0 _ rfl
    have n1 := hn 1 _ rfl
    have n2 := hn 2 _ rfl
    have n3 := hn 3 _ rfl
    have n4 := hn 4 _ rfl
    have n5 := hn 5 _ rfl
    have n6 := hn 6 _ rfl
    have n7 := hn 7 _ rfl
    have hl1 := ho1.lens
    have hl2 := ho2.lens
    refine wb_cons (ws_expr ?_)
    refine we_callP c_look_orders (by walk_at "room") rfl ?_
    refine wa_cons ?_
    walk_at "e"
    refine wa_cons ?_
    walk_at "e"
    refine wa_one ?_
    walk_at "e"
    refine ⟨_, _, _, _, _, _, rfl, by walk_at "so", by walk_at "so", by walk_at "so", by assumption, by walk_at "so", by assumption, by walk_at "so", ?_⟩
    refine wb_cons ?_
    refine ws_tups [3, 4] rfl ?_
    refine wa_cons ?_
    refine we_fz ?_
    refine we_list B rfl ?_
    walk_at "e"
    refine ⟨_, (ct_sq (by assumption)), fun p1 => ⟨p1, _, _, rfl, rfl, by walk_at "pl", ?_⟩⟩
    refine wa_one ?_
    refine we_fz ?_
    refine we_list B rfl ?_
    walk_at "e"
    refine ⟨_, (ct_sq (by assumption)), fun p2 => ⟨p2, _, _, rfl, rfl, by walk_at "pl", ?_⟩⟩
    refine ⟨rfl, by decide, ?_⟩
    refine wgs_cons (wg_name 3 sc_crossed.nd n3 (by walk_at "loc") (by first | exact .inl rfl | exact .inr rfl) (by decide) ?_)
    refine wgs_cons (wg_name 4 sc_crossed.nd n4 (by walk_at "loc") (by first | exact .inl rfl | exact .inr rfl) (by decide) ?_)
    refine wgs_nil ?_
    refine wb_cons ?_
    refine ws_set 5 sc_crossed.nd n5 (by walk_at "loc") (by first | exact .inl rfl | exact .inr rfl) ?_
    refine we_fz ?_
    refine we_callP c_pairs_of (by walk_at "room") rfl ?_
    refine wa_one ?_
    refine we_len B rfl ?_
    walk_at "e"
    refine ⟨_, (.l _), ?_⟩
    rw [List.length_map]
    refine ⟨r1.length, rfl, by walk_at "so", fun p3 => ⟨p3, _, _, rfl, rfl, by walk_at "pl", ?_⟩⟩
    rw [hl1]
    have hpl : 2 * (prs c.length).length ≤ 60 * 60 := by
      rw [prs_len]
      exact Nat.mul_le_mul hl (by omega)
    refine wb_one (ws_ret ?_)
    refine we_lc [("a", 6), ("b", 7)] rfl sc_crossed.nd (blkOk_by (N := ["company", "one", "other", "mine", "its", "pairs", "a", "b"]) (sc := defScope s_crossed) (by decide +kernel)) (lcP duoD (fun x => (!(decide ((decide (((posn x.1 r1 : Nat) : Int) < ((posn x.2 r1 : Nat) : Int))) = (decide (((posn x.1 r2 : Nat) : Int) < ((posn x.2 r2 : Nat) : Int))))))) (duoD) ?_)
    refine wi_seq ?_
    walk_at "e"
    refine ⟨_, (.l _), (prs c.length), rfl, by walk_at "so", fun x hx => ?_, fun zq => ?_⟩
    · obtain ⟨k0, k1, k2⟩ := mem_prs.mp (show (x.1, x.2) ∈ prs c.length from hx)
      have m1 : x.1 ∈ r1 := ho1.mem (by omega) (by omega)
      have m2 : x.2 ∈ r1 := ho1.mem (by omega) (by omega)
      have m3 : x.1 ∈ r2 := ho2.mem (by omega) (by omega)
      have m4 : x.2 ∈ r2 := ho2.mem (by omega) (by omega)
      intro s1 H1 C cl fp
      refine wg_tup (ds := [_, _]) rfl ?_
      refine wgs_cons ?_
      refine wg_name 6 sc_crossed.nd n6 (by walk_at "loc") (by first | exact .inl rfl | exact .inr rfl) (by decide) ?_
      refine wgs_cons ?_
      refine wg_name 7 sc_crossed.nd n7 (by walk_at "loc") (by first | exact .inl rfl | exact .inr rfl) (by decide) ?_
      refine wgs_nil ?_
      intro s1 H1 C cl fp
      show WT _ _ _ _ _
      refine wt_cmp (op := .NotEq) (op_neD (Room.units (k := 0) (by with_unfolding_all exact Room.mono (by assumption) (Nat.zero_le _)))) (nomark _) ?_
      refine we_cmp (op := .Lt) op_lt (nomark _) ?_
      refine we_index ?_
      walk_at "e"
      refine ⟨by walk_at "lk", ?_⟩
      walk_at "e"
      refine ⟨_, _, (.l _), (fun _ z => by cases z), rfl, by walk_at "so", ?_⟩
      refine we_index ?_
      walk_at "e"
      refine ⟨by walk_at "lk", ?_⟩
      walk_at "e"
      refine ⟨_, _, (.l _), (fun _ z => by cases z), rfl, by walk_at "so", ?_⟩
      refine ow_cmp ?_
      refine we_cmp (op := .Lt) op_lt (nomark _) ?_
      refine we_index ?_
      walk_at "e"
      refine ⟨by walk_at "lk", ?_⟩
      walk_at "e"
      refine ⟨_, _, (.l _), (fun _ z => by cases z), rfl, by walk_at "so", ?_⟩
      refine we_index ?_
      walk_at "e"
      refine ⟨by walk_at "lk", ?_⟩
      walk_at "e"
      refine ⟨_, _, (.l _), (fun _ z => by cases z), rfl, by walk_at "so", ?_⟩
      refine ow_cmp ?_
      refine ow_ne (.d _) (.d _) rfl rfl ⟨_, rfl, ?_⟩
      rw [eqv_dbool]
      refine ⟨rfl, ?_⟩
      split
      · rename_i h1
        intro s1 H1 C cl fp
        refine we_tup ?_
        refine wa_cons ?_
        walk_at "e"
        refine wa_one ?_
        walk_at "e"
        refine ⟨intsD [x.1, x.2], rfl, by simp, ?_⟩
        exact ⟨rfl, rfl⟩
      · rfl
    skip
    exact keep (hR zq)
theorem ok_distance {f : Addr} {fd : FuncData} (F : Fun K "distance" "distance" s_distance f fd) (B : Bl mg) (c_crossed : Cal P w K mg base 10 "crossed" T_cross) : FnG P w K mg base CX0 11 f fd ["company", "one", "other"] (spW K T_dist) := by
  refine fn_w F sc_distance (by decide) (fun xs μ R h => ?_) fun cdv A outer s H E hr hgd xs μ R hT => ?_
  · obtain ⟨dc, c, d1, r1, d2, r2, rfl, _⟩ := h
    rfl
  · obtain ⟨dc, c, d1, r1, d2, r2, rfl, hc, hl, hw, hq1, ho1, hq2, ho2, hR⟩ := hT
    refine wb_names (N := ["company", "one", "other"]) rfl fun hn => ?_
    have n0 := hn 0 _ rfl
    have n1 := hn 1 _ rfl
    have n2 := hn 2 _ rfl
    refine wb_one (ws_ret ?_)
    refine we_len B rfl ?_
    refine we_fz ?_
    refine we_callP c_crossed (by walk_at "room") rfl ?_
    refine wa_cons ?_
    walk_at "e"
    refine wa_cons ?_
    walk_at "e"
    refine wa_one ?_
    walk_at "e"
    refine ⟨_, _, _, _, _, _, rfl, by walk_at "so", by walk_at "so", by walk_at "so", by assumption, by walk_at "so", by assumption, by walk_at "so", fun p1 => ⟨p1, _, _, rfl, rfl, by walk_at "pl", ?_⟩⟩
    refine ⟨_, (.l _), ?_⟩
    rw [List.length_map]
    exact keep hR
theorem ok_behind {f : Addr} {fd : FuncData} (F : Fun K "behind" "behind" s_behind f fd) (B : Bl mg) (c1 : Cal P w K mg base 6 "comes_without" T_without) : FnG P w K mg base CX0 7 f fd ["company", "person"] (spW K T_behind) := by
  refine fn_w F sc_behind (by decide) (fun xs μ R h => ?_) fun cdv A outer s H E hr hgd xs μ R hT => ?_
  · obtain ⟨dc, c, p, rfl, _⟩ := h
    rfl
  · obtain ⟨dc, c, p, rfl, hc, hl, hR⟩ := hT
    refine wb_names (N := ["company", "person", "there", "other"]) rfl fun hn => ?_
    have n0 := hn 0 _ rfl
    have n1 := hn 1 _ rfl
    have n2 := hn 2 _ rfl
    have n3 := hn 3 _ rfl
    obtain ⟨ds, sq, al⟩ := hc.sq
    have hlen := allD_len al
    refine wb_cons ?_
    refine ws_set 2 sc_behind.nd n2 (by walk_at "loc") (by first | exact .inl rfl | exact .inr rfl) ?_
    refine we_callP c1 (by walk_at "room") rfl ?_
    refine wa_cons ?_
    walk_at "e"
    refine wa_one ?_
    refine we_tup (wa_one ?_)
    walk_at "e"
    refine ⟨_, rfl, by simp, ?_⟩
    refine ⟨dc, c, _, [p], rfl, hc, .inr rfl, by omega, ?_⟩
    refine wb_one (ws_ret ?_)
    refine we_lc [("other", 3)] rfl sc_behind.nd (blkOk_by (N := ["company", "person", "there", "other"]) (sc := defScope s_behind) (by decide +kernel)) (lcP PyData.int (fun o => !decide (o = p) && !decide (o ∈ cl c [] [p])) PyData.int ?_)
    refine wi_range1 rfl B.range ?_
    refine wa_one (we_len B rfl ?_)
    walk_at "e"
    refine ⟨ds, ct_sq sq, _, rfl, by omega, by omega, rng c.length, ?_, by rw [rng_len]; omega, fun x _ => ?_, fun q => ?_⟩
    · rw [Int.toNat_natCast, rangeD_eq, hlen]
    · intro s1 H1 C cl fp
      refine wg_name 3 sc_behind.nd n3 (by walk_at "loc") (by first | exact .inl rfl | exact .inr rfl) (by decide) ?_
      intro s1 H1 C cl fp
      show WT _ _ _ _ _
      walk_at "t"
      walk_at "t"
      walk_at "go"
      refine ow_ne (.d _) (.d _) rfl rfl ⟨_, rfl, ?_⟩
      have e1 : (!PyData.eqv (.int x) (.int p)) = !decide (x = p) := by
        simp only [PyData.eqv]
        congr 1
      rw [e1]
      split
      · rename_i h1
        walk_at "t"
        walk_at "t"
        walk_at "go"
        refine ow_ni (.t _) rfl (flat_ints _) ⟨_, rfl, by rw [inD_int, h1, Bool.true_and], ?_⟩
        rw [inD_int]
        split
        · intro s1 H1 C cl fp
          walk_at "e"
          exact ⟨rfl, rfl⟩
        · rfl
      · rename_i h1
        refine ⟨by rw [Bool.eq_false_iff.mpr h1, Bool.false_and], ?_⟩
        rw [if_neg (by decide)]
    · exact keep (hR q)
theorem ok_must_before {f : Addr} {fd : FuncData} (F : Fun K "must_before" "must_before" s_must_before f fd) (B : Bl mg) (c1 : Cal P w K mg base 8 "look_whole" T_lookw) (c2 : Cal P w K mg base 7 "behind" T_behind) : FnG P w K mg base CX0 9 f fd ["company"] (spW K T_mb) := by
  refine fn_w F sc_must_before (by decide) (fun xs μ R h => ?_) fun cdv A outer s H E hr hgd xs μ R hT => ?_
  · obtain ⟨dc, c, rfl, _⟩ := h
    rfl
  · obtain ⟨dc, c, rfl, hc, hl, hw, hR⟩ := hT
    refine wb_names (N := ["company", "found", "person", "other"]) rfl fun hn => ?_
    have n0 := hn 0 _ rfl
    have n1 := hn 1 _ rfl
    have n2 := hn 2 _ rfl
    have n3 := hn 3 _ rfl
    obtain ⟨ds, sq, al⟩ := hc.sq
    have hlen := allD_len al
    refine wb_cons (ws_expr ?_)
    refine we_callP c1 (by walk_at "room") rfl ?_
    walk_at "go"
    refine ⟨dc, c, rfl, hc, by omega, hw, ?_⟩
    refine wb_cons ?_
    refine ws_set 1 sc_must_before.nd n1 (by walk_at "loc") (by first | exact .inl rfl | exact .inr rfl) ?_
    refine we_lst (wa_nil ⟨[], rfl, by decide, fun p1 => ?_⟩)
    refine wb_cons ?_
    refine ws_for [2] PassesOwn.never rfl ?_
    refine wi_range1 rfl B.range ?_
    refine wa_one (we_len B rfl ?_)
    walk_at "e"
    refine ⟨ds, ct_sq sq, _, rfl, by omega, by omega, ?_⟩
    rw [Int.toNat_natCast, rangeD_eq, hlen]
    have lle : ∀ l : List Int, (l.flatMap fun p => (bh c p).map fun o => (p, o)).length ≤ l.length * c.length := fun l => flat_le _ c.length l fun x _ => by
      rw [List.length_map]
      exact bh_le c x
    refine ⟨fun i δ' μ' => ∃ x2, δ' = [some (.d dc), some (.a p1), x2, none] ∧ μ' = ((p1, (((rng c.length).take i).flatMap fun p => (bh c p).map fun o => (p, o)).map duoD) :: μ : Cells), ⟨none, rfl, rfl⟩, fun i d δ' μ' hd hI => ?_, fun δ' μ' hI => ?_⟩
    · obtain ⟨x2, rfl, rfl⟩ := hI
      have hi : i < c.length := by
        have := (List.getElem?_eq_some_iff.mp hd).1
        rw [List.length_map, rng_len] at this
        exact this
      have hd' : d = .int (i : Int) := by
        unfold intsD rng at hd
        rw [List.getElem?_map, List.getElem?_map, List.getElem?_range hi] at hd
        cases hd
        rfl
      subst hd'
      refine wg_name 2 sc_must_before.nd n2 (by walk_at "loc") (by first | exact .inl rfl | exact .inr rfl) (by decide) ?_
      refine wb_cons (ws_expr ?_)
      refine we_extend ?_
      walk_at "e"
      refine ⟨p1, _, ⟨0, rfl⟩, rfl, ?_⟩
      refine we_lc [("other", 3)] rfl sc_must_before.nd (blkOk_by (N := ["company", "found", "person", "other"]) (sc := defScope s_must_before) (by decide +kernel)) (lcP PyData.int (fun _ => true) (fun o => duoD ((i : Int), o)) ?_)
      refine wi_seq (we_fz (we_callP c2 (by walk_at "room") rfl ?_))
      walk_at "go"
      refine ⟨dc, c, _, rfl, hc, hl, fun q => ⟨q, _, _, rfl, rfl, plS_map (fun _ => rfl), _, .l _, bh c (i : Int), rfl, ?_, fun x hx => ?_, fun q2 => ?_⟩⟩
      · exact Nat.le_trans (bh_le c _) (by omega)
      · intro s1 H1 C cl fp
        refine wg_name 3 sc_must_before.nd n3 (by walk_at "loc") (by first | exact .inl rfl | exact .inr rfl) (by decide) ?_
        intro s1 H1 C cl fp
        refine ⟨rfl, itT rfl ?_⟩
        intro s1 H1 C cl fp
        refine we_tup (wa_two ?_)
        walk_at "go"
        exact ⟨_, rfl, by simp, rfl, rfl⟩
      rw [filt_all]
      have tk : (rng c.length).take (i + 1) = (rng c.length).take i ++ [(i : Int)] := rng_take_succ hi
      have hle := lle ((rng c.length).take (i + 1))
      rw [List.length_take, rng_len] at hle
      rw [tk, List.flatMap_append, List.length_append, List.flatMap_singleton, List.length_map] at hle
      have hz : min (i + 1) c.length * c.length ≤ 63 * 63 := Nat.mul_le_mul (Nat.le_trans (Nat.min_le_right _ _) (by omega)) (by omega)
      refine ⟨q2, _, _, 1, 0, rfl, rfl, rfl, by rw [List.length_map, List.length_map]; omega, ?_⟩
      refine wb_nilK (keep_drop (keep ⟨_, rfl, ?_⟩))
      rw [tk, List.flatMap_append, List.flatMap_singleton, List.map_append, List.map_map]
      rfl
    · obtain ⟨x2, rfl, rfl⟩ := hI
      rw [List.length_map, List.take_length]
      refine wb_one (ws_ret ?_)
      walk_at "e"
      exact keep (hR p1)
theorem ok_free_pairs {f : Addr} {fd : FuncData} (F : Fun K "free_pairs" "free_pairs" s_free_pairs f fd) (B : Bl mg) (c1 : Cal P w K mg base 9 "must_before" T_mb) (c2 : Cal P w K mg base 1 "pairs_of" T_pairs) : FnG P w K mg base CX0 10 f fd ["company"] (spW K T_free) := by
  refine fn_w F sc_free_pairs (by decide) (fun xs μ R h => ?_) fun cdv A outer s H E hr hgd xs μ R hT => ?_
  · obtain ⟨dc, c, rfl, _⟩ := h
    rfl
  · obtain ⟨dc, c, rfl, hc, hl, hw, hR⟩ := hT
    refine wb_names (N := ["company", "bound", "pairs", "low", "high"]) rfl fun hn => ?_
    have n0 := hn 0 _ rfl
    have n1 := hn 1 _ rfl
    have n2 := hn 2 _ rfl
    have n3 := hn 3 _ rfl
    have n4 := hn 4 _ rfl
    obtain ⟨ds, sq, al⟩ := hc.sq
    have hlen := allD_len al
    refine wb_cons ?_
    refine ws_set 1 sc_free_pairs.nd n1 (by walk_at "loc") (by first | exact .inl rfl | exact .inr rfl) ?_
    refine we_fz (we_callP c1 (by walk_at "room") rfl ?_)
    walk_at "go"
    refine ⟨dc, c, rfl, hc, by omega, hw, fun q => ⟨q, _, _, rfl, rfl, plS_map (fun _ => rfl), ?_⟩⟩
    refine wb_cons ?_
    refine ws_set 2 sc_free_pairs.nd n2 (by walk_at "loc") (by first | exact .inl rfl | exact .inr rfl) ?_
    refine we_fz (we_callP c2 (by walk_at "room") rfl ?_)
    refine wa_one (we_len B rfl ?_)
    walk_at "e"
    refine ⟨ds, ct_sq sq, c.length, by rw [hlen], hl, fun q => ⟨q, _, _, rfl, rfl, plS_map (fun _ => rfl), ?_⟩⟩
    refine wb_one (ws_ret ?_)
    refine we_lc [("low", 3), ("high", 4)] rfl sc_free_pairs.nd (blkOk_by (N := ["company", "bound", "pairs", "low", "high"]) (sc := defScope s_free_pairs) (by decide +kernel)) (lcP duoD (fun q => !decide (q ∈ mb c) && !decide ((q.2, q.1) ∈ mb c)) duoD ?_)
    refine wi_seq ?_
    walk_at "e"
    have hp : (prs c.length).length ≤ 60 * 60 := by
      have := flat_le (fun lo : Int => ((rng c.length).filter fun h => decide (lo < h)).map fun h => (lo, h)) c.length (rng c.length) fun x _ => by
        rw [List.length_map]
        refine Nat.le_trans (List.length_filter_le _ _) ?_
        rw [rng_len]
        exact Nat.le_refl _
      rw [rng_len] at this
      exact Nat.le_trans this (Nat.mul_le_mul hl hl)
    refine ⟨_, .l _, prs c.length, rfl, by omega, fun x hx => ?_, fun q => ?_⟩
    · obtain ⟨x1, x2⟩ := x
      intro s1 H1 C cl fp
      refine wg_tup (ds := [_, _]) rfl ?_
      refine wgs_cons (wg_name 3 sc_free_pairs.nd n3 (by walk_at "loc") (by first | exact .inl rfl | exact .inr rfl) (by decide) ?_)
      refine wgs_cons (wg_name 4 sc_free_pairs.nd n4 (by walk_at "loc") (by first | exact .inl rfl | exact .inr rfl) (by decide) ?_)
      refine wgs_nil ?_
      intro s1 H1 C cl fp
      show WT _ _ _ _ _
      walk_at "t"
      refine wt_cmp (op := .NotIn) (op_notInD (room65 (k := 0) (by with_unfolding_all exact Room.mono (by assumption) (Nat.zero_le _)))) rfl ?_
      refine we_tup (wa_two ?_)
      walk_at "go"
      refine ⟨_, rfl, by simp, ?_⟩
      walk_at "go"
      refine ow_niD (.d _) (.d _) (fits_shaped (pr_fits (x1, x2))) (prs_shaped (mb c)) ⟨_, rfl, ?_⟩
      rw [inD_pr]
      split
      · rename_i h1
        walk_at "t"
        refine wt_cmp (op := .NotIn) (op_notInD (room65 (k := 0) (by with_unfolding_all exact Room.mono (by assumption) (Nat.zero_le _)))) rfl ?_
        refine we_tup (wa_two ?_)
        walk_at "go"
        refine ⟨_, rfl, by simp, ?_⟩
        walk_at "go"
        refine ow_niD (.d _) (.d _) (fits_shaped (pr_fits (x2, x1))) (prs_shaped (mb c)) ⟨_, rfl, ?_⟩
        rw [inD_pr]
        refine ⟨by rw [h1, Bool.true_and], ?_⟩
        split
        · intro s1 H1 C cl fp
          refine we_tup (wa_two ?_)
          walk_at "go"
          exact ⟨_, rfl, by simp, rfl, rfl⟩
        · rfl
      · rename_i h1
        refine ⟨by rw [Bool.eq_false_iff.mpr h1, Bool.false_and], ?_⟩
        rw [if_neg (by decide)]
    · exact keep (hR q)
theorem ok_earlier_people {f : Addr} {fd : FuncData} (F : Fun K "earlier_people" "earlier_people" s_earlier_people f fd) (B : Bl mg) (c1 : Cal P w K mg base 8 "look_whole" T_lookw) (c2 : Cal P w K mg base 1 "look_person" T_lookp) (c3 : Cal P w K mg base 7 "behind" T_behind) : FnG P w K mg base CX0 9 f fd ["company", "person"] (spW K T_earlier) := by
  refine fn_w F sc_earlier_people (by decide) (fun xs μ R h => ?_) fun cdv A outer s H E hr hgd xs μ R hT => ?_
  · obtain ⟨dc, c, p, rfl, _⟩ := h
    rfl
  · obtain ⟨dc, c, p, rfl, hc, hl, hw, h0, h1, hR⟩ := hT
    refine wb_names (N := ["company", "person", "others", "other"]) rfl fun hn => ?_
    have n0 := hn 0 _ rfl
    have n1 := hn 1 _ rfl
    have n2 := hn 2 _ rfl
    have n3 := hn 3 _ rfl
    obtain ⟨ds, sq, al⟩ := hc.sq
    have hlen := allD_len al
    refine wb_cons (ws_expr ?_)
    refine we_callP c1 (by walk_at "room") rfl ?_
    walk_at "go"
    refine ⟨dc, c, rfl, hc, by omega, hw, ?_⟩
    refine wb_cons (ws_expr ?_)
    refine we_callP c2 (by walk_at "room") rfl ?_
    walk_at "go"
    refine ⟨dc, c, p, rfl, hc, h0, h1, ?_⟩
    refine wb_cons ?_
    refine ws_setLc 2 [("other", 3)] rfl sc_earlier_people.nd n2 rfl (sw_true rfl rfl rfl (by decide +kernel)) (blkOk_by (N := ["company", "person", "others", "other"]) (sc := defScope s_earlier_people) (by decide +kernel)) (lcP PyData.int (fun o => !decide (o = p)) PyData.int ?_)
    refine wi_range1 rfl B.range ?_
    refine wa_one (we_len B rfl ?_)
    walk_at "e"
    refine ⟨ds, ct_sq sq, _, rfl, by omega, by omega, rng c.length, ?_, by rw [rng_len]; omega, fun x _ => ?_, fun q => ?_⟩
    · rw [Int.toNat_natCast, rangeD_eq, hlen]
    · intro s1 H1 C cl fp
      refine wg_name 3 sc_earlier_people.nd n3 (by walk_at "loc") (by first | exact .inl rfl | exact .inr rfl) (by decide) ?_
      intro s1 H1 C cl fp
      show WT _ _ _ _ _
      walk_at "t"
      walk_at "go"
      refine ow_ne (.d _) (.d _) rfl rfl ⟨_, rfl, ?_⟩
      refine ⟨?_, ?_⟩
      · simp only [PyData.eqv]
        congr 1
      split
      · intro s1 H1 C cl fp
        walk_at "e"
        exact ⟨rfl, rfl⟩
      · rfl
    refine wb_frz 0 [2] rfl (fun j hj => by cases List.mem_singleton.mp hj; rfl) ?_
    refine wb_one (ws_ret ?_)
    refine we_tuple B rfl ?_
    refine we_lcQ [("other", 3)] rfl sc_earlier_people.nd (blkOk_by (N := ["company", "person", "others", "other"]) (sc := defScope s_earlier_people) (by decide +kernel)) ?_
    refine wi_seq ?_
    walk_at "e"
    have hol : ((rng c.length).filter fun o => !decide (o = p)).length ≤ c.length := by
      refine Nat.le_trans (List.length_filter_le _ _) ?_
      rw [rng_len]
      exact Nat.le_refl _
    refine ⟨_, .l _, ?_⟩
    generalize hos : ((rng c.length).filter fun o => !decide (o = p)) = os at hol
    refine ⟨fun i acc μ' => acc = intsD ((os.take i).filter fun o => decide (p ∈ bh c o)) ∧ ∃ g, μ' = g ++ μ, ⟨rfl, [], rfl⟩, by rw [List.length_map]; omega, fun i acc μ' hI => ?_, fun i d acc μ' hd hI => ?_, fun acc μ' hI q => ?_⟩
    · rw [hI.1, List.length_map]
      refine Nat.le_trans (List.length_filter_le _ _) ?_
      rw [List.length_take]
      exact Nat.min_le_left _ _
    · obtain ⟨rfl, g, rfl⟩ := hI
      obtain ⟨o, ho, rfl⟩ : ∃ o, os[i]? = some o ∧ d = .int o := by
        rw [List.getElem?_map] at hd
        cases q : os[i]? with
        | none =>
          rw [q] at hd
          cases hd
        | some o =>
          rw [q] at hd
          cases hd
          exact ⟨o, rfl, rfl⟩
      have tk : os.take (i + 1) = os.take i ++ [o] := by rw [List.take_add_one, ho]; rfl
      intro s1 H1 C cl fp
      refine wg_name 3 sc_earlier_people.nd n3 (by walk_at "loc") (by first | exact .inl rfl | exact .inr rfl) (by decide) ?_
      intro s1 H1 C cl fp
      show WT _ _ _ _ _
      walk_at "t"
      walk_at "go"
      refine we_fz (we_callP c3 (by walk_at "room") rfl ?_)
      walk_at "go"
      refine ⟨dc, c, o, rfl, hc, hl, fun q => ⟨q, _, _, rfl, rfl, plS_map (fun _ => rfl), ?_⟩⟩
      refine ow_in (.l _) rfl (flat_ints _) ⟨_, rfl, ?_⟩
      rw [inD_int]
      split
      · rename_i h3
        intro s1 H1 C cl fp
        walk_at "e"
        refine ⟨(by intros; simp), ?_, g, rfl⟩
        have h4 : p ∈ bh c o := of_decide_eq_true h3
        rw [tk, List.filter_append, List.filter_cons, if_pos (decide_eq_true h4)]
        simp [toC, intsD]
      · rename_i h3
        refine ⟨?_, g, rfl⟩
        have h4 : p ∉ bh c o := by simpa using h3
        rw [tk, List.filter_append, List.filter_cons, if_neg (by simp [h4])]
        simp
    · obtain ⟨rfl, g, rfl⟩ := hI
      rw [List.length_map, List.take_length]
      refine ⟨_, .c 0 rfl, ?_⟩
      unfold er at hR
      rw [hos] at hR
      exact keep_drop ⟨g, μ, List.Perm.refl _, hR⟩
theorem ok_later_people {f : Addr} {fd : FuncData} (F : Fun K "later_people" "later_people" s_later_people f fd) (B : Bl mg) (c1 : Cal P w K mg base 8 "look_whole" T_lookw) (c2 : Cal P w K mg base 1 "look_person" T_lookp) (c3 : Cal P w K mg base 7 "behind" T_behind) : FnG P w K mg base CX0 9 f fd ["company", "person"] (spW K T_later) := by
  refine fn_w F sc_later_people (by decide) (fun xs μ R h => ?_) fun cdv A outer s H E hr hgd xs μ R hT => ?_
  · obtain ⟨dc, c, p, rfl, _⟩ := h
    rfl
  · obtain ⟨dc, c, p, rfl, hc, hl, hw, h0, h1, hR⟩ := hT
    refine wb_names (N := ["company", "person"]) rfl fun hn => ?_
    have n0 := hn 0 _ rfl
    have n1 := hn 1 _ rfl
    refine wb_cons (ws_expr ?_)
    refine we_callP c1 (by walk_at "room") rfl ?_
    walk_at "go"
    refine ⟨dc, c, rfl, hc, by omega, hw, ?_⟩
    refine wb_cons (ws_expr ?_)
    refine we_callP c2 (by walk_at "room") rfl ?_
    walk_at "go"
    refine ⟨dc, c, p, rfl, hc, h0, h1, ?_⟩
    refine wb_one (ws_ret ?_)
    refine we_tuple B rfl ?_
    refine we_callP c3 (by walk_at "room") rfl ?_
    walk_at "go"
    refine ⟨dc, c, p, rfl, hc, hl, fun q => ⟨_, .c 0 rfl, ?_⟩⟩
    exact keep_drop (keep hR)
theorem ok_latest_place {f : Addr} {fd : FuncData} (F : Fun K "latest_place" "latest_place" s_latest_place f fd) (B : Bl mg) (c1 : Cal P w K mg base 8 "look_whole" T_lookw) (c2 : Cal P w K mg base 1 "look_person" T_lookp) (c3 : Cal P w K mg base 6 "comes_without" T_without) : FnG P w K mg base CX0 9 f fd ["company", "person"] (spW K T_latest) := by
  refine fn_w F sc_latest_place (by decide) (fun xs μ R h => ?_) fun cdv A outer s H E hr hgd xs μ R hT => ?_
  · obtain ⟨dc, c, p, rfl, _⟩ := h
    rfl
  · obtain ⟨dc, c, p, rfl, hc, hl, hw, h0, h1, hR⟩ := hT
    refine wb_names (N := ["company", "person"]) rfl fun hn => ?_
    have n0 := hn 0 _ rfl
    have n1 := hn 1 _ rfl
    refine wb_cons (ws_expr ?_)
    refine we_callP c1 (by walk_at "room") rfl ?_
    walk_at "go"
    refine ⟨dc, c, rfl, hc, by omega, hw, ?_⟩
    refine wb_cons (ws_expr ?_)
    refine we_callP c2 (by walk_at "room") rfl ?_
    walk_at "go"
    refine ⟨dc, c, p, rfl, hc, h0, h1, ?_⟩
    refine wb_one (ws_ret ?_)
    refine we_len B rfl ?_
    refine we_callP c3 (by walk_at "room") rfl ?_
    refine wa_cons ?_
    walk_at "e"
    refine wa_one ?_
    refine we_tup (wa_one ?_)
    walk_at "e"
    refine ⟨_, rfl, by simp, ?_⟩
    refine ⟨dc, c, _, [p], rfl, hc, .inr rfl, by omega, ?_⟩
    refine ⟨_, .t _, ?_⟩
    rw [List.length_map]
    exact keep hR
theorem ok_is_invitation {f : Addr} {fd : FuncData} (F : Fun K "is_invitation" "is_invitation" s_is_invitation f fd) (B : Bl mg) (c_never : Cal P w K mg base 7 "never" T_never) (c_invited : Cal P w K mg base 3 "invited" T_inv) : FnG P w K mg base CX0 8 f fd ["company", "people"] (spW K T_isinv) := by
  refine fn_w F sc_is_invitation (by decide) (fun xs μ R h => ?_) fun cdv A outer s H E hr hgd xs μ R hT => ?_
  · obtain ⟨dc, c, dp, t, rfl, _⟩ := h
    rfl
  · obtain ⟨dc, c, dp, t, rfl, hc, hs, hr, hl, hR⟩ := hT
    refine wb_names (N := ["company", "people"]) rfl fun hn => ?_
    have n0 := hn 0 _ rfl
    have n1 := hn 1 _ rfl
    have hil := inv_len t c
    have hci := coD_ok' (c := inv c t) (by omega) (inv_frs t hr hc.frs)
    refine wb_one (ws_ret ?_)
    refine we_cmp (op := .Eq) (op_eqD (Room.units (k := 0) (by with_unfolding_all exact Room.mono (by assumption) (Nat.zero_le _)))) (nomark _) ?_
    refine we_len B rfl ?_
    refine we_callP c_never (by walk_at "room") rfl ?_
    refine wa_one ?_
    refine we_callP c_invited (by walk_at "room") rfl ?_
    refine wa_cons ?_
    walk_at "e"
    refine wa_one ?_
    walk_at "e"
    refine ⟨_, _, _, t, rfl, by walk_at "so", by assumption, hr, ?_⟩
    refine ⟨_, inv c t, rfl, by walk_at "so", by omega, ?_⟩
    refine ⟨_, (.t _), ?_⟩
    rw [List.length_map]
    walk_at "e"
    refine ow_eq (.d _) (.d _) rfl rfl ?_
    rw [eqv_dint]
    rw [isInv_len]
    exact keep hR
theorem ok_sets_of {f : Addr} {fd : FuncData} (F : Fun K "sets_of" "sets_of" s_sets_of f fd) (B : Bl mg) : FnG P w K mg base CX0 1 f fd ["size", "many"] (spW K T_setsof) := by
  refine fn_w F sc_sets_of (by decide) (fun xs μ R h => ?_) fun cdv A outer s H E hr hgd xs μ R hT => ?_
  · obtain ⟨n, k, rfl, _⟩ := h
    rfl
  · obtain ⟨n, k, rfl, hn12, hk, hR⟩ := hT
    refine wb_names (N := ["size", "many", "found", "turn", "longer", "some", "begin", "person"]) rfl fun hn => ?_
    have n0 := hn 0 _ rfl
    have n1 := hn 1 _ rfl
    have n2 := hn 2 _ rfl
    have n3 := hn 3 _ rfl
    have n4 := hn 4 _ rfl
    have n5 := hn 5 _ rfl
    have n6 := hn 6 _ rfl
    have n7 := hn 7 _ rfl
    refine wb_cons ?_
    refine ws_set 2 sc_sets_of.nd n2 (by walk_at "loc") (by first | exact .inl rfl | exact .inr rfl) ?_
    refine we_lst ?_
    refine wa_one ?_
    refine we_tup (wa_nil ?_)
    refine ⟨[], rfl, by simp, ?_⟩
    refine ⟨[.tuple []], rfl, by simp, fun p0 => ?_⟩
    refine wb_cons ?_
    refine ws_for [3] PassesOwn.never rfl ?_
    refine wi_rng rfl B.range ?_
    walk_at "e"
    refine ⟨k, rfl, by walk_at "so", fun i δ' μ' => ∃ pf x3 x4 x5 x6 x7, δ' = [some (.d (.int ((n : Nat) : Int))), some (.d (.int ((k : Nat) : Int))), some (.a pf), x3, x4, x5, x6, x7] ∧ μ' = ((pf, (tups (pks n i))) :: μ : Cells) ∧ True, ⟨p0, _, _, _, _, _, rfl, rfl, trivial⟩, fun i d δ' μ' hd hI => ?_, fun δ' μ' hI => ?_⟩
    · obtain ⟨pf, x3, x4, x5, x6, x7, rfl, rfl, _⟩ := hI
      obtain ⟨hi, rfl⟩ := rng_item hd
      refine wg_name 3 sc_sets_of.nd n3 (by walk_at "loc") (by first | exact .inl rfl | exact .inr rfl) (by decide) ?_
      refine wb_cons ?_
      refine ws_set 4 sc_sets_of.nd n4 (by walk_at "loc") (by first | exact .inl rfl | exact .inr rfl) ?_
      refine we_lst ?_
      refine wa_nil ?_
      refine ⟨[], rfl, by simp, fun p1 => ?_⟩
      refine wb_cons ?_
      refine ws_forC [5] 2 PassesOwn.never rfl rfl (by with_unfolding_all exact Or.inl rfl) rfl (plS_map fun _ => rfl) (List.mem_of_getElem? (i := 1) rfl) ?_
      refine ⟨fun j δ' μ' => ∃ x5 x6 x7, δ' = [some (.d (.int ((n : Nat) : Int))), some (.d (.int ((k : Nat) : Int))), some (.a pf), some (.d (.int ((i : Nat) : Int))), some (.a p1), x5, x6, x7] ∧ μ' = ((p1, (tups (((pks n i).take j).flatMap (moreP n)))) :: (pf, (tups (pks n i))) :: μ : Cells) ∧ True, ⟨_, _, _, rfl, rfl, trivial⟩, fun _ δ' μ' hI => ?_, fun j d δ' μ' hd hI => ?_, fun δ' μ' hI => ?_⟩
      · obtain ⟨x5, x6, x7, rfl, rfl, _⟩ := hI
        exact List.mem_of_getElem? (i := 1) rfl
      · obtain ⟨x5, x6, x7, rfl, rfl, _⟩ := hI
        obtain ⟨x, hx, rfl⟩ := map_item hd
        have hxm := (mem_pks.mp (List.mem_of_getElem? hx)).1
        have hxl : x.length ≤ 12 := Nat.le_trans (sub_len hxm) hn12
        obtain ⟨ha0, ha1, _⟩ := hxm.aft
        have hfl := pks_room hx hn12
        have hml : (moreP n x).length = ((n : Int) - aft x).toNat := by unfold moreP; rw [List.length_map, List.length_range]
        refine wg_name 5 sc_sets_of.nd n5 (by walk_at "loc") (by first | exact .inl rfl | exact .inr rfl) (by decide) ?_
        refine wb_cons ?_
        refine ws_set 6 sc_sets_of.nd n6 (by walk_at "loc") (by first | exact .inl rfl | exact .inr rfl) ?_
        refine we_is (.d (.int (aft x))) ?_ ?_
        · skip
          by_cases hx0 : x = []
          · skip
            refine we_if ?_
            refine wt_cmp (op := .Gt) op_gt (nomark _) ?_
            refine we_len B rfl ?_
            walk_at "e"
            refine ⟨_, (.t _), ?_⟩
            rw [List.length_map]
            walk_at "e"
            refine ow_cmp ⟨_, rfl, ?_⟩
            refine itF (by rw [hx0]; rfl) ?_
            walk_at "e"
            exact ⟨by rw [hx0]; rfl, rfl⟩
          · skip
            refine we_if ?_
            refine wt_cmp (op := .Gt) op_gt (nomark _) ?_
            refine we_len B rfl ?_
            walk_at "e"
            refine ⟨_, (.t _), ?_⟩
            rw [List.length_map]
            walk_at "e"
            refine ow_cmp ⟨_, rfl, ?_⟩
            refine itT (decide_eq_true (by have := List.length_pos_iff.mpr hx0; omega)) ?_
            walk_at "e"
            walk_at "e"
            walk_at "e"
            walk_at "e"
            walk_at "e"
            refine uw_neg ?_
            refine ow_ix (.t _) (atI_lastI hx0) ?_
            walk_at "e"
            refine ow_add ?_
            exact ⟨by rw [aft_last hx0], rfl⟩
        refine wb_cons (ws_expr ?_)
        refine we_extend ?_
        walk_at "e"
        refine ⟨p1, _, ⟨0, rfl⟩, rfl, ?_⟩
        refine we_lc [("person", 7)] rfl sc_sets_of.nd (blkOk_by (N := ["size", "many", "found", "turn", "longer", "some", "begin", "person"]) (sc := defScope s_sets_of) (by decide +kernel)) (lcP (fun i : Nat => .int (aft x + (i : Int))) (fun _ => true) (fun y : Nat => .tuple (intsD (x ++ [aft x + (y : Int)]))) ?_)
        refine wi_range2 rfl B.range ?_
        refine wa_two ?_
        walk_at "e"
        walk_at "e"
        refine ⟨_, _, rfl, by walk_at "so", by walk_at "so", by walk_at "so", by walk_at "so", (List.range ((n : Int) - aft x).toNat), rfl, by rw [List.length_range]; omega, fun y hx => ?_, fun zq => ?_⟩
        · skip
          intro s1 H1 C kl fp
          refine wg_name 7 sc_sets_of.nd n7 (by walk_at "loc") (by first | exact .inl rfl | exact .inr rfl) (by decide) ?_
          intro s1 H1 C kl fp
          refine wts_nil ⟨rfl, itT rfl ?_⟩
          intro s1 H1 C kl fp
          walk_at "e"
          walk_at "e"
          refine we_tup ?_
          refine wa_one ?_
          walk_at "e"
          refine ⟨intsD [(aft x + (y : Int))], rfl, by simp, ?_⟩
          refine ow_catT (by simp; omega) ?_
          rw [← ints_app]
          exact ⟨rfl, rfl⟩
        rw [filt_all]
        skip
        refine ⟨_, _, _, 1, 0, rfl, rfl, rfl, by rw [List.length_map, List.length_map, List.length_range]; omega, ?_⟩
        refine wb_drop ?_
        refine wb_nil ?_
        exact ⟨_, _, _, rfl, by rw [pks_take hx, tups_more]; rfl, trivial⟩
      · rw [List.length_map _] at hI
        obtain ⟨x5, x6, x7, rfl, rfl, _⟩ := hI
        refine wb_cons ?_
        refine ws_set 2 sc_sets_of.nd n2 (by walk_at "loc") (by first | exact .inl rfl | exact .inr rfl) ?_
        walk_at "e"
        rw [List.take_length]
        refine wb_frz 1 [] rfl (fun j hj => by cases hj) ?_
        refine wb_nil ?_
        exact ⟨p1, _, _, _, _, _, rfl, rfl, trivial⟩
    · rw [rng_items _] at hI
      obtain ⟨pf, x3, x4, x5, x6, x7, rfl, rfl, _⟩ := hI
      refine wb_one (ws_ret ?_)
      walk_at "e"
      exact keep (hR _)
theorem ok_first_invitation {f : Addr} {fd : FuncData} (F : Fun K "first_invitation" "first_invitation" s_first_invitation f fd) (B : Bl mg) (i_MOST_PEOPLE : ∃ t, mg "MOST_PEOPLE" = some (.int 12 t)) (c_sets_of : Cal P w K mg base 1 "sets_of" T_setsof) (c_is_invitation : Cal P w K mg base 8 "is_invitation" T_isinv) : FnG P w K mg base CX0 9 f fd ["company"] (spW K T_fi) := by
  refine fn_w F sc_first_invitation (by decide) (fun xs μ R h => ?_) fun cdv A outer s H E hr hgd xs μ R hT => ?_
  · obtain ⟨dc, c, rfl, _⟩ := h
    rfl
  · obtain ⟨dc, c, rfl, hc, hl, hR⟩ := hT
    refine wb_names (N := ["company", "many", "people"]) rfl fun hn => ?_
    have n0 := hn 0 _ rfl
    have n1 := hn 1 _ rfl
    have n2 := hn 2 _ rfl
    obtain ⟨ds, hd0, al⟩ := hc.sq
    have hlen := allD_len al
    refine wb_cons (ws_if ?_)
    refine wt_cmp (op := .Gt) op_gt (nomark _) ?_
    refine we_len B rfl ?_
    walk_at "e"
    refine ⟨_, (ct_sq (by assumption)), ?_⟩
    rw [hlen]
    refine we_gint rfl i_MOST_PEOPLE ?_
    refine ow_cmp ⟨_, rfl, ?_⟩
    refine itF (decide_eq_false (by omega)) ?_
    refine wb_nil ?_
    refine wb_cons ?_
    refine ws_for [1] PassesOwn.never rfl ?_
    refine wi_rng rfl B.range ?_
    walk_at "e"
    refine we_len B rfl ?_
    walk_at "e"
    refine ⟨_, (ct_sq (by assumption)), ?_⟩
    rw [hlen]
    walk_at "e"
    refine ow_add ?_
    rw [show (((c.length : Nat) : Int) + 1) = ((c.length + 1 : Nat) : Int) from rfl]
    refine ⟨(c.length + 1), rfl, by walk_at "so", fun i δ' μ' => ∃ x1 x2, δ' = [some (.d dc), x1, x2] ∧ μ' = μ ∧ ∀ s ∈ begS c.length i, isInv c s = false, ⟨_, _, rfl, rfl, (fun s m => by cases m)⟩, fun i d δ' μ' hd hI => ?_, fun δ' μ' hI => ?_⟩
    · obtain ⟨x1, x2, rfl, hmu, hno⟩ := hI
      obtain rfl := hmu.symm
      obtain ⟨hi, rfl⟩ := rng_item hd
      refine wg_name 1 sc_first_invitation.nd n1 (by walk_at "loc") (by first | exact .inl rfl | exact .inr rfl) (by decide) ?_
      refine wb_cons ?_
      refine ws_for [2] PassesOwn.never rfl ?_
      refine wi_seq ?_
      refine we_fz ?_
      refine we_callP c_sets_of (by walk_at "room") rfl ?_
      refine wa_cons ?_
      refine we_len B rfl ?_
      walk_at "e"
      refine ⟨_, (ct_sq (by assumption)), ?_⟩
      rw [hlen]
      refine wa_one ?_
      walk_at "e"
      refine ⟨c.length, i, rfl, hl, by omega, fun p1 => ⟨p1, _, _, rfl, rfl, by walk_at "pl", ?_⟩⟩
      refine ⟨_, (.l _), fun j δ' μ' => ∃ x2, δ' = [some (.d dc), some (.d (.int ((i : Nat) : Int))), x2] ∧ μ' = μ ∧ ∀ s ∈ begS c.length i ++ (pks c.length i).take j, isInv c s = false, ⟨_, rfl, rfl, (by rw [List.take_zero, List.append_nil]; exact hno)⟩, fun j d δ' μ' hd hI => ?_, fun δ' μ' hI => ?_⟩
      · obtain ⟨x2, rfl, hmu, hnj⟩ := hI
        obtain rfl := hmu.symm
        obtain ⟨x, hx, rfl⟩ := map_item hd
        have hxm := (mem_pks.mp (List.mem_of_getElem? hx)).1
        refine wg_name 2 sc_first_invitation.nd n2 (by walk_at "loc") (by first | exact .inl rfl | exact .inr rfl) (by decide) ?_
        refine wb_cons (ws_if ?_)
        refine wt_val ?_
        refine we_callP c_is_invitation (by walk_at "room") rfl ?_
        refine wa_cons ?_
        walk_at "e"
        refine wa_one ?_
        walk_at "e"
        refine ⟨_, _, _, x, rfl, by walk_at "so", .inr rfl, hxm.2, by omega, ?_⟩
        refine ⟨_, rfl, ?_⟩
        by_cases hq : isInv c x = true
        · refine itT hq ?_
          refine wb_one (ws_ret ?_)
          walk_at "e"
          rw [fi_at hi hx hnj hq] at hR
          exact keep hR
        · refine itF (Bool.eq_false_iff.mpr hq) ?_
          refine wb_nil ?_
          refine wb_nil ?_
          exact ⟨_, rfl, rfl, no_next hnj hx hq⟩
      · rw [List.length_map _] at hI
        obtain ⟨x2, rfl, hmu, hnj⟩ := hI
        obtain rfl := hmu.symm
        refine wb_nil ?_
        exact ⟨_, _, rfl, rfl, (by rw [begS_succ]; rw [List.take_length] at hnj; exact hnj)⟩
    · rw [rng_items _] at hI
      obtain ⟨x1, x2, rfl, hmu, hno⟩ := hI
      obtain rfl := hmu.symm
      obtain ⟨s, hs, e⟩ := fi_found c
      rw [hno s hs] at e
      cases e
theorem ok_fewest_invited {f : Addr} {fd : FuncData} (F : Fun K "fewest_invited" "fewest_invited" s_fewest_invited f fd) (B : Bl mg) (c_first_invitation : Cal P w K mg base 9 "first_invitation" T_fi) : FnG P w K mg base CX0 10 f fd ["company"] (spW K T_few) := by
  refine fn_w F sc_fewest_invited (by decide) (fun xs μ R h => ?_) fun cdv A outer s H E hr hgd xs μ R hT => ?_
  · obtain ⟨dc, c, rfl, _⟩ := h
    rfl
  · obtain ⟨dc, c, rfl, hc, hl, hR⟩ := hT
    refine wb_names (N := ["company"]) rfl fun hn => ?_
    have n0 := hn 0 _ rfl
    refine wb_one (ws_ret ?_)
    refine we_len B rfl ?_
    refine we_callP c_first_invitation (by walk_at "room") rfl ?_
    refine wa_one ?_
    walk_at "e"
    refine ⟨_, c, rfl, by walk_at "so", by walk_at "so", ?_⟩
    refine ⟨_, (.t _), ?_⟩
    rw [List.length_map]
    exact keep hR
theorem ok_spare {f : Addr} {fd : FuncData} (F : Fun K "spare" "spare" s_spare f fd) (B : Bl mg) (c_never : Cal P w K mg base 7 "never" T_never) (c_invited : Cal P w K mg base 3 "invited" T_inv) (c_is_invitation : Cal P w K mg base 8 "is_invitation" T_isinv) : FnG P w K mg base CX0 9 f fd ["company", "people"] (spW K T_spare) := by
  refine fn_w F sc_spare (by decide) (fun xs μ R h => ?_) fun cdv A outer s H E hr hgd xs μ R hT => ?_
  · obtain ⟨dc, c, dp, t, rfl, _⟩ := h
    rfl
  · obtain ⟨dc, c, dp, t, rfl, hc, hs, hr, htl, hl, hnv, hR⟩ := hT
    refine wb_names (N := ["company", "people", "left", "person", "other"]) rfl fun hn => ?_
    have n0 := hn 0 _ rfl
    have n1 := hn 1 _ rfl
    have n2 := hn 2 _ rfl
    have n3 := hn 3 _ rfl
    have n4 := hn 4 _ rfl
    have hil := inv_len t c
    have hci := coD_ok' (c := inv c t) (by omega) (inv_frs t hr hc.frs)
    refine wb_cons ?_
    refine ws_set 2 sc_spare.nd n2 (by walk_at "loc") (by first | exact .inl rfl | exact .inr rfl) ?_
    refine we_callP c_never (by walk_at "room") rfl ?_
    refine wa_one ?_
    refine we_callP c_invited (by walk_at "room") rfl ?_
    refine wa_cons ?_
    walk_at "e"
    refine wa_one ?_
    walk_at "e"
    refine ⟨_, _, _, t, rfl, by walk_at "so", by assumption, hr, ?_⟩
    refine ⟨_, inv c t, rfl, by walk_at "so", by omega, ?_⟩
    refine wb_cons (ws_if ?_)
    refine wt_cmp (op := .Gt) op_gt (nomark _) ?_
    refine we_len B rfl ?_
    walk_at "e"
    refine ⟨_, (.t _), ?_⟩
    rw [List.length_map]
    walk_at "e"
    refine ow_cmp ⟨_, rfl, ?_⟩
    refine itF (by rw [hnv]; rfl) ?_
    refine wb_nil ?_
    refine wb_one (ws_ret ?_)
    refine we_lc [("person", 3)] rfl sc_spare.nd (blkOk_by (N := ["company", "people", "left", "person", "other"]) (sc := defScope s_spare) (by decide +kernel)) (lcP PyData.int (fun x => (isInv c (t.filter (fun y => (!(decide (y = x))))))) (PyData.int) ?_)
    refine wi_seq ?_
    walk_at "e"
    refine ⟨_, (seqd_sq (by assumption)), t, rfl, by omega, fun x hx => ?_, fun zq => ?_⟩
    · skip
      intro s1 H1 C kl fp
      refine wg_name 3 sc_spare.nd n3 (by walk_at "loc") (by first | exact .inl rfl | exact .inr rfl) (by decide) ?_
      intro s1 H1 C kl fp
      show WT _ _ _ _ _
      refine wt_val ?_
      refine we_callP c_is_invitation (by walk_at "room") rfl ?_
      refine wa_cons ?_
      walk_at "e"
      refine wa_one ?_
      refine we_fz ?_
      refine we_lc [("other", 4)] rfl sc_spare.nd (by with_unfolding_all exact blkOk_by (N := ["company", "people", "left", "person", "other"]) rfl) (lcP PyData.int (fun y => (!(decide (y = x)))) (PyData.int) ?_)
      refine wi_seq ?_
      walk_at "e"
      refine ⟨_, (seqd_sq (by assumption)), t, rfl, by omega, fun y hx => ?_, fun zq => ?_⟩
      · skip
        intro s1 H1 C kl fp
        refine wg_name 4 sc_spare.nd n4 (by walk_at "loc") (by first | exact .inl rfl | exact .inr rfl) (by decide) ?_
        intro s1 H1 C kl fp
        show WT _ _ _ _ _
        refine wt_cmp (op := .NotEq) (op_neD (Room.units (k := 0) (by with_unfolding_all exact Room.mono (by assumption) (Nat.zero_le _)))) (nomark _) ?_
        walk_at "e"
        walk_at "e"
        refine ow_ne (.d _) (.d _) rfl rfl ⟨_, rfl, ?_⟩
        rw [eqv_dint]
        refine ⟨rfl, ?_⟩
        split
        · rename_i h1
          intro s1 H1 C kl fp
          walk_at "e"
          exact ⟨rfl, rfl⟩
        · rfl
      refine ⟨zq, _, _, rfl, rfl, by walk_at "pl", ?_⟩
      refine ⟨_, _, _, (t.filter (fun y => (!(decide (y = x))))), rfl, by walk_at "so", .inl rfl, hr.filter _, by omega, ?_⟩
      refine ⟨_, rfl, ?_⟩
      refine ⟨rfl, ?_⟩
      split
      · rename_i h1
        intro s1 H1 C kl fp
        walk_at "e"
        exact ⟨rfl, rfl⟩
      · rfl
    skip
    exact keep (hR _)
theorem ok_look_small {f : Addr} {fd : FuncData} (F : Fun K "look_small" "look_small" s_look_small f fd) (B : Bl mg) (c_look_whole : Cal P w K mg base 8 "look_whole" T_lookw) (i_MOST_PEOPLE : ∃ t, mg "MOST_PEOPLE" = some (.int 12 t)) : FnG P w K mg base CX0 9 f fd ["company"] (spW K T_looks) := by
  refine fn_w F sc_look_small (by decide) (fun xs μ R h => ?_) fun cdv A outer s H E hr hgd xs μ R hT => ?_
  · obtain ⟨dc, c, rfl, _⟩ := h
    rfl
  · obtain ⟨dc, c, rfl, hc, hl, hw, hR⟩ := hT
    refine wb_names (N := ["company"]) rfl fun hn => ?_
    have n0 := hn 0 _ rfl
    obtain ⟨ds, hd0, al⟩ := hc.sq
    have hlen := allD_len al
    refine wb_cons (ws_expr ?_)
    refine we_callP c_look_whole (by walk_at "room") rfl ?_
    refine wa_one ?_
    walk_at "e"
    refine ⟨_, _, rfl, by walk_at "so", by walk_at "so", by walk_at "so", ?_⟩
    refine wb_cons (ws_if ?_)
    refine wt_cmp (op := .Gt) op_gt (nomark _) ?_
    refine we_len B rfl ?_
    walk_at "e"
    refine ⟨_, (ct_sq (by assumption)), ?_⟩
    rw [hlen]
    refine we_gint rfl i_MOST_PEOPLE ?_
    refine ow_cmp ⟨_, rfl, ?_⟩
    refine itF (decide_eq_false (by omega)) ?_
    refine wb_nil ?_
    refine wb_nil ?_
    exact keep hR
theorem ok_layers {f : Addr} {fd : FuncData} (F : Fun K "layers" "layers" s_layers f fd) (B : Bl mg) (c_next_people : Cal P w K mg base 3 "next_people" T_next) : FnG P w K mg base CX0 4 f fd ["company"] (spW K T_layers) := by
  refine fn_w F sc_layers (by decide) (fun xs μ R h => ?_) fun cdv A outer s H E hr hgd xs μ R hT => ?_
  · obtain ⟨dc, c, rfl, _⟩ := h
    rfl
  · obtain ⟨dc, c, rfl, hc, hl, hR⟩ := hT
    with_reducible refine wb_names (N := ["company", "found", "turn", "later", "there", "ways", "person", "whole"]) (by with_unfolding_all rfl) fun hn => ?_
    have n0 := hn 0 _ rfl
    have n1 := hn 1 _ rfl
    have n2 := hn 2 _ rfl
    have n3 := hn 3 _ rfl
    have n4 := hn 4 _ rfl
    have n5 := hn 5 _ rfl
    have n6 := hn 6 _ rfl
    have n7 := hn 7 _ rfl
    obtain ⟨ds, hd0, al⟩ := hc.sq
    have hlen := allD_len al
    refine wb_cons ?_
    with_reducible refine ws_set 1 (by with_unfolding_all exact sc_layers.nd) n1 (by walk_at "loc") (by with_unfolding_all first | exact .inl rfl | exact .inr rfl) ?_ (by with_unfolding_all rfl)
    with_reducible refine we_lstP ?_
    with_reducible refine wa_one ?_ star_dict
    refine we_dispT (Nat.lt_of_le_of_lt (Nat.add_le_add_left (by decide : 1 ≤ 65) _) (room65 (k := 0) (by with_unfolding_all exact Room.mono (by assumption) (Nat.zero_le _)))) fun p0 => ?_
    refine we_tup (wa_nil ?_)
    refine ⟨[], rfl, by simp, ?_⟩
    walk_at "e"
    refine ⟨[], _, 0, rfl, rfl, rfl, ?_⟩
    refine ⟨by simp, (by intro d; simp), fun pf => ?_⟩
    refine wb_zap 1 0 0 rfl rfl rfl ?_
    show WB _ _ _ ((pf, Cont.l (zds [(p0, ivD [([], 1)])])) :: μ) _
    refine wb_cons ?_
    refine ws_for [2] PassesOwn.never rfl ?_
    refine wi_rng rfl B.range ?_
    refine we_len B rfl ?_
    walk_at "e"
    refine ⟨_, (ct_sq (by assumption)), ?_⟩
    rw [hlen]
    refine ⟨c.length, rfl, by omega, fun i δ' μ' => ∃ Zs x2 x3 x4 x5 x6 x7, δ' = [some (.d dc), some (.a pf), x2, x3, x4, x5, x6, x7] ∧ μ' = ((pf, Cont.l (zds Zs)) :: μ : Cells) ∧ Lys c Zs (i + 1), ⟨[(p0, ivD [([], 1)])], _, _, _, _, _, _, rfl, rfl, ?_⟩, fun i d δ' μ' hd hI => ?_, fun δ' μ' hI => ?_⟩
    · refine ⟨rfl, fun i z hz => ?_⟩
      have : i = 0 := by
        have := (List.getElem?_eq_some_iff.mp hz).1
        simp at this
        exact this
      subst this
      cases hz
      exact ⟨_, rfl, Lay.zero c⟩
    · obtain ⟨Zs, x2, x3, x4, x5, x6, x7, rfl, rfl, hZ⟩ := hI
      obtain ⟨hi, rfl⟩ := rng_item hd
      obtain ⟨z, hz⟩ : ∃ z, Zs[i]? = some z := ⟨Zs[i]'(by rw [hZ.1]; omega), List.getElem?_eq_getElem _⟩
      obtain ⟨pz, kz⟩ := z
      obtain ⟨Li, ekz, hLi⟩ := hZ.2 i _ hz
      have ekz' : kz = ivD Li := ekz
      subst ekz'
      have hfew := hLi.few hl
      refine wg_name 2 sc_layers.nd n2 (by walk_at "loc") (by first | exact .inl rfl | exact .inr rfl) (by decide) ?_
      refine wb_cons ?_
      refine ws_set 3 sc_layers.nd n3 (by walk_at "loc") (by first | exact .inl rfl | exact .inr rfl) ?_
      refine we_dnewT fun pl => ?_
      refine wb_cons ?_
      refine ws_forW [4, 5] PassesOwn.never rfl ?_
      refine wi_itemsT ?_
      walk_at "e"
      walk_at "e"
      walk_at "e"
      walk_at "e"
      refine uw_neg ?_
      refine ow_ixZ (p := pz) (kvs := ivD Li) 1 rfl (atI_last hz hZ.1) ?_
      refine ⟨pz, _, .inr rfl, fun j δ' μ' => ∃ x4 x5 x6 x7, δ' = [some (.d dc), some (.a pf), some (.d (.int (i : Int))), some (.a pl), x4, x5, x6, x7] ∧ μ' = ((pl, Cont.t (ivD (accN (stepN c (Li.take j))))) :: (pf, Cont.l (zds Zs)) :: μ : Cells), ⟨_, _, _, _, rfl, rfl⟩, fun j d δ' μ' hd hI => ?_, fun δ' μ' hI => ?_⟩
      · obtain ⟨x4, x5, x6, x7, rfl, rfl⟩ := hI
        obtain ⟨q, hq, rfl⟩ := itm_item hd
        obtain ⟨r0, hr0, hrl, her, hmr⟩ := hLi.row hq
        have hql : q.1.length ≤ 12 := by
          rw [← her, (srt_perm r0).length_eq, hrl]
          omega
        refine wg_tupW (ds := [_, _]) rfl ?_
        refine wgs_cons ?_
        refine wg_name 4 sc_layers.nd n4 (by walk_at "loc") (by first | exact .inl rfl | exact .inr rfl) (by decide) ?_
        refine wgs_cons ?_
        refine wg_name 5 sc_layers.nd n5 (by walk_at "loc") (by first | exact .inl rfl | exact .inr rfl) (by decide) ?_
        refine wgs_nil ?_
        refine wb_one ?_
        refine ws_for [6] PassesOwn.never rfl ?_
        refine wi_seq ?_
        refine we_fz ?_
        refine we_callP c_next_people (by walk_at "room") rfl ?_
        refine wa_cons ?_
        walk_at "e"
        refine wa_one ?_
        walk_at "e"
        refine ⟨_, c, _, q.1, rfl, by walk_at "so", .inr rfl, fun p1 => ⟨p1, _, _, rfl, rfl, by walk_at "pl", ?_⟩⟩
        refine ⟨_, .l _, fun k δ' μ' => ∃ x6 x7, δ' = [some (.d dc), some (.a pf), some (.d (.int (i : Int))), some (.a pl), some (.d (.tuple (intsD q.1))), some (.d (.int q.2)), x6, x7] ∧ μ' = ((pl, Cont.t (ivD (accN (stepN c (Li.take j) ++ (goN c q).take k)))) :: (pf, Cont.l (zds Zs)) :: μ : Cells), ⟨_, _, rfl, by rw [List.take_zero, List.append_nil]; rfl⟩, fun k d δ' μ' hd hI => ?_, fun δ' μ' hI => ?_⟩
        · obtain ⟨x6, x7, rfl, rfl⟩ := hI
          obtain ⟨x, hx, rfl⟩ := map_item hd
          obtain ⟨⟨hx0, hx1⟩, hx2, _⟩ := mem_nexts.mp (List.mem_of_getElem? hx)
          obtain ⟨hpn, hpl⟩ := part_few hLi hl (A := (stepN c (Li.take j) ++ (goN c q).take k)) (step_part hq k)
          have hgo : (goN c q)[k]? = some (srt (q.1 ++ [x]), q.2) := by
            unfold goN
            rw [List.getElem?_map, hx]
            rfl
          refine wg_name 6 sc_layers.nd n6 (by walk_at "loc") (by first | exact .inl rfl | exact .inr rfl) (by decide) ?_
          refine wb_cons ?_
          refine ws_set 7 sc_layers.nd n7 (by walk_at "loc") (by first | exact .inl rfl | exact .inr rfl) ?_
          refine we_tuple B rfl ?_
          refine we_fz ?_
          refine we_sortedT B rfl ?_
          walk_at "e"
          walk_at "e"
          refine we_tup ?_
          refine wa_one ?_
          walk_at "e"
          refine ⟨intsD [x], rfl, by simp, ?_⟩
          refine ow_catT (by simp; omega) ?_
          rw [← ints_app]
          refine ⟨(q.1 ++ [x]), rfl, by walk_at "so", fun p2 => ⟨p2, _, _, rfl, rfl, by walk_at "pl", ?_⟩⟩
          refine ⟨_, (.l _), ?_⟩
          skip
          refine wb_one ?_
          refine ws_tput (Nat.lt_of_le_of_lt (Nat.add_le_add_left (by decide : 1 ≤ 65) _) (room65 (k := 0) (by with_unfolding_all exact Room.mono (by assumption) (Nat.zero_le _)))) ?_
          walk_at "e"
          refine we_tget2 (Nat.lt_of_le_of_lt (Nat.add_le_add_left (by decide : 1 ≤ 65) _) (room65 (k := 0) (by with_unfolding_all exact Room.mono (by assumption) (Nat.zero_le _)))) ?_
          walk_at "e"
          refine ⟨⟨_, .c 0 rfl⟩, ?_⟩
          walk_at "e"
          walk_at "e"
          refine ⟨_, _, _, .c 0 rfl, rfl, rfl, ?_⟩
          rw [getT_iv, getD_int]
          walk_at "e"
          refine ow_add ?_
          walk_at "e"
          walk_at "e"
          refine ⟨pl, _, 0, _, _, rfl, rfl, rfl, rfl, by unfold ndT; rw [ivD_keys]; exact hpn, by rw [ivD_len]; omega, ?_⟩
          rw [putT_iv]
          refine ⟨_, _, rfl, ?_⟩
          rw [List.take_add_one, hgo, ← List.append_assoc]
          show _ = (pl, Cont.t (ivD (accN ((stepN c (Li.take j) ++ (goN c q).take k) ++ [(srt (q.1 ++ [x]), q.2)])))) :: _
          rw [accN_snoc]
          rfl
        · obtain ⟨x6, x7, rfl, rfl⟩ := hI
          rw [List.length_map]
          refine ⟨_, _, _, _, rfl, ?_⟩
          rw [go_all, step_more hq]
      · obtain ⟨x4, x5, x6, x7, rfl, rfl⟩ := hI
        rw [itm_len, List.take_length]
        refine wb_cons (ws_expr ?_)
        refine we_appendC ?_
        walk_at "e"
        refine ⟨pf, _, ⟨1, rfl⟩, rfl, ?_⟩
        walk_at "e"
        refine ⟨_, 1, (by intro d; simp), rfl, by rw [List.length_map, hZ.1]; omega, ?_⟩
        have hzl : (zds Zs).length = i + 1 := by rw [List.length_map, hZ.1]
        refine wb_zap 0 0 (i + 1) rfl rfl (app_at hzl) ?_
        refine wb_nil ?_
        refine ⟨Zs ++ [(pl, ivD (accN (stepN c Li)))], _, _, _, _, _, _, rfl, ?_, hZ.snoc hLi.step⟩
        show (pf, Cont.l ((zds Zs ++ [ptr pl]).set (i + 1) (zd pl (ivD (accN (stepN c Li)))))) :: μ = _
        rw [app_set hzl]
        simp only [zds, List.map_append]
        rfl
    · obtain ⟨Zs, x2, x3, x4, x5, x6, x7, rfl, rfl, hZ⟩ := hI
      rw [List.length_map, rng_len] at hZ
      refine wb_one (ws_ret ?_)
      walk_at "e"
      exact keep (hR _ _ hZ)
theorem ok_endings {f : Addr} {fd : FuncData} (F : Fun K "endings" "endings" s_endings f fd) (B : Bl mg) (c_next_people : Cal P w K mg base 3 "next_people" T_next) : FnG P w K mg base CX0 4 f fd ["company", "some"] (spW K T_ends) := by
  refine fn_w F sc_endings (by decide) (fun xs μ R h => ?_) fun cdv A outer s H E hr hgd xs μ R hT => ?_
  · obtain ⟨dc, c, q, Zs, rfl, _⟩ := h
    rfl
  · obtain ⟨dc, c, q, Zs, rfl, hc, hl, hZ, rfl, hR⟩ := hT
    refine wb_names (N := ["company", "some", "found", "layer", "there", "wholes", "person", "whole"]) rfl fun hn => ?_
    have n0 := hn 0 _ rfl
    have n1 := hn 1 _ rfl
    have n2 := hn 2 _ rfl
    have n3 := hn 3 _ rfl
    have n4 := hn 4 _ rfl
    have n5 := hn 5 _ rfl
    have n6 := hn 6 _ rfl
    have n7 := hn 7 _ rfl
    obtain ⟨ds, hd0, al⟩ := hc.sq
    have hlen := allD_len al
    refine wb_cons ?_
    refine ws_set 2 sc_endings.nd n2 (by walk_at "loc") (by first | exact .inl rfl | exact .inr rfl) ?_
    refine we_dispT (Nat.lt_of_le_of_lt (Nat.add_le_add_left (by decide : 1 ≤ 65) _) (room65 (k := 0) (by with_unfolding_all exact Room.mono (by assumption) (Nat.zero_le _)))) fun pF => ?_
    refine we_tupRg1 B rfl rfl rfl ?_
    refine we_len B rfl ?_
    walk_at "e"
    refine ⟨_, (ct_sq (by assumption)), ?_⟩
    rw [hlen]
    refine ⟨_, rfl, by omega, by omega, ?_⟩
    rw [Int.toNat_natCast, rangeD_eq]
    walk_at "e"
    refine ⟨_, _, 0, rfl, rfl, rfl, ?_⟩
    refine wb_cons ?_
    refine ws_forZ [3] PassesOwn.never rfl ?_
    refine we_revC ?_
    refine we_slC ?_
    walk_at "e"
    refine wo_none ?_
    refine wo_some ?_
    walk_at "e"
    walk_at "e"
    refine uw_neg ?_
    refine ⟨_, rfl, ?_⟩
    refine ⟨q, _, 1, rfl, rfl, fun pc => ?_⟩
    refine ⟨pc, _, 0, rfl, rfl, fun pr => ?_⟩
    rw [cut_last hZ.1, zds_rev]
    refine ⟨pr, (Zs.take c.length).reverse, rfl, List.mem_cons_self, fun j δ' μ' => ∃ D x3 x4 x5 x6 x7, δ' = [some (.d dc), some (.a q), some (.a pF), x3, x4, x5, x6, x7] ∧ μ' = ([(pr, Cont.l (zds (Zs.take c.length).reverse)), (pc, Cont.l (zds (Zs.take c.length))), (pF, Cont.t (ivD D)), (q, Cont.l (zds Zs))] : Cells) ∧ En c (c.length - j) D, ⟨[(rng c.length, 1)], _, _, _, _, _, rfl, rfl, En.start c⟩, fun j δ' μ' hI => ?_, fun j z δ' μ' hz hI => ?_, fun δ' μ' hI => ?_⟩
    · obtain ⟨D, x3, x4, x5, x6, x7, rfl, rfl, _⟩ := hI
      exact List.mem_cons_self
    · obtain ⟨D, x3, x4, x5, x6, x7, rfl, rfl, hD⟩ := hI
      obtain ⟨hj, hz'⟩ := rev_take hZ.1 hz
      obtain ⟨Lm, ez, hLm⟩ := hZ.2 _ _ hz'
      obtain ⟨pz, kz⟩ := z
      have ekz : kz = ivD Lm := ez
      subst ekz
      have hD' := (show c.length - j = (c.length - 1 - j) + 1 by omega) ▸ hD
      have hm : c.length - 1 - j < c.length := by omega
      generalize hme : c.length - 1 - j = m at hLm hD' hm hz'
      refine wg_name 3 sc_endings.nd n3 (by walk_at "loc") (by first | exact .inl rfl | exact .inr rfl) (by decide) ?_
      refine wb_one ?_
      refine ws_for [4] PassesOwn.never rfl ?_
      refine wi_keysT ?_
      walk_at "e"
      refine ⟨pz, _, .inr rfl, ?_⟩
      rw [ivD_keys]
      refine ⟨fun i δ' μ' => ∃ D x4 x5 x6 x7, δ' = [some (.d dc), some (.a q), some (.a pF), some (.z pz (ivD Lm)), x4, x5, x6, x7] ∧ μ' = ([(pr, Cont.l (zds (Zs.take c.length).reverse)), (pc, Cont.l (zds (Zs.take c.length))), (pF, Cont.t (ivD D)), (q, Cont.l (zds Zs))] : Cells) ∧ EnP c m Lm i D, ⟨D, _, _, _, _, rfl, rfl, hD'.enter Lm⟩, fun i d δ' μ' hd hI => ?_, fun δ' μ' hI => ?_⟩
      · obtain ⟨D, x4, x5, x6, x7, rfl, rfl, hE⟩ := hI
        obtain ⟨t, ht, rfl⟩ := map_item hd
        obtain ⟨q1, hq1, rfl⟩ := key_item ht
        obtain ⟨r0, hr0, hrl, her, hmr⟩ := hLm.row hq1
        have hql : q1.1.length ≤ 12 := by
          rw [← her, (srt_perm r0).length_eq, hrl]
          omega
        have hrg : ∀ x ∈ q1.1, 0 ≤ x ∧ x < c.length := fun x m => hr0.rg x ((hmr x).mp m)
        have hnx := nexts_le9 c q1.1
        have hfew := hE.few hl
        refine wg_name 4 sc_endings.nd n4 (by walk_at "loc") (by first | exact .inl rfl | exact .inr rfl) (by decide) ?_
        refine wb_cons ?_
        refine ws_setLc 5 [("person", 6)] rfl sc_endings.nd n5 rfl (sw_true rfl rfl rfl (by decide +kernel)) (blkOk_by (N := ["company", "some", "found", "layer", "there", "wholes", "person", "whole"]) (sc := defScope s_endings) (by decide +kernel)) (lcP PyData.int (fun _ => true) (fun x => (.tuple (intsD (srt (q1.1 ++ [x]))))) ?_)
        refine wi_seq ?_
        refine we_fz ?_
        refine we_callP c_next_people (by walk_at "room") rfl ?_
        refine wa_cons ?_
        walk_at "e"
        refine wa_one ?_
        walk_at "e"
        refine ⟨_, c, _, q1.1, rfl, by walk_at "so", .inr rfl, fun p1 => ⟨p1, _, _, rfl, rfl, by walk_at "pl", ?_⟩⟩
        refine ⟨_, (.l _), (nexts c q1.1), rfl, by walk_at "so", fun x hx => ?_, fun zq => ?_⟩
        · skip
          intro s1 H1 C kl fp
          refine wg_name 6 sc_endings.nd n6 (by walk_at "loc") (by first | exact .inl rfl | exact .inr rfl) (by decide) ?_
          intro s1 H1 C kl fp
          refine wts_nil ⟨rfl, itT rfl ?_⟩
          intro s1 H1 C kl fp
          refine we_tuple B rfl ?_
          refine we_fz ?_
          refine we_sortedT B rfl ?_
          walk_at "e"
          walk_at "e"
          refine we_tup ?_
          refine wa_one ?_
          walk_at "e"
          refine ⟨intsD [x], rfl, by simp, ?_⟩
          refine ow_catT (by simp; omega) ?_
          rw [← ints_app]
          refine ⟨(q1.1 ++ [x]), rfl, by walk_at "so", fun p2 => ⟨p2, _, _, rfl, rfl, by walk_at "pl", ?_⟩⟩
          refine ⟨_, (.l _), ?_⟩
          exact ⟨rfl, rfl⟩
        rw [filt_all]
        refine wb_frz 0 [5] rfl (fun j hj => by cases List.mem_singleton.mp hj; rfl) ?_
        refine wb_one ?_
        refine ws_tput (Nat.lt_of_le_of_lt (Nat.add_le_add_left (by decide : 1 ≤ 65) _) (room65 (k := 0) (by with_unfolding_all exact Room.mono (by assumption) (Nat.zero_le _)))) ?_
        refine we_sum B rfl rfl ?_
        refine we_fz ?_
        refine we_lc [("whole", 7)] rfl sc_endings.nd (blkOk_by (N := ["company", "some", "found", "layer", "there", "wholes", "person", "whole"]) (sc := defScope s_endings) (by decide +kernel)) (lcP (fun x : Int => PyData.tuple (intsD (srt (q1.1 ++ [x])))) (fun _ => true) (fun x => (.int ((Wy c (c.length - (m + 1)) (q1.1 ++ [x]) : Nat) : Int))) ?_)
        refine wi_seq ?_
        walk_at "e"
        refine ⟨_, (.l _), (nexts c q1.1), rfl, by omega, fun x hx => ?_, fun zq => ?_⟩
        · skip
          intro s1 H1 C kl fp
          refine wg_name 7 sc_endings.nd n7 (by walk_at "loc") (by first | exact .inl rfl | exact .inr rfl) (by decide) ?_
          intro s1 H1 C kl fp
          refine wts_nil ⟨rfl, itT rfl ?_⟩
          intro s1 H1 C kl fp
          refine we_tget (Nat.lt_of_le_of_lt (Nat.add_le_add_left (by decide : 1 ≤ 65) _) (room65 (k := 0) (by with_unfolding_all exact Room.mono (by assumption) (Nat.zero_le _)))) ?_
          walk_at "e"
          walk_at "e"
          refine ⟨_, _, _, .c 2 rfl, rfl, by rw [getT_iv, hE.at hLm hq1 hx]; rfl, ?_⟩
          exact ⟨rfl, rfl⟩
        rw [filt_all]
        refine ⟨zq, _, _, rfl, rfl, by walk_at "pl", ?_⟩
        refine ⟨((nexts c q1.1).map fun x => ((Wy c (c.length - (m + 1)) (q1.1 ++ [x]) : Nat) : Int)), by unfold intsD; rw [List.map_map]; rfl, ?_⟩
        rw [sum_Wy hm]
        walk_at "e"
        walk_at "e"
        refine ⟨pF, _, 2, _, _, rfl, rfl, rfl, rfl, by unfold ndT; rw [ivD_keys]; exact hE.nd, by rw [ivD_len]; omega, ?_⟩
        rw [putT_iv]
        exact ⟨_, _, _, _, _, rfl, rfl, hE.step hLm hm hq1⟩
      · obtain ⟨D, x4, x5, x6, x7, rfl, rfl, hE⟩ := hI
        rw [List.length_map, List.length_map] at hE
        exact ⟨D, _, _, _, _, _, rfl, rfl, (show c.length - (j + 1) = m by omega) ▸ hE.leave hLm⟩
    · obtain ⟨D, x3, x4, x5, x6, x7, rfl, rfl, hD⟩ := hI
      rw [List.length_reverse, List.length_take, hZ.1, Nat.min_eq_left (by omega), Nat.sub_self] at hD
      refine wb_one (ws_ret ?_)
      walk_at "e"
      exact keep_drop (keep_drop (keep (hR _ _ hD)))
theorem ok_ways_on {f : Addr} {fd : FuncData} (F : Fun K "ways_on" "ways_on" s_ways_on f fd) (B : Bl mg) (c_look_small : Cal P w K mg base 9 "look_small" T_looks) (c_endings : Cal P w K mg base 4 "endings" T_ends) (c_layers : Cal P w K mg base 4 "layers" T_layers) : FnG P w K mg base CX0 10 f fd ["company"] (spW K T_ways) := by
  refine fn_w F sc_ways_on (by decide) (fun xs μ R h => ?_) fun cdv A outer s H E hr hgd xs μ R hT => ?_
  · obtain ⟨dc, c, rfl, _⟩ := h
    rfl
  · obtain ⟨dc, c, rfl, hc, hl, hw, hR⟩ := hT
    refine wb_names (N := ["company"]) rfl fun hn => ?_
    have n0 := hn 0 _ rfl
    refine wb_cons (ws_expr ?_)
    refine we_callP c_look_small (by walk_at "room") rfl ?_
    refine wa_one ?_
    walk_at "e"
    refine ⟨_, _, rfl, by walk_at "so", by walk_at "so", by walk_at "so", ?_⟩
    refine wb_one (ws_ret ?_)
    refine we_callB 0 c_endings (by walk_at "room") rfl ?_
    refine wa_cons ?_
    walk_at "e"
    refine wa_one ?_
    refine we_callP c_layers (by walk_at "room") rfl ?_
    refine wa_one ?_
    walk_at "e"
    refine ⟨_, c, rfl, hc, hl, fun q Zs hZ => ?_⟩
    refine ⟨q, _, rfl, ⟨_, c, q, Zs, rfl, hc, hl, hZ, rfl, fun p D hD => ⟨[(p, Cont.t (ivD D))], _, rfl, ?_⟩⟩⟩
    exact keep_perm (List.Perm.swap _ _ _) (keep_drop (keep (hR p D hD)))
theorem ok_count_orders {f : Addr} {fd : FuncData} (F : Fun K "count_orders" "count_orders" s_count_orders f fd) (B : Bl mg) (c_ways_on : Cal P w K mg base 10 "ways_on" T_ways) : FnG P w K mg base CX0 11 f fd ["company"] (spW K T_count) := by
  refine fn_w F sc_count_orders (by decide) (fun xs μ R h => ?_) fun cdv A outer s H E hr hgd xs μ R hT => ?_
  · obtain ⟨dc, c, rfl, _⟩ := h
    rfl
  · obtain ⟨dc, c, rfl, hc, hl, hw, hR⟩ := hT
    refine wb_names (N := ["company"]) rfl fun hn => ?_
    have n0 := hn 0 _ rfl
    refine wb_one (ws_ret ?_)
    refine we_tget (Nat.lt_of_le_of_lt (Nat.add_le_add_left (by decide : 1 ≤ 65) _) (room65 (k := 0) (by with_unfolding_all exact Room.mono (by assumption) (Nat.zero_le _)))) ?_
    refine we_callP c_ways_on (by walk_at "room") rfl ?_
    refine wa_one ?_
    walk_at "e"
    refine ⟨_, c, rfl, hc, hl, hw, fun p D hD => ?_⟩
    refine we_tup (wa_nil ?_)
    refine ⟨[], rfl, by simp, ?_⟩
    refine ⟨_, [], _, .c 0 rfl, rfl, by rw [getT_iv, hD.all]; rfl, ?_⟩
    exact keep_drop (keep hR)
theorem ok_order_at {f : Addr} {fd : FuncData} (F : Fun K "order_at" "order_at" s_order_at f fd) (B : Bl mg) (c_ways_on : Cal P w K mg base 10 "ways_on" T_ways) (c_next_people : Cal P w K mg base 3 "next_people" T_next) : FnG P w K mg base CX0 11 f fd ["company", "number"] (spW K T_orderat) := by
  refine fn_w F sc_order_at (by decide) (fun xs μ R h => ?_) fun cdv A outer s H E hr hgd xs μ R hT => ?_
  · obtain ⟨dc, c, k0, t, rfl, _⟩ := h
    rfl
  · obtain ⟨dc, c, k0, t, rfl, hc, hl, hw, hk, hR⟩ := hT
    refine wb_names (N := ["company", "number", "ways", "found", "rest", "turn", "person", "some"]) rfl fun hn => ?_
    have n0 := hn 0 _ rfl
    have n1 := hn 1 _ rfl
    have n2 := hn 2 _ rfl
    have n3 := hn 3 _ rfl
    have n4 := hn 4 _ rfl
    have n5 := hn 5 _ rfl
    have n6 := hn 6 _ rfl
    have n7 := hn 7 _ rfl
    obtain ⟨ds, hd0, al⟩ := hc.sq
    have hlen := allD_len al
    have hkl := (List.getElem?_eq_some_iff.mp hk).1
    rw [count_all] at hkl
    refine wb_cons ?_
    refine ws_set 2 sc_order_at.nd n2 (by walk_at "loc") (by first | exact .inl rfl | exact .inr rfl) ?_
    refine we_callP c_ways_on (by walk_at "room") rfl ?_
    refine wa_one ?_
    walk_at "e"
    refine ⟨_, c, rfl, hc, hl, hw, fun pw D hD => ?_⟩
    refine wb_cons (ws_if ?_)
    refine wt_not ?_
    refine wt_chain op_le op_lt ?_
    walk_at "e"
    walk_at "e"
    refine ow_cmp ⟨_, rfl, ?_⟩
    refine itT (decide_eq_true (by omega)) ?_
    rintro _ rfl
    refine we_tget (Nat.lt_of_le_of_lt (Nat.add_le_add_left (by decide : 1 ≤ 65) _) (room65 (k := 0) (by with_unfolding_all exact Room.mono (by assumption) (Nat.zero_le _)))) ?_
    walk_at "e"
    refine we_tup ?_
    refine wa_nil ?_
    refine ⟨[], rfl, by simp, ?_⟩
    refine ⟨_, [], _, .c 0 rfl, rfl, by rw [getT_iv, hD.all]; rfl, ?_⟩
    refine ow_cmp ⟨_, rfl, ?_⟩
    refine itF (by rw [decide_eq_true (by omega)]; rfl) ?_
    refine wb_nil ?_
    refine wb_cons ?_
    refine ws_par 3 4 rfl sc_order_at.nd n3 n4 (by decide) rfl rfl ?_ (by rfl)
    refine we_tup ?_
    refine wa_nil ?_
    refine ⟨[], rfl, by simp, ?_⟩
    walk_at "e"
    refine wb_cons ?_
    refine ws_for [5] PassesOwn.never rfl ?_
    refine wi_rng rfl B.range ?_
    refine we_len B rfl ?_
    walk_at "e"
    refine ⟨_, (ct_sq (by assumption)), ?_⟩
    rw [hlen]
    refine ⟨c.length, rfl, by walk_at "so", fun i δ' μ' => ∃ r k x5 x6 x7, δ' = [some (.d dc), some (.d (.int (k0 : Int))), some (.a pw), some (.d (.tuple (intsD r))), some (.d (.int ((k : Nat) : Int))), x5, x6, x7] ∧ μ' = ((pw, (Cont.t (ivD D))) :: μ : Cells) ∧ POrd c r ∧ r.length = i ∧ (ext c (c.length - r.length) r)[k]? = some t, ⟨[], k0, _, _, _, rfl, rfl, POrd.nil c, rfl, by rw [allP_ext] at hk; exact hk⟩, fun i d δ' μ' hd hI => ?_, fun δ' μ' hI => ?_⟩
    · obtain ⟨r, k, x5, x6, x7, rfl, rfl, hr, hrl, hrk⟩ := hI
      obtain ⟨hi, rfl⟩ := rng_item hd
      have hrr : ∀ x ∈ r, 0 ≤ x ∧ x < c.length := hr.rg
      have hz := un_zero (r := r) (m := c.length - (i + 1)) (by omega) hrk
      rw [hrl] at hz
      refine wg_name 5 sc_order_at.nd n5 (by walk_at "loc") (by first | exact .inl rfl | exact .inr rfl) (by decide) ?_
      refine wb_cons ?_
      refine ws_for [6] PassesOwn.never rfl ?_
      refine wi_seq ?_
      refine we_fz ?_
      refine we_callP c_next_people (by walk_at "room") rfl ?_
      refine wa_cons ?_
      walk_at "e"
      refine wa_one ?_
      walk_at "e"
      refine ⟨_, c, _, r, rfl, by walk_at "so", .inr rfl, fun p1 => ⟨p1, _, _, rfl, rfl, by walk_at "pl", ?_⟩⟩
      refine ⟨_, (.l _), fun j δ' μ' => ∃ k1 x6 x7, δ' = [some (.d dc), some (.d (.int (k0 : Int))), some (.a pw), some (.d (.tuple (intsD r))), some (.d (.int ((k1 : Nat) : Int))), some (.d (.int ((i : Nat) : Int))), x6, x7] ∧ μ' = ((pw, (Cont.t (ivD D))) :: μ : Cells) ∧ (((nexts c r).drop j).flatMap fun p => ext c (c.length - (i + 1)) (r ++ [p]))[k1]? = some t, ⟨k, _, _, rfl, rfl, hz⟩, fun j d δ' μ' hd hI => ?_, fun δ' μ' hI => ?_⟩
      · obtain ⟨k1, x6, x7, rfl, rfl, hk1⟩ := hI
        obtain ⟨x, hx, rfl⟩ := map_item hd
        obtain ⟨⟨hx0, hx1⟩, hx2, hx3⟩ := mem_nexts.mp (List.mem_of_getElem? hx)
        have hnx := List.mem_of_getElem? hx
        have hst := un_step hx hk1
        have hen := hD.next hr hnx
        rw [hrl] at hen
        refine wg_name 6 sc_order_at.nd n6 (by walk_at "loc") (by first | exact .inl rfl | exact .inr rfl) (by decide) ?_
        refine wb_cons ?_
        refine ws_set 7 sc_order_at.nd n7 (by walk_at "loc") (by first | exact .inl rfl | exact .inr rfl) ?_
        refine we_tget (Nat.lt_of_le_of_lt (Nat.add_le_add_left (by decide : 1 ≤ 65) _) (room65 (k := 0) (by with_unfolding_all exact Room.mono (by assumption) (Nat.zero_le _)))) ?_
        walk_at "e"
        refine we_tuple B rfl ?_
        refine we_fz ?_
        refine we_sortedT B rfl ?_
        walk_at "e"
        walk_at "e"
        refine we_tup ?_
        refine wa_one ?_
        walk_at "e"
        refine ⟨intsD [x], rfl, by simp, ?_⟩
        refine ow_catT (by simp; omega) ?_
        rw [← ints_app]
        refine ⟨(r ++ [x]), rfl, by walk_at "so", fun p2 => ⟨p2, _, _, rfl, rfl, by walk_at "pl", ?_⟩⟩
        refine ⟨_, (.l _), ?_⟩
        refine ⟨_, _, _, .c 0 rfl, rfl, by rw [getT_iv, hen]; rfl, ?_⟩
        refine wb_cons (ws_if ?_)
        refine wt_cmp (op := .Lt) op_lt (nomark _) ?_
        walk_at "e"
        walk_at "e"
        refine ow_cmp ⟨_, rfl, ?_⟩
        rcases hst with ⟨h1, h2⟩ | ⟨h1, h2⟩
        · refine itT (decide_eq_true (by omega)) ?_
          refine wb_cons ?_
          refine ws_set 3 sc_order_at.nd n3 (by walk_at "loc") (by first | exact .inl rfl | exact .inr rfl) ?_
          walk_at "e"
          walk_at "e"
          refine we_tup ?_
          refine wa_one ?_
          walk_at "e"
          refine ⟨intsD [x], rfl, by simp, ?_⟩
          refine ow_catT (by simp; omega) ?_
          rw [← ints_app]
          refine wb_one (ws_brk ?_)
          refine wb_nil ?_
          exact ⟨r ++ [x], k1, _, _, _, rfl, rfl, hr.next hnx, by rw [List.length_append, hrl]; rfl, by rw [List.length_append, hrl]; exact h2⟩
        · refine itF (decide_eq_false (by omega)) ?_
          refine wb_nil ?_
          refine wb_cons ?_
          refine ws_aug 4 sc_order_at.nd n4 (by walk_at "loc") (by first | exact .inl rfl | exact .inr rfl) rfl iop_sub ?_
          walk_at "e"
          refine ow_sub ?_
          refine wb_nil ?_
          exact ⟨(k1 - Wy c (c.length - (i + 1)) (r ++ [x])), _, _, by rw [show ((k1 - Wy c (c.length - (i + 1)) (r ++ [x]) : Nat) : Int) = (k1 : Int) - ((Wy c (c.length - (i + 1)) (r ++ [x]) : Nat) : Int) by omega]; rfl, rfl, h2⟩
      · rw [List.length_map _] at hI
        obtain ⟨k1, x6, x7, rfl, rfl, hk1⟩ := hI
        rw [List.drop_length] at hk1
        cases hk1
    · rw [rng_items _] at hI
      obtain ⟨r, k, x5, x6, x7, rfl, rfl, hr, hrl, hrk⟩ := hI
      rw [hrl, Nat.sub_self] at hrk
      have hk0 : k = 0 := by
        have := (List.getElem?_eq_some_iff.mp hrk).1
        have e : (ext c 0 r).length = 1 := rfl
        omega
      subst hk0
      have e : r = t := Option.some.inj hrk
      subst e
      refine wb_one (ws_ret ?_)
      walk_at "e"
      exact keep_drop (keep hR)
theorem ok_number_of {f : Addr} {fd : FuncData} (F : Fun K "number_of" "number_of" s_number_of f fd) (B : Bl mg) (c_ways_on : Cal P w K mg base 10 "ways_on" T_ways) (c_look_order : Cal P w K mg base 4 "look_order" T_looko) (c_next_people : Cal P w K mg base 3 "next_people" T_next) : FnG P w K mg base CX0 11 f fd ["company", "order"] (spW K T_numof) := by
  refine fn_w F sc_number_of (by decide) (fun xs μ R h => ?_) fun cdv A outer s H E hr hgd xs μ R hT => ?_
  · obtain ⟨dc, c, dr, r, k0, rfl, _⟩ := h
    rfl
  · obtain ⟨dc, c, dr, r, k0, rfl, hc, hl, hw, hq, hk, hR⟩ := hT
    refine wb_names (N := ["company", "order", "ways", "found", "here", "person", "less", "other"]) rfl fun hn => ?_
    have n0 := hn 0 _ rfl
    have n1 := hn 1 _ rfl
    have n2 := hn 2 _ rfl
    have n3 := hn 3 _ rfl
    have n4 := hn 4 _ rfl
    have n5 := hn 5 _ rfl
    have n6 := hn 6 _ rfl
    have n7 := hn 7 _ rfl
    have ho := mem_all.mp (List.mem_of_getElem? hk)
    have hrl := ho.lens
    refine wb_cons ?_
    refine ws_set 2 sc_number_of.nd n2 (by walk_at "loc") (by first | exact .inl rfl | exact .inr rfl) ?_
    refine we_callP c_ways_on (by walk_at "room") rfl ?_
    refine wa_one ?_
    walk_at "e"
    refine ⟨_, c, rfl, hc, hl, hw, fun pw D hD => ?_⟩
    refine wb_cons (ws_expr ?_)
    refine we_callP c_look_order (by walk_at "room") rfl ?_
    refine wa_cons ?_
    walk_at "e"
    refine wa_one ?_
    walk_at "e"
    refine ⟨_, _, _, _, rfl, by walk_at "so", by assumption, by omega, ho.rows, misL_nil ho.po, ?_⟩
    refine wb_cons ?_
    refine ws_tups [3, 4] rfl ?_
    refine wa_cons ?_
    walk_at "e"
    refine wa_one ?_
    refine we_tup ?_
    refine wa_nil ?_
    refine ⟨[], rfl, by simp, ?_⟩
    refine ⟨rfl, by decide, ?_⟩
    refine wgs_cons (wg_name 3 sc_number_of.nd n3 (by walk_at "loc") (by first | exact .inl rfl | exact .inr rfl) (by decide) ?_)
    refine wgs_cons (wg_name 4 sc_number_of.nd n4 (by walk_at "loc") (by first | exact .inl rfl | exact .inr rfl) (by decide) ?_)
    refine wgs_nil ?_
    refine wb_cons ?_
    refine ws_for [5] PassesOwn.never rfl ?_
    refine wi_seq ?_
    walk_at "e"
    refine ⟨_, (seqd_sq (by assumption)), fun i δ' μ' => ∃ f x5 x6 x7, δ' = [some (.d dc), some (.d dr), some (.a pw), some (.d (.int ((f : Nat) : Int))), some (.d (.tuple (intsD (r.take i)))), x5, x6, x7] ∧ μ' = ((pw, (Cont.t (ivD D))) :: μ : Cells) ∧ Beg c (r.take i) f, ⟨0, _, _, _, rfl, rfl, Beg.zero c⟩, fun i d δ' μ' hd hI => ?_, fun δ' μ' hI => ?_⟩
    · obtain ⟨f, x5, x6, x7, rfl, rfl, hf⟩ := hI
      obtain ⟨x, hx, rfl⟩ := map_item hd
      have hil := (List.getElem?_eq_some_iff.mp hx).1
      have hpo : POrd c (r.take i) := ho.po.take i
      have htl : (r.take i).length = i := by rw [List.length_take]; omega
      have hxn : x ∈ nexts c (r.take i) := by
        obtain ⟨h0, h1⟩ := ho.po.rg x (List.mem_of_getElem? hx)
        refine mem_nexts.mpr ⟨⟨h0, h1⟩, fun z => ?_, ho.po.ok i x hx⟩
        exact take_new ho.po.nd hx z
      have htk : r.take (i + 1) = r.take i ++ [x] := by rw [List.take_add_one, hx]; rfl
      have hnl := nexts_le9 c (r.take i)
      have hst := hf.step hxn (by omega)
      rw [htl] at hst
      have hrr : ∀ x ∈ r.take i, 0 ≤ x ∧ x < c.length := hpo.rg
      have hlf : ((nexts c (r.take i)).filter fun y => decide (y < x)).length ≤ 100000 := Nat.le_trans (List.length_filter_le _ _) (by omega)
      refine wg_name 5 sc_number_of.nd n5 (by walk_at "loc") (by first | exact .inl rfl | exact .inr rfl) (by decide) ?_
      refine wb_cons ?_
      refine ws_setLc 6 [("other", 7)] rfl sc_number_of.nd n6 rfl (sw_true rfl rfl rfl (by decide +kernel)) (blkOk_by (N := ["company", "order", "ways", "found", "here", "person", "less", "other"]) (sc := defScope s_number_of) (by decide +kernel)) (lcP PyData.int (fun y => decide (y < x)) (PyData.int) ?_)
      refine wi_seq ?_
      refine we_fz ?_
      refine we_callP c_next_people (by walk_at "room") rfl ?_
      refine wa_cons ?_
      walk_at "e"
      refine wa_one ?_
      walk_at "e"
      refine ⟨_, c, _, (r.take i), rfl, by walk_at "so", .inr rfl, fun p1 => ⟨p1, _, _, rfl, rfl, by walk_at "pl", ?_⟩⟩
      refine ⟨_, (.l _), (nexts c (r.take i)), rfl, by walk_at "so", fun y hx => ?_, fun zq => ?_⟩
      · skip
        intro s1 H1 C kl fp
        refine wg_name 7 sc_number_of.nd n7 (by walk_at "loc") (by first | exact .inl rfl | exact .inr rfl) (by decide) ?_
        intro s1 H1 C kl fp
        show WT _ _ _ _ _
        refine wt_cmp (op := .Lt) op_lt (nomark _) ?_
        walk_at "e"
        walk_at "e"
        refine ow_cmp ⟨_, rfl, ?_⟩
        refine ⟨rfl, ?_⟩
        split
        · rename_i h1
          intro s1 H1 C kl fp
          walk_at "e"
          exact ⟨rfl, rfl⟩
        · rfl
      refine wb_frz 0 [6] rfl (fun j hj => by cases List.mem_singleton.mp hj; rfl) ?_
      refine wb_cons ?_
      refine ws_aug 3 sc_number_of.nd n3 (by walk_at "loc") (by first | exact .inl rfl | exact .inr rfl) rfl iop_add ?_
      refine we_sum B rfl rfl ?_
      refine we_fz ?_
      refine we_lc [("other", 7)] rfl sc_number_of.nd (blkOk_by (N := ["company", "order", "ways", "found", "here", "person", "less", "other"]) (sc := defScope s_number_of) (by decide +kernel)) (lcP PyData.int (fun _ => true) (fun y => (.int ((Wy c (c.length - (i + 1)) (r.take i ++ [y]) : Nat) : Int))) ?_)
      refine wi_seq ?_
      walk_at "e"
      refine ⟨_, (.l _), ((nexts c (r.take i)).filter fun y => decide (y < x)), rfl, by omega, fun y hx => ?_, fun zq => ?_⟩
      · have hyn := (List.mem_filter.mp hx).1
        have hen := hD.next hpo hyn
        rw [htl] at hen
        intro s1 H1 C kl fp
        refine wg_name 7 sc_number_of.nd n7 (by walk_at "loc") (by first | exact .inl rfl | exact .inr rfl) (by decide) ?_
        intro s1 H1 C kl fp
        refine wts_nil ⟨rfl, itT rfl ?_⟩
        intro s1 H1 C kl fp
        refine we_tget (Nat.lt_of_le_of_lt (Nat.add_le_add_left (by decide : 1 ≤ 65) _) (room65 (k := 0) (by with_unfolding_all exact Room.mono (by assumption) (Nat.zero_le _)))) ?_
        walk_at "e"
        refine we_tuple B rfl ?_
        refine we_fz ?_
        refine we_sortedT B rfl ?_
        walk_at "e"
        walk_at "e"
        refine we_tup ?_
        refine wa_one ?_
        walk_at "e"
        refine ⟨intsD [y], rfl, by simp, ?_⟩
        refine ow_catT (by simp; omega) ?_
        rw [← ints_app]
        refine ⟨((r.take i) ++ [y]), rfl, by walk_at "so", fun p2 => ⟨p2, _, _, rfl, rfl, by walk_at "pl", ?_⟩⟩
        refine ⟨_, (.l _), ?_⟩
        refine ⟨_, _, _, .c 0 rfl, rfl, by rw [getT_iv, hen]; rfl, ?_⟩
        exact ⟨rfl, rfl⟩
      rw [filt_all]
      refine ⟨zq, _, _, rfl, rfl, by walk_at "pl", ?_⟩
      refine ⟨(((nexts c (r.take i)).filter fun y => decide (y < x)).map fun y => ((Wy c (c.length - (i + 1)) (r.take i ++ [y]) : Nat) : Int)), by unfold intsD; rw [List.map_map]; rfl, ?_⟩
      refine ow_iadd ?_
      refine wb_cons ?_
      refine ws_set 4 sc_number_of.nd n4 (by walk_at "loc") (by first | exact .inl rfl | exact .inr rfl) ?_
      walk_at "e"
      walk_at "e"
      refine we_tup ?_
      refine wa_one ?_
      walk_at "e"
      refine ⟨intsD [x], rfl, by simp, ?_⟩
      refine ow_catT (by simp; omega) ?_
      rw [← ints_app]
      refine wb_nil ?_
      exact ⟨(f + (((nexts c (r.take i)).filter fun y => decide (y < x)).map fun o => Wy c (c.length - (i + 1)) (r.take i ++ [o])).sum), _, _, _, by rw [htk, Int.natCast_add, natsum_cast]; rfl, rfl, by rw [htk]; exact hst⟩
    · rw [List.length_map _] at hI
      obtain ⟨f, x5, x6, x7, rfl, rfl, hf⟩ := hI
      rw [List.take_length] at hf
      have e := all_at hk (hf.end hrl)
      subst e
      refine wb_one (ws_ret ?_)
      walk_at "e"
      exact keep_drop (keep hR)
theorem ok_all_orders {f : Addr} {fd : FuncData} (F : Fun K "all_orders" "all_orders" s_all_orders f fd) (B : Bl mg) (c_look_small : Cal P w K mg base 9 "look_small" T_looks) (c_count_orders : Cal P w K mg base 11 "count_orders" T_count) (i_MOST : ∃ t, mg "MOST" = some (.int 300 t)) (c_next_people : Cal P w K mg base 3 "next_people" T_next) : FnG P w K mg base CX0 12 f fd ["company"] (spW K T_allords) := by
  refine fn_w F sc_all_orders (by decide) (fun xs μ R h => ?_) fun cdv A outer s H E hr hgd xs μ R hT => ?_
  · obtain ⟨dc, c, rfl, _⟩ := h
    rfl
  · obtain ⟨dc, c, rfl, hc, hl, hw, hlen3, hR⟩ := hT
    refine wb_names (N := ["company", "many", "found", "turn", "longer", "some", "person"]) rfl fun hn => ?_
    have n0 := hn 0 _ rfl
    have n1 := hn 1 _ rfl
    have n2 := hn 2 _ rfl
    have n3 := hn 3 _ rfl
    have n4 := hn 4 _ rfl
    have n5 := hn 5 _ rfl
    have n6 := hn 6 _ rfl
    obtain ⟨ds, hd0, al⟩ := hc.sq
    have hlen := allD_len al
    have hct := count_all c
    refine wb_cons (ws_expr ?_)
    refine we_callP c_look_small (by walk_at "room") rfl ?_
    refine wa_one ?_
    walk_at "e"
    refine ⟨_, _, rfl, by walk_at "so", by walk_at "so", by walk_at "so", ?_⟩
    refine wb_cons ?_
    refine ws_set 1 sc_all_orders.nd n1 (by walk_at "loc") (by first | exact .inl rfl | exact .inr rfl) ?_
    refine we_callP c_count_orders (by walk_at "room") rfl ?_
    refine wa_one ?_
    walk_at "e"
    refine ⟨_, _, rfl, by walk_at "so", by walk_at "so", by walk_at "so", ?_⟩
    refine wb_cons (ws_if ?_)
    refine wt_cmp (op := .Gt) op_gt (nomark _) ?_
    walk_at "e"
    refine we_gint rfl i_MOST ?_
    refine ow_cmp ⟨_, rfl, ?_⟩
    refine itF (decide_eq_false (by omega)) ?_
    refine wb_nil ?_
    refine wb_cons ?_
    refine ws_set 2 sc_all_orders.nd n2 (by walk_at "loc") (by first | exact .inl rfl | exact .inr rfl) ?_
    refine we_lst ?_
    refine wa_one ?_
    refine we_tup (wa_nil ?_)
    refine ⟨[], rfl, by simp, ?_⟩
    refine ⟨[.tuple []], rfl, by simp, fun p0 => ?_⟩
    refine wb_cons ?_
    refine ws_for [3] PassesOwn.never rfl ?_
    refine wi_rng rfl B.range ?_
    refine we_len B rfl ?_
    walk_at "e"
    refine ⟨_, (ct_sq (by assumption)), ?_⟩
    rw [hlen]
    refine ⟨c.length, rfl, by walk_at "so", fun i δ' μ' => ∃ pf x3 x4 x5 x6, δ' = [some (.d dc), some (.d (.int ((Wy c c.length [] : Nat) : Int))), some (.a pf), x3, x4, x5, x6] ∧ μ' = ((pf, (tups (allP c i))) :: μ : Cells) ∧ True, ⟨p0, _, _, _, _, rfl, rfl, trivial⟩, fun i d δ' μ' hd hI => ?_, fun δ' μ' hI => ?_⟩
    · obtain ⟨pf, x3, x4, x5, x6, rfl, rfl, _⟩ := hI
      obtain ⟨hi, rfl⟩ := rng_item hd
      have hgl := all_le hw (k := i) (by omega)
      have hgl2 := all_le hw (k := i + 1) (by omega)
      refine wg_name 3 sc_all_orders.nd n3 (by walk_at "loc") (by first | exact .inl rfl | exact .inr rfl) (by decide) ?_
      refine wb_cons ?_
      refine ws_set 4 sc_all_orders.nd n4 (by walk_at "loc") (by first | exact .inl rfl | exact .inr rfl) ?_
      refine we_lst ?_
      refine wa_nil ?_
      refine ⟨[], rfl, by simp, fun p1 => ?_⟩
      refine wb_cons ?_
      refine ws_forC [5] 2 PassesOwn.never rfl rfl (by with_unfolding_all exact Or.inl rfl) rfl (plS_map fun _ => rfl) (List.mem_of_getElem? (i := 1) rfl) ?_
      refine ⟨fun j δ' μ' => ∃ x5 x6, δ' = [some (.d dc), some (.d (.int ((Wy c c.length [] : Nat) : Int))), some (.a pf), some (.d (.int ((i : Nat) : Int))), some (.a p1), x5, x6] ∧ μ' = ((p1, (tups (((allP c i).take j).flatMap (stepP c)))) :: (pf, (tups (allP c i))) :: μ : Cells) ∧ True, ⟨_, _, rfl, rfl, trivial⟩, fun _ δ' μ' hI => ?_, fun j d δ' μ' hd hI => ?_, fun δ' μ' hI => ?_⟩
      · obtain ⟨x5, x6, rfl, rfl, _⟩ := hI
        exact List.mem_of_getElem? (i := 1) rfl
      · obtain ⟨x5, x6, rfl, rfl, _⟩ := hI
        obtain ⟨x, hx, rfl⟩ := map_item hd
        have hxm := mem_allP.mp (List.mem_of_getElem? hx)
        have hrr : ∀ y ∈ x, 0 ≤ y ∧ y < c.length := hxm.1.rg
        have hxl : x.length ≤ 12 := by omega
        have hnl := nexts_le9 c x
        have hsl : (stepP c x).length = (nexts c x).length := by rw [stepP_eq, List.length_map]
        have hfl : (((allP c i).take j).flatMap (stepP c)).length + (stepP c x).length ≤ 100000 := by
          have e := congrArg List.length (step_take hx)
          rw [List.length_append] at e
          have h2 : (((allP c i).take (j + 1)).flatMap (stepP c)).length ≤ ((allP c i).flatMap (stepP c)).length := by
            conv => rhs; rw [← List.take_append_drop (j + 1) (allP c i), List.flatMap_append, List.length_append]
            omega
          have h3 : ((allP c i).flatMap (stepP c)).length = (allP c (i + 1)).length := rfl
          omega
        refine wg_name 5 sc_all_orders.nd n5 (by walk_at "loc") (by first | exact .inl rfl | exact .inr rfl) (by decide) ?_
        refine wb_cons (ws_expr ?_)
        refine we_extend ?_
        walk_at "e"
        refine ⟨p1, _, ⟨0, rfl⟩, rfl, ?_⟩
        refine we_lc [("person", 6)] rfl sc_all_orders.nd (blkOk_by (N := ["company", "many", "found", "turn", "longer", "some", "person"]) (sc := defScope s_all_orders) (by decide +kernel)) (lcP PyData.int (fun _ => true) (fun y => .tuple (intsD (x ++ [y]))) ?_)
        refine wi_seq ?_
        refine we_fz ?_
        refine we_callP c_next_people (by walk_at "room") rfl ?_
        refine wa_cons ?_
        walk_at "e"
        refine wa_one ?_
        walk_at "e"
        refine ⟨_, c, _, x, rfl, by walk_at "so", .inr rfl, fun p2 => ⟨p2, _, _, rfl, rfl, by walk_at "pl", ?_⟩⟩
        refine ⟨_, (.l _), (nexts c x), rfl, by walk_at "so", fun y hx => ?_, fun zq => ?_⟩
        · skip
          intro s1 H1 C kl fp
          refine wg_name 6 sc_all_orders.nd n6 (by walk_at "loc") (by first | exact .inl rfl | exact .inr rfl) (by decide) ?_
          intro s1 H1 C kl fp
          refine wts_nil ⟨rfl, itT rfl ?_⟩
          intro s1 H1 C kl fp
          walk_at "e"
          walk_at "e"
          refine we_tup ?_
          refine wa_one ?_
          walk_at "e"
          refine ⟨intsD [y], rfl, by simp, ?_⟩
          refine ow_catT (by simp; omega) ?_
          rw [← ints_app]
          exact ⟨rfl, rfl⟩
        rw [filt_all]
        skip
        refine ⟨_, _, _, 1, 0, rfl, rfl, rfl, by rw [List.length_map, List.length_map]; omega, ?_⟩
        refine wb_drop ?_
        refine wb_nil ?_
        exact ⟨_, _, rfl, by rw [step_take hx, tups_step]; rfl, trivial⟩
      · rw [List.length_map _] at hI
        obtain ⟨x5, x6, rfl, rfl, _⟩ := hI
        refine wb_cons ?_
        refine ws_set 2 sc_all_orders.nd n2 (by walk_at "loc") (by first | exact .inl rfl | exact .inr rfl) ?_
        walk_at "e"
        rw [List.take_length]
        refine wb_frz 1 [] rfl (fun j hj => by cases hj) ?_
        refine wb_nil ?_
        exact ⟨p1, _, _, _, _, rfl, rfl, trivial⟩
    · rw [rng_items _] at hI
      obtain ⟨pf, x3, x4, x5, x6, rfl, rfl, _⟩ := hI
      refine wb_one (ws_ret ?_)
      walk_at "e"
      exact keep (hR _)
theorem ok_gcd {f : Addr} {fd : FuncData} (F : Fun K "gcd" "gcd" s_gcd f fd) (B : Bl mg) : FnG P w K mg base CX0 1 f fd ["one", "other"] (spW K T_gcd) := by
  refine fn_w F sc_gcd (by decide) (fun xs μ R h => ?_) fun cdv A outer s H E hr hgd xs μ R hT => ?_
  · obtain ⟨a, b, rfl, _⟩ := h
    rfl
  · obtain ⟨a, b, rfl, hb, ha, hR⟩ := hT
    refine wb_names (N := ["one", "other"]) rfl fun hn => ?_
    have n0 := hn 0 _ rfl
    have n1 := hn 1 _ rfl
    refine wb_cons ?_
    refine ws_while PassesOwn.never (fun k δ' μ' => ∃ x y : Nat, δ' = [some (.d (.int (x : Int))), some (.d (.int (y : Int)))] ∧ μ' = μ ∧ k = y ∧ Nat.gcd x y = Nat.gcd a b ∧ x < 1073741824 ∧ y < 1073741824) ⟨_, a, b, rfl, rfl, rfl, rfl, ha, hb⟩ ?_
    rintro k δ' μ' ⟨x, y, rfl, hmu, rfl, hg, hx, hy⟩
    obtain rfl := hmu.symm
    walk_at "t"
    walk_at "e"
    walk_at "e"
    refine ow_cmp ⟨_, rfl, ?_⟩
    by_cases h0 : 0 < k
    · refine itT (decide_eq_true (by omega)) ?_
      refine wb_one ?_
      refine ws_par 0 1 rfl sc_gcd.nd n0 n1 (by decide) rfl rfl ?_ (by rfl)
      walk_at "e"
      walk_at "e"
      walk_at "e"
      walk_at "e"
      refine ow_cnd (by first | exact ⟨by omega, by omega⟩ | (show (0 : Int) < _; omega)) ?_
      have hlt := Nat.mod_lt x h0
      exact ⟨x % k, hlt, k, x % k, by rw [Int.natCast_emod]; rfl, rfl, rfl, (gcd_go x k).trans hg, hy, by omega⟩
    · refine itF (decide_eq_false (by omega)) ?_
      have e : k = 0 := by omega
      subst e
      rw [Nat.gcd_zero_right] at hg
      subst hg
      refine wb_one (ws_ret ?_)
      walk_at "e"
      exact keep hR
theorem ok_reduced {f : Addr} {fd : FuncData} (F : Fun K "reduced" "reduced" s_reduced f fd) (B : Bl mg) (c_gcd : Cal P w K mg base 1 "gcd" T_gcd) : FnG P w K mg base CX0 2 f fd ["numerator", "denominator"] (spW K T_red) := by
  refine fn_w F sc_reduced (by decide) (fun xs μ R h => ?_) fun cdv A outer s H E hr hgd xs μ R hT => ?_
  · obtain ⟨a, b, rfl, _⟩ := h
    rfl
  · obtain ⟨a, b, rfl, hb0, hb, ha, hR⟩ := hT
    refine wb_names (N := ["numerator", "denominator", "common"]) rfl fun hn => ?_
    have n0 := hn 0 _ rfl
    have n1 := hn 1 _ rfl
    have n2 := hn 2 _ rfl
    have hg0 : 0 < Nat.gcd a b := Nat.gcd_pos_of_pos_right a hb0
    have hg1 : Nat.gcd a b ≤ b := Nat.gcd_le_right a hb0
    refine wb_cons ?_
    refine ws_set 2 sc_reduced.nd n2 (by walk_at "loc") (by first | exact .inl rfl | exact .inr rfl) ?_
    refine we_callP c_gcd (by walk_at "room") rfl ?_
    refine wa_cons ?_
    walk_at "e"
    refine wa_one ?_
    walk_at "e"
    refine ⟨a, b, rfl, by omega, by omega, ?_⟩
    refine wb_one (ws_ret ?_)
    refine we_tup ?_
    refine wa_cons ?_
    walk_at "e"
    walk_at "e"
    walk_at "e"
    refine ow_cnd (C := CDiv) (by exact ⟨by omega, by omega⟩) ?_
    refine wa_one ?_
    walk_at "e"
    walk_at "e"
    walk_at "e"
    refine ow_cnd (C := CDiv) (by exact ⟨by omega, by omega⟩) ?_
    refine ⟨intsD [((a : Int) / ((Nat.gcd a b : Nat) : Int)), ((b : Int) / ((Nat.gcd a b : Nat) : Int))], rfl, by simp, ?_⟩
    rw [← Int.natCast_ediv, ← Int.natCast_ediv]
    exact keep hR
theorem ok_index_ways {f : Addr} {fd : FuncData} (F : Fun K "index_ways" "index_ways" s_index_ways f fd) (B : Bl mg) (c_endings : Cal P w K mg base 4 "endings" T_ends) (c_layers : Cal P w K mg base 4 "layers" T_layers) (c_next_people : Cal P w K mg base 3 "next_people" T_next) : FnG P w K mg base CX0 5 f fd ["company", "person"] (spW K T_ixw) := by
  refine fn_w F sc_index_ways (by decide) (fun xs μ R h => ?_) fun cdv A outer s H E hr hgd xs μ R hT => ?_
  · obtain ⟨dc, c, p, rfl, _⟩ := h
    rfl
  · obtain ⟨dc, c, p, rfl, hc, hl, hw, hp0, hp1, hfl, hR⟩ := hT
    refine wb_names (N := ["company", "person", "some", "ways", "found", "layer", "total", "there", "begun"]) rfl fun hn => ?_
    have n0 := hn 0 _ rfl
    have n1 := hn 1 _ rfl
    have n2 := hn 2 _ rfl
    have n3 := hn 3 _ rfl
    have n4 := hn 4 _ rfl
    have n5 := hn 5 _ rfl
    have n6 := hn 6 _ rfl
    have n7 := hn 7 _ rfl
    have n8 := hn 8 _ rfl
    refine wb_cons ?_
    refine ws_set 2 sc_index_ways.nd n2 (by walk_at "loc") (by first | exact .inl rfl | exact .inr rfl) ?_
    refine we_callP c_layers (by walk_at "room") rfl ?_
    refine wa_one ?_
    walk_at "e"
    refine ⟨_, c, rfl, hc, hl, fun ps Zs hZ => ?_⟩
    refine wb_cons ?_
    refine ws_par 3 4 rfl sc_index_ways.nd n3 n4 (by decide) rfl rfl ?_ (by rfl)
    refine we_callB 0 c_endings (by walk_at "room") rfl ?_
    refine wa_cons ?_
    walk_at "e"
    refine wa_one ?_
    walk_at "e"
    refine ⟨ps, _, rfl, ⟨_, c, ps, Zs, rfl, hc, hl, hZ, rfl, fun pw D hD => ⟨[(pw, Cont.t (ivD D))], _, rfl, ?_⟩⟩⟩
    refine we_lst (wa_nil ⟨[], rfl, by decide, fun pf => ?_⟩)
    refine wb_cons ?_
    refine ws_forZ [5] PassesOwn.never rfl ?_
    refine we_slC ?_
    walk_at "e"
    refine wo_none ?_
    refine wo_some ?_
    walk_at "e"
    walk_at "e"
    refine uw_neg ?_
    refine ⟨_, rfl, ?_⟩
    refine ⟨ps, _, 2, rfl, rfl, fun pc => ?_⟩
    rw [cut_last hZ.1]
    refine ⟨pc, Zs.take c.length, rfl, List.mem_cons_self, fun i δ' μ' => ∃ x5 x6 x7 x8, δ' = [some (.d dc), some (.d (.int p)), some (.a ps), some (.a pw), some (.a pf), x5, x6, x7, x8] ∧ μ' = ((pc, Cont.l (zds (Zs.take c.length))) :: (pf, Cont.l (natsD ((List.range i).map (cnI c p)))) :: (pw, Cont.t (ivD D)) :: (ps, Cont.l (zds Zs)) :: μ : Cells), ⟨_, _, _, _, rfl, rfl⟩, fun i δ' μ' hI => ?_, fun i z δ' μ' hz hI => ?_, fun δ' μ' hI => ?_⟩
    · obtain ⟨x5, x6, x7, x8, rfl, rfl⟩ := hI
      exact List.mem_cons_self
    · obtain ⟨x5, x6, x7, x8, rfl, rfl⟩ := hI
      have hil := (List.getElem?_eq_some_iff.mp hz).1
      rw [List.length_take, hZ.1, Nat.min_eq_left (by omega)] at hil
      rw [List.getElem?_take, if_pos hil] at hz
      obtain ⟨Li, ez, hLi⟩ := hZ.2 _ _ hz
      obtain ⟨pz, kz⟩ := z
      have ekz : kz = ivD Li := ez
      subst ekz
      refine wg_name 5 sc_index_ways.nd n5 (by walk_at "loc") (by first | exact .inl rfl | exact .inr rfl) (by decide) ?_
      refine wb_cons ?_
      refine ws_set 6 sc_index_ways.nd n6 (by walk_at "loc") (by first | exact .inl rfl | exact .inr rfl) ?_
      walk_at "e"
      refine wb_cons ?_
      refine ws_forW [7, 8] PassesOwn.never rfl ?_
      refine wi_itemsT ?_
      walk_at "e"
      refine ⟨pz, _, .inr rfl, fun j δ' μ' => ∃ x7 x8, δ' = [some (.d dc), some (.d (.int p)), some (.a ps), some (.a pw), some (.a pf), some (.z pz (ivD Li)), some (.d (.int (((Li.take j).map (lyf c i p fun _ => true)).sum))), x7, x8] ∧ μ' = ((pc, Cont.l (zds (Zs.take c.length))) :: (pf, Cont.l (natsD ((List.range i).map (cnI c p)))) :: (pw, Cont.t (ivD D)) :: (ps, Cont.l (zds Zs)) :: μ : Cells), ⟨_, _, rfl, rfl⟩, fun j d δ' μ' hd hI => ?_, fun δ' μ' hI => ?_⟩
      · obtain ⟨x7, x8, rfl, rfl⟩ := hI
        obtain ⟨q, hq, rfl⟩ := itm_item hd
        obtain ⟨r0, hr0, hrl, her, hmr⟩ := hLi.row hq
        have hql : q.1.length ≤ 12 := by
          rw [← her, (srt_perm r0).length_eq, hrl]
          omega
        have hrg : ∀ x ∈ q.1, 0 ≤ x ∧ x < c.length := fun x m => hr0.rg x ((hmr x).mp m)
        have htk := lyf_take (c := c) (i := i) (p := p) (b := fun _ => true) hq
        refine wg_tupW (ds := [_, _]) rfl ?_
        refine wgs_cons ?_
        refine wg_name 7 sc_index_ways.nd n7 (by walk_at "loc") (by first | exact .inl rfl | exact .inr rfl) (by decide) ?_
        refine wgs_cons ?_
        refine wg_name 8 sc_index_ways.nd n8 (by walk_at "loc") (by first | exact .inl rfl | exact .inr rfl) (by decide) ?_
        refine wgs_nil ?_
        refine wb_one (ws_if ?_)
        refine wt_cmp (op := .In) op_in_seq (by walk_at "rfl") ?_
        walk_at "e"
        refine we_fz ?_
        refine we_callP c_next_people (by walk_at "room") rfl ?_
        refine wa_cons ?_
        walk_at "e"
        refine wa_one ?_
        walk_at "e"
        refine ⟨_, c, _, q.1, rfl, by walk_at "so", .inr rfl, fun p1 => ⟨p1, _, _, rfl, rfl, by walk_at "pl", ?_⟩⟩
        refine ow_in (.l _) rfl (flat_ints _) ⟨_, rfl, ?_⟩
        rw [inD_int]
        by_cases hpn : p ∈ nexts c q.1
        · refine itT (decide_eq_true hpn) ?_
          have hpn' : p ∈ nexts c r0 := by rw [← nexts_congr hmr]; exact hpn
          have hen := hD.next hr0 hpn'
          have hwl := Wy_next hr0 hpn'
          rw [hrl] at hen hwl
          rw [← Wy_congr _ (app_mem hmr)] at hen hwl
          rw [show srt (r0 ++ [p]) = srt (q.1 ++ [p]) from by rw [← her, srt_app]] at hen
          have hly : lyf c i p (fun _ => true) q = q.2 * ((Wy c (c.length - (i + 1)) (q.1 ++ [p]) : Nat) : Int) := if_pos (by rw [decide_eq_true hpn]; rfl)
          refine wb_cons ?_
          refine ws_aug 6 sc_index_ways.nd n6 (by walk_at "loc") (by first | exact .inl rfl | exact .inr rfl) rfl iop_add ?_
          walk_at "e"
          walk_at "e"
          refine we_tget (Nat.lt_of_le_of_lt (Nat.add_le_add_left (by decide : 1 ≤ 65) _) (room65 (k := 0) (by with_unfolding_all exact Room.mono (by assumption) (Nat.zero_le _)))) ?_
          walk_at "e"
          refine we_tuple B rfl ?_
          refine we_fz ?_
          refine we_sortedT B rfl ?_
          walk_at "e"
          walk_at "e"
          refine we_tup ?_
          refine wa_one ?_
          walk_at "e"
          refine ⟨intsD [p], rfl, by simp, ?_⟩
          refine ow_catT (by simp; omega) ?_
          rw [← ints_app]
          refine ⟨(q.1 ++ [p]), rfl, by walk_at "so", fun p2 => ⟨p2, _, _, rfl, rfl, by walk_at "pl", ?_⟩⟩
          refine ⟨_, (.l _), ?_⟩
          refine ⟨_, _, _, .c 2 rfl, rfl, by rw [getT_iv, hen]; rfl, ?_⟩
          refine ow_mul (by exact .inr ⟨by omega, by omega⟩) ?_
          refine ow_iadd ?_
          refine wb_nil ?_
          exact ⟨_, _, by rw [htk, hly]; rfl, rfl⟩
        · refine itF (decide_eq_false hpn) ?_
          have hly : lyf c i p (fun _ => true) q = 0 := if_neg (by simp [hpn])
          refine wb_nil ?_
          exact ⟨_, _, by rw [htk, hly, Int.add_zero]; rfl, rfl⟩
      · obtain ⟨x7, x8, rfl, rfl⟩ := hI
        rw [itm_len, List.take_length, show (Li.map (lyf c i p fun _ => true)).sum = ((cnI c p i : Nat) : Int) from by rw [← ix_all hil ⟨hp0, hp1⟩, ← lay_sum hLi p (fun _ => true) (fun _ _ _ => rfl)]; rfl]
        refine wb_one (ws_expr ?_)
        refine we_append ?_
        walk_at "e"
        refine ⟨pf, _, ⟨1, rfl⟩, rfl, ?_⟩
        walk_at "e"
        refine ⟨_, _, 1, rfl, rfl, by rw [List.length_map, List.length_map, List.length_range]; omega, ?_⟩
        exact ⟨_, _, _, _, rfl, by rw [nats_snoc]; rfl⟩
    · obtain ⟨x5, x6, x7, x8, rfl, rfl⟩ := hI
      rw [List.length_take, hZ.1, Nat.min_eq_left (by omega)]
      refine wb_one (ws_ret ?_)
      walk_at "e"
      exact keep_drop (keep_perm (List.Perm.swap _ _ _) (keep_drop (keep_perm (List.Perm.swap _ _ _) (keep_drop (keep (hR _))))))
theorem ok_chances_of {f : Addr} {fd : FuncData} (F : Fun K "chances_of" "chances_of" s_chances_of f fd) (B : Bl mg) (c_look_small : Cal P w K mg base 9 "look_small" T_looks) (c_look_person : Cal P w K mg base 1 "look_person" T_lookp) (c_index_ways : Cal P w K mg base 5 "index_ways" T_ixw) (c_reduced : Cal P w K mg base 2 "reduced" T_red) : FnG P w K mg base CX0 10 f fd ["company", "person"] (spW K T_chances) := by
  refine fn_w F sc_chances_of (by decide) (fun xs μ R h => ?_) fun cdv A outer s H E hr hgd xs μ R hT => ?_
  · obtain ⟨dc, c, p, rfl, _⟩ := h
    rfl
  · obtain ⟨dc, c, p, rfl, hc, hl, hw, hp0, hp1, hfl, hR⟩ := hT
    refine wb_names (N := ["company", "person", "found", "ways"]) rfl fun hn => ?_
    have n0 := hn 0 _ rfl
    have n1 := hn 1 _ rfl
    have n2 := hn 2 _ rfl
    have n3 := hn 3 _ rfl
    have hsp := all_some hw
    have hct := cn_total (c := c) ⟨hp0, hp1⟩
    refine wb_cons (ws_expr ?_)
    refine we_callP c_look_small (by walk_at "room") rfl ?_
    refine wa_one ?_
    walk_at "e"
    refine ⟨_, _, rfl, by walk_at "so", by walk_at "so", by walk_at "so", ?_⟩
    refine wb_cons (ws_expr ?_)
    refine we_callP c_look_person (by walk_at "room") rfl ?_
    refine wa_cons ?_
    walk_at "e"
    refine wa_one ?_
    walk_at "e"
    refine ⟨_, _, _, rfl, by walk_at "so", by walk_at "so", by walk_at "so", ?_⟩
    refine wb_cons ?_
    refine ws_set 2 sc_chances_of.nd n2 (by walk_at "loc") (by first | exact .inl rfl | exact .inr rfl) ?_
    refine we_fz ?_
    refine we_callP c_index_ways (by walk_at "room") rfl ?_
    refine wa_cons ?_
    walk_at "e"
    refine wa_one ?_
    walk_at "e"
    refine ⟨_, c, p, rfl, hc, hl, hw, hp0, hp1, hfl, fun p1 => ⟨p1, _, _, rfl, rfl, by walk_at "pl", ?_⟩⟩
    refine wb_one (ws_ret ?_)
    refine we_lc [("ways", 3)] rfl sc_chances_of.nd (blkOk_by (N := ["company", "person", "found", "ways"]) (sc := defScope s_chances_of) (by decide +kernel)) (lcP (fun x : Nat => PyData.int (x : Int)) (fun _ => true) (fun x => .tuple (intsD (red x (allP c c.length).length))) ?_)
    refine wi_seq ?_
    walk_at "e"
    refine ⟨_, .l _, ((List.range c.length).map (cnI c p)), rfl, by rw [List.length_map, List.length_range]; omega, fun x hx => ?_, fun zq => ?_⟩
    · have hxl : x ≤ (allP c c.length).length := by
        obtain ⟨i, _, rfl⟩ := List.mem_map.mp hx
        exact cn_le i
      intro s1 H1 C kl fp
      refine wg_name 3 sc_chances_of.nd n3 (by walk_at "loc") (by first | exact .inl rfl | exact .inr rfl) (by decide) ?_
      intro s1 H1 C kl fp
      refine wts_nil ⟨rfl, itT rfl ?_⟩
      intro s1 H1 C kl fp
      refine we_callP c_reduced (by walk_at "room") rfl ?_
      refine wa_cons ?_
      walk_at "e"
      refine wa_one ?_
      refine we_sum B rfl rfl ?_
      walk_at "e"
      refine ⟨((List.range c.length).map (cnI c p)).map fun x : Nat => (x : Int), by rw [natsD_ints], ?_⟩
      rw [show (((List.range c.length).map (cnI c p)).map fun x : Nat => (x : Int)).sum = (((allP c c.length).length : Nat) : Int) from by rw [← hct, natsum_cast, List.map_map]; rfl]
      refine ⟨x, _, rfl, hsp, by omega, by omega, ?_⟩
      exact ⟨rfl, rfl⟩
    rw [filt_all, List.map_map]
    refine keep ?_
    have := hR zq
    unfold tups at this
    rw [List.map_map] at this
    exact this
theorem ok_earliest_place {f : Addr} {fd : FuncData} (F : Fun K "earliest_place" "earliest_place" s_earliest_place f fd) (B : Bl mg) (c_index_ways : Cal P w K mg base 5 "index_ways" T_ixw) (c_look_small : Cal P w K mg base 9 "look_small" T_looks) (c_look_person : Cal P w K mg base 1 "look_person" T_lookp) : FnG P w K mg base CX0 10 f fd ["company", "person"] (spW K T_earliest) := by
  refine fn_w F sc_earliest_place (by decide) (fun xs μ R h => ?_) fun cdv A outer s H E hr hgd xs μ R hT => ?_
  · obtain ⟨dc, c, p, k, rfl, _⟩ := h
    rfl
  · obtain ⟨dc, c, p, k, rfl, hc, hl, hw, hp0, hp1, hfl, hk1, hk2, hR⟩ := hT
    refine wb_names (N := ["company", "person", "place", "ways"]) rfl fun hn => ?_
    have n0 := hn 0 _ rfl
    have n1 := hn 1 _ rfl
    have n2 := hn 2 _ rfl
    have n3 := hn 3 _ rfl
    refine wb_cons (ws_expr ?_)
    refine we_callP c_look_small (by walk_at "room") rfl ?_
    refine wa_one ?_
    walk_at "e"
    refine ⟨_, _, rfl, by walk_at "so", by walk_at "so", by walk_at "so", ?_⟩
    refine wb_cons (ws_expr ?_)
    refine we_callP c_look_person (by walk_at "room") rfl ?_
    refine wa_cons ?_
    walk_at "e"
    refine wa_one ?_
    walk_at "e"
    refine ⟨_, _, _, rfl, by walk_at "so", by walk_at "so", by walk_at "so", ?_⟩
    have hkn : k < c.length := by
      by_cases e : k < c.length
      · exact e
      · exfalso
        have h0 : cnI c p k = 0 := by
          unfold cnI
          rw [List.countP_eq_zero]
          intro s hs z
          have := all_pos ⟨hp0, hp1⟩ s hs
          have z' : posn p s = k := by simpa using z
          omega
        omega
    obtain ⟨l, hl2⟩ := least_at hkn hk1 hk2
    refine wb_one (ws_ret ?_)
    walk_at "e"
    refine we_fz ?_
    refine we_lcW [("place", 2), ("ways", 3)] rfl sc_earliest_place.nd (blkOk_by (N := ["company", "person", "place", "ways"]) (sc := defScope s_earliest_place) (by decide +kernel)) (lcW (fun i : Nat => .tuple [.int (i : Int), .int ((cnI c p i : Nat) : Int)]) (fun i => decide (0 < cnI c p i)) (fun i : Nat => .int (i : Int)) ?_)
    refine wi_enum rfl B.enum ?_
    refine wa_one ?_
    refine we_fz ?_
    refine we_callP c_index_ways (by walk_at "room") rfl ?_
    refine wa_cons ?_
    walk_at "e"
    refine wa_one ?_
    walk_at "e"
    refine ⟨_, c, p, rfl, hc, hl, hw, hp0, hp1, hfl, fun p1 => ⟨p1, _, _, rfl, rfl, by walk_at "pl", ?_⟩⟩
    refine ⟨_, _, rfl, (.l _), List.range c.length, enum_nats _ _, by rw [List.length_range]; omega, fun i hi => ?_, fun zq => ?_⟩
    · intro s1 H1 C kl fp
      refine wg_tupW (ds := [_, _]) rfl ?_
      refine wgs_cons ?_
      refine wg_name 2 sc_earliest_place.nd n2 (by walk_at "loc") (by first | exact .inl rfl | exact .inr rfl) (by decide) ?_
      refine wgs_cons ?_
      refine wg_name 3 sc_earliest_place.nd n3 (by walk_at "loc") (by first | exact .inl rfl | exact .inr rfl) (by decide) ?_
      refine wgs_nil ?_
      intro s1 H1 C kl fp
      show WT _ _ _ _ _
      walk_at "t"
      walk_at "e"
      walk_at "e"
      refine ow_cmp ⟨_, rfl, ?_⟩
      rw [show decide (((cnI c p i : Nat) : Int) > 0) = decide (0 < cnI c p i) from decide_eq_decide.mpr (by omega)]
      refine ⟨rfl, ?_⟩
      split
      · intro s1 H1 C kl fp
        walk_at "e"
        exact ⟨rfl, rfl⟩
      · rfl
    refine ⟨zq, _, _, rfl, rfl, plS_map fun _ => rfl, ?_⟩
    walk_at "e"
    rw [hl2]
    refine ow_ix (.l _) (atI_nat (j := 0) rfl) ?_
    exact keep hR
theorem ok_chance_before {f : Addr} {fd : FuncData} (F : Fun K "chance_before" "chance_before" s_chance_before f fd) (B : Bl mg) (c_endings : Cal P w K mg base 4 "endings" T_ends) (c_layers : Cal P w K mg base 4 "layers" T_layers) (c_look_small : Cal P w K mg base 9 "look_small" T_looks) (c_look_person : Cal P w K mg base 1 "look_person" T_lookp) (c_next_people : Cal P w K mg base 3 "next_people" T_next) (c_reduced : Cal P w K mg base 2 "reduced" T_red) : FnG P w K mg base CX0 10 f fd ["company", "one", "other"] (spW K T_chb) := by
  refine fn_w F sc_chance_before (by decide) (fun xs μ R h => ?_) fun cdv A outer s H E hr hgd xs μ R hT => ?_
  · obtain ⟨dc, c, p, o, rfl, _⟩ := h
    rfl
  · obtain ⟨dc, c, p, o, rfl, hc, hl, hw, hp, ho, hne, hfl, hR⟩ := hT
    refine wb_names (N := ["company", "one", "other", "some", "ways", "found", "layer", "there", "begun"]) rfl fun hn => ?_
    have n0 := hn 0 _ rfl
    have n1 := hn 1 _ rfl
    have n2 := hn 2 _ rfl
    have n3 := hn 3 _ rfl
    have n4 := hn 4 _ rfl
    have n5 := hn 5 _ rfl
    have n6 := hn 6 _ rfl
    have n7 := hn 7 _ rfl
    have n8 := hn 8 _ rfl
    have hsp := all_some hw
    have hct := count_all c
    refine wb_cons (ws_expr ?_)
    refine we_callP c_look_small (by walk_at "room") rfl ?_
    refine wa_one ?_
    walk_at "e"
    refine ⟨_, _, rfl, by walk_at "so", by omega, hw, ?_⟩
    refine wb_cons (ws_expr ?_)
    refine we_callP c_look_person (by walk_at "room") rfl ?_
    refine wa_cons ?_
    walk_at "e"
    refine wa_one ?_
    walk_at "e"
    refine ⟨_, _, _, rfl, by walk_at "so", by walk_at "so", by walk_at "so", ?_⟩
    refine wb_cons (ws_expr ?_)
    refine we_callP c_look_person (by walk_at "room") rfl ?_
    refine wa_cons ?_
    walk_at "e"
    refine wa_one ?_
    walk_at "e"
    refine ⟨_, _, _, rfl, by walk_at "so", by walk_at "so", by walk_at "so", ?_⟩
    refine wb_cons ?_
    refine ws_set 3 sc_chance_before.nd n3 (by walk_at "loc") (by first | exact .inl rfl | exact .inr rfl) ?_
    refine we_callP c_layers (by walk_at "room") rfl ?_
    refine wa_one ?_
    walk_at "e"
    refine ⟨_, c, rfl, hc, hl, fun ps Zs hZ => ?_⟩
    refine wb_cons ?_
    refine ws_par 4 5 rfl sc_chance_before.nd n4 n5 (by decide) rfl rfl ?_ (by rfl)
    refine we_callB 0 c_endings (by walk_at "room") rfl ?_
    refine wa_cons ?_
    walk_at "e"
    refine wa_one ?_
    walk_at "e"
    refine ⟨ps, _, rfl, ⟨_, c, ps, Zs, rfl, hc, hl, hZ, rfl, fun pw D hD => ⟨[(pw, Cont.t (ivD D))], _, rfl, ?_⟩⟩⟩
    walk_at "e"
    refine wb_cons ?_
    refine ws_forZ [6] PassesOwn.never rfl ?_
    walk_at "e"
    refine ⟨ps, Zs, rfl, List.mem_of_getElem? (i := 1) rfl, fun i δ' μ' => ∃ x6 x7 x8, δ' = [some (.d dc), some (.d (.int p)), some (.d (.int o)), some (.a ps), some (.a pw), some (.d (.int (((((List.range i).map (ixS c p (fun t => !decide (o ∈ t)))).sum : Nat) : Int)))), x6, x7, x8] ∧ μ' = ((pw, Cont.t (ivD D)) :: (ps, Cont.l (zds Zs)) :: μ : Cells), ⟨_, _, _, rfl, rfl⟩, fun i δ' μ' hI => ?_, fun i z δ' μ' hz hI => ?_, fun δ' μ' hI => ?_⟩
    · obtain ⟨x6, x7, x8, rfl, rfl⟩ := hI
      exact List.mem_of_getElem? (i := 1) rfl
    · obtain ⟨x6, x7, x8, rfl, rfl⟩ := hI
      have hil := (List.getElem?_eq_some_iff.mp hz).1
      rw [hZ.1] at hil
      obtain ⟨Li, ez, hLi⟩ := hZ.2 _ _ hz
      obtain ⟨pz, kz⟩ := z
      have ekz : kz = ivD Li := ez
      subst ekz
      refine wg_name 6 sc_chance_before.nd n6 (by walk_at "loc") (by first | exact .inl rfl | exact .inr rfl) (by decide) ?_
      refine wb_one ?_
      refine ws_forW [7, 8] PassesOwn.never rfl ?_
      refine wi_itemsT ?_
      walk_at "e"
      refine ⟨pz, _, .inr rfl, fun j δ' μ' => ∃ x7 x8, δ' = [some (.d dc), some (.d (.int p)), some (.d (.int o)), some (.a ps), some (.a pw), some (.d (.int (((((List.range i).map (ixS c p (fun t => !decide (o ∈ t)))).sum : Nat) : Int) + ((Li.take j).map (lyf c i p (fun t => !decide (o ∈ t)))).sum))), some (.z pz (ivD Li)), x7, x8] ∧ μ' = ((pw, Cont.t (ivD D)) :: (ps, Cont.l (zds Zs)) :: μ : Cells), ⟨_, _, by rw [List.take_zero, List.map_nil, List.sum_nil, Int.add_zero]; rfl, rfl⟩, fun j d δ' μ' hd hI => ?_, fun δ' μ' hI => ?_⟩
      · obtain ⟨x7, x8, rfl, rfl⟩ := hI
        obtain ⟨q, hq, rfl⟩ := itm_item hd
        obtain ⟨r0, hr0, hrl, her, hmr⟩ := hLi.row hq
        have hql : q.1.length ≤ 12 := by
          rw [← her, (srt_perm r0).length_eq, hrl]
          omega
        have hrg : ∀ x ∈ q.1, 0 ≤ x ∧ x < c.length := fun x m => hr0.rg x ((hmr x).mp m)
        have htk := lyf_take (c := c) (i := i) (p := p) (b := (fun t => !decide (o ∈ t))) hq
        refine wg_tupW (ds := [_, _]) rfl ?_
        refine wgs_cons ?_
        refine wg_name 7 sc_chance_before.nd n7 (by walk_at "loc") (by first | exact .inl rfl | exact .inr rfl) (by decide) ?_
        refine wgs_cons ?_
        refine wg_name 8 sc_chance_before.nd n8 (by walk_at "loc") (by first | exact .inl rfl | exact .inr rfl) (by decide) ?_
        refine wgs_nil ?_
        by_cases hot : o ∈ q.1
        · skip
          refine wb_one (ws_if ?_)
          refine wt_w ?_
          refine ww_and ?_
          refine wt_cmp (op := .NotIn) op_notIn_seq (by walk_at "rfl") ?_
          walk_at "e"
          walk_at "e"
          refine ow_ni (.t _) rfl (flat_ints _) ⟨_, rfl, ?_⟩
          rw [inD_int]
          refine itF (by rw [decide_eq_true hot]; rfl) ?_
          have hly : lyf c i p (fun t => !decide (o ∈ t)) q = 0 := if_neg (by simp [hot])
          refine wb_nil ?_
          exact ⟨_, _, by rw [htk, hly, Int.add_zero]; rfl, rfl⟩
        · by_cases hpt : p ∈ q.1
          · skip
            refine wb_one (ws_if ?_)
            refine wt_w ?_
            refine ww_and ?_
            refine wt_cmp (op := .NotIn) op_notIn_seq (by walk_at "rfl") ?_
            walk_at "e"
            walk_at "e"
            refine ow_ni (.t _) rfl (flat_ints _) ⟨_, rfl, ?_⟩
            rw [inD_int]
            refine itT (by rw [decide_eq_false hot]; rfl) ?_
            refine ww_and ?_
            refine wt_cmp (op := .NotIn) op_notIn_seq (by walk_at "rfl") ?_
            walk_at "e"
            walk_at "e"
            refine ow_ni (.t _) rfl (flat_ints _) ⟨_, rfl, ?_⟩
            rw [inD_int]
            refine itF (by rw [decide_eq_true hpt]; rfl) ?_
            have hpn : p ∉ nexts c q.1 := fun z => (mem_nexts.mp z).2.1 hpt
            have hly : lyf c i p (fun t => !decide (o ∈ t)) q = 0 := if_neg (by simp [hpn])
            refine wb_nil ?_
            exact ⟨_, _, by rw [htk, hly, Int.add_zero]; rfl, rfl⟩
          · by_cases hpn : p ∈ nexts c q.1
            · skip
              refine wb_one (ws_if ?_)
              refine wt_w ?_
              refine ww_and ?_
              refine wt_cmp (op := .NotIn) op_notIn_seq (by walk_at "rfl") ?_
              walk_at "e"
              walk_at "e"
              refine ow_ni (.t _) rfl (flat_ints _) ⟨_, rfl, ?_⟩
              rw [inD_int]
              refine itT (by rw [decide_eq_false hot]; rfl) ?_
              refine ww_and ?_
              refine wt_cmp (op := .NotIn) op_notIn_seq (by walk_at "rfl") ?_
              walk_at "e"
              walk_at "e"
              refine ow_ni (.t _) rfl (flat_ints _) ⟨_, rfl, ?_⟩
              rw [inD_int]
              refine itT (by rw [decide_eq_false hpt]; rfl) ?_
              refine ww_and1 ?_
              refine wt_cmp (op := .In) op_in_seq (by walk_at "rfl") ?_
              walk_at "e"
              refine we_fz ?_
              refine we_callP c_next_people (by walk_at "room") rfl ?_
              refine wa_cons ?_
              walk_at "e"
              refine wa_one ?_
              walk_at "e"
              refine ⟨_, c, _, q.1, rfl, by walk_at "so", .inr rfl, fun p1 => ⟨p1, _, _, rfl, rfl, by walk_at "pl", ?_⟩⟩
              refine ow_in (.l _) rfl (flat_ints _) ⟨_, rfl, ?_⟩
              rw [inD_int]
              refine itT (decide_eq_true hpn) ?_
              have hpn' : p ∈ nexts c r0 := by rw [← nexts_congr hmr]; exact hpn
              have hen := hD.next hr0 hpn'
              have hwl := Wy_next hr0 hpn'
              rw [hrl] at hen hwl
              rw [← Wy_congr _ (app_mem hmr)] at hen hwl
              rw [show srt (r0 ++ [p]) = srt (q.1 ++ [p]) from by rw [← her, srt_app]] at hen
              have hly : lyf c i p (fun t => !decide (o ∈ t)) q = q.2 * ((Wy c (c.length - (i + 1)) (q.1 ++ [p]) : Nat) : Int) := if_pos (by simp [hpn, hot])
              refine wb_cons ?_
              refine ws_aug 5 sc_chance_before.nd n5 (by walk_at "loc") (by first | exact .inl rfl | exact .inr rfl) rfl iop_add ?_
              walk_at "e"
              walk_at "e"
              refine we_tget (Nat.lt_of_le_of_lt (Nat.add_le_add_left (by decide : 1 ≤ 65) _) (room65 (k := 0) (by with_unfolding_all exact Room.mono (by assumption) (Nat.zero_le _)))) ?_
              walk_at "e"
              refine we_tuple B rfl ?_
              refine we_fz ?_
              refine we_sortedT B rfl ?_
              walk_at "e"
              walk_at "e"
              refine we_tup ?_
              refine wa_one ?_
              walk_at "e"
              refine ⟨intsD [p], rfl, by simp, ?_⟩
              refine ow_catT (by simp; omega) ?_
              rw [← ints_app]
              refine ⟨(q.1 ++ [p]), rfl, by walk_at "so", fun p2 => ⟨p2, _, _, rfl, rfl, by walk_at "pl", ?_⟩⟩
              refine ⟨_, (.l _), ?_⟩
              refine ⟨_, _, _, .c 0 rfl, rfl, by rw [getT_iv, hen]; rfl, ?_⟩
              refine ow_mul (by exact .inr ⟨by omega, by omega⟩) ?_
              refine ow_iadd ?_
              refine wb_nil ?_
              exact ⟨_, _, by rw [htk, hly, ← Int.add_assoc]; rfl, rfl⟩
            · skip
              refine wb_one (ws_if ?_)
              refine wt_w ?_
              refine ww_and ?_
              refine wt_cmp (op := .NotIn) op_notIn_seq (by walk_at "rfl") ?_
              walk_at "e"
              walk_at "e"
              refine ow_ni (.t _) rfl (flat_ints _) ⟨_, rfl, ?_⟩
              rw [inD_int]
              refine itT (by rw [decide_eq_false hot]; rfl) ?_
              refine ww_and ?_
              refine wt_cmp (op := .NotIn) op_notIn_seq (by walk_at "rfl") ?_
              walk_at "e"
              walk_at "e"
              refine ow_ni (.t _) rfl (flat_ints _) ⟨_, rfl, ?_⟩
              rw [inD_int]
              refine itT (by rw [decide_eq_false hpt]; rfl) ?_
              refine ww_and1 ?_
              refine wt_cmp (op := .In) op_in_seq (by walk_at "rfl") ?_
              walk_at "e"
              refine we_fz ?_
              refine we_callP c_next_people (by walk_at "room") rfl ?_
              refine wa_cons ?_
              walk_at "e"
              refine wa_one ?_
              walk_at "e"
              refine ⟨_, c, _, q.1, rfl, by walk_at "so", .inr rfl, fun p3 => ⟨p3, _, _, rfl, rfl, by walk_at "pl", ?_⟩⟩
              refine ow_in (.l _) rfl (flat_ints _) ⟨_, rfl, ?_⟩
              rw [inD_int]
              refine itF (decide_eq_false hpn) ?_
              have hly : lyf c i p (fun t => !decide (o ∈ t)) q = 0 := if_neg (by simp [hpn])
              refine wb_nil ?_
              exact ⟨_, _, by rw [htk, hly, Int.add_zero]; rfl, rfl⟩
      · obtain ⟨x7, x8, rfl, rfl⟩ := hI
        rw [itm_len, List.take_length]
        exact ⟨_, _, _, by rw [show (Li.map (lyf c i p (fun t => !decide (o ∈ t)))).sum = ((ixS c p (fun t => !decide (o ∈ t)) i : Nat) : Int) from by rw [← lay_sum hLi p (fun t => !decide (o ∈ t)) (fun r s h => by rw [decide_eq_decide.mpr (h o)])]; rfl, sum_snoc, Int.natCast_add], rfl⟩
    · obtain ⟨x6, x7, x8, rfl, rfl⟩ := hI
      rw [hZ.1, sum_snoc, ixS_end hp, Nat.add_zero, cnB_sum hp ho hne]
      have hcb := cnB_le (c := c) (p := p) (o := o)
      refine wb_one (ws_ret ?_)
      refine we_callP c_reduced (by walk_at "room") rfl ?_
      refine wa_cons ?_
      walk_at "e"
      refine wa_one ?_
      refine we_tget (Nat.lt_of_le_of_lt (Nat.add_le_add_left (by decide : 1 ≤ 65) _) (room65 (k := 0) (by with_unfolding_all exact Room.mono (by assumption) (Nat.zero_le _)))) ?_
      walk_at "e"
      refine we_tup (wa_nil ?_)
      refine ⟨[], rfl, by simp, ?_⟩
      refine ⟨_, [], _, .c 0 rfl, rfl, by rw [getT_iv, hD.all]; rfl, ?_⟩
      rw [← hct]
      refine ⟨cnB c p o, (allP c c.length).length, rfl, hsp, by omega, by omega, ?_⟩
      exact keep_drop (keep_drop (keep hR))
theorem ok_cell_at_l {f : Addr} {fd : FuncData} (F : Fun K "_law_cell_at" "_law_cell_at" s_cell_at_l f fd) (B : Bl mg) : FnG P w K mg base CX0 1 f fd ["_law_script", "_law_k"] (spW K T_cell) := by
  refine fn_w F sc_cell_at_l (by decide) (fun xs μ R h => ?_) fun cdv A outer s H E hr hgd xs μ R hT => ?_
  · obtain ⟨ns, k, rfl, _⟩ := h
    rfl
  · obtain ⟨ns, k, rfl, hR⟩ := hT
    refine wb_names (N := ["_law_script", "_law_k"]) rfl fun hn => ?_
    have n0 := hn 0 _ rfl
    have n1 := hn 1 _ rfl
    refine wb_cons (ws_if ?_)
    walk_at "t"
    walk_at "e"
    refine we_len B rfl ?_
    walk_at "e"
    refine ⟨_, .s _, ?_⟩
    refine ow_cmp ⟨_, rfl, ?_⟩
    split
    · rename_i hk
      have hk' := of_decide_eq_true hk
      rw [List.length_map] at hk'
      have hl : k < ns.length := by omega
      refine wb_one (ws_ret ?_)
      walk_at "go"
      refine ow_ix (.s _) (atI_nat (j := k) (v := .int ns[k]) (by rw [List.getElem?_map, List.getElem?_eq_getElem hl]; rfl)) ?_
      rw [List.getD_eq_getElem?_getD, List.getElem?_eq_getElem hl] at hR
      exact keep hR
    · rename_i hk
      have hk' : ¬ ((k : Int) < ((intsD ns).length : Nat)) := fun z => hk (decide_eq_true z)
      rw [List.length_map] at hk'
      refine wb_nil ?_
      refine wb_one (ws_ret ?_)
      walk_at "e"
      rw [List.getD_eq_getElem?_getD, List.getElem?_eq_none (by omega)] at hR
      exact keep hR
theorem ok_box_l {f : Addr} {fd : FuncData} (F : Fun K "_law_box" "_law_box" s_box_l f fd) (B : Bl mg) (c1 : Cal P w K mg base 1 "_law_cell_at" T_cell) : FnG P w K mg base CX0 2 f fd ["_law_script", "_law_k"] (spW K T_box) := by
  refine fn_w F sc_box_l (by decide) (fun xs μ R h => ?_) fun cdv A outer s H E hr hgd xs μ R hT => ?_
  · obtain ⟨ns, k, rfl, _⟩ := h
    rfl
  · obtain ⟨ns, k, rfl, hk, hR⟩ := hT
    refine wb_names (N := ["_law_script", "_law_k", "_law_core"]) rfl fun hn => ?_
    have n0 := hn 0 _ rfl
    have n1 := hn 1 _ rfl
    have n2 := hn 2 _ rfl
    refine wb_cons ?_
    refine ws_set 2 sc_box_l.nd n2 (by walk_at "loc") (by first | exact .inl rfl | exact .inr rfl) ?_
    refine we_callP c1 hr rfl ?_
    walk_at "go"
    refine ⟨ns, k, rfl, ?_⟩
    generalize ns.getD k 0 = v
    refine wb_one (ws_ret ?_)
    refine we_lst (wa_cons ?_)
    walk_at "e"
    refine we_abs B rfl ?_
    walk_at "e"
    refine ⟨v, rfl, ?_⟩
    refine we_intB B rfl ?_
    walk_at "e"
    refine we_abs B rfl ?_
    walk_at "e"
    refine ⟨v, rfl, ?_⟩
    walk_at "go"
    refine ow_cnd (by exact ⟨by decide, by decide, by decide⟩) ?_
    refine ow_cmp ⟨_, rfl, ?_⟩
    generalize decide ((10 : Int) ^ Int.toNat 18 ≤ if v < 0 then -v else v) = kk
    refine ow_mul (.inr (by cases kk <;> decide)) ?_
    walk_at "go"
    refine ow_cnd (by decide) ?_
    walk_at "go"
    refine ow_mul (.inl (by decide)) ?_
    walk_at "go"
    refine ⟨_, rfl, (by show 3 ≤ 100000; decide), fun q => ?_⟩
    refine keep (hR q _ ⟨_, _, _, rfl, ?_, ?_, ?_, by decide, by decide⟩)
    · refine Int.mul_nonneg ?_ ?_
      · split <;> omega
      · cases kk <;> decide
    · have := Int.emod_nonneg v (show (2305843009213693951 : Int) ≠ 0 by decide)
      omega
    · have := Int.emod_lt_of_pos v (show (0 : Int) < 2305843009213693951 by decide)
      omega
theorem pow7 : (10 : Int) ^ Int.toNat 7 = 10000000 := by decide
theorem atB0 {x y z : Int} : atI (boxD x y z) 0 = some (.int x) := atI_nat (j := 0) rfl
theorem atB1 {x y z : Int} : atI (boxD x y z) 1 = some (.int y) := atI_nat (j := 1) rfl
theorem atB2 {x y z : Int} : atI (boxD x y z) 2 = some (.int z) := atI_nat (j := 2) rfl
theorem ok_take_s {f : Addr} {fd : FuncData} (F : Fun K "_law_take" "_law_take" s_take_l f fd) (B : Bl mg) : FnG P w K mg base CX0 1 f fd ["_law_box_here", "_law_below"] (spW K (T_takeN 10000000 1)) := by
  refine fn_w F sc_take_l (by decide) (fun xs μ R h => ?_) fun cdv A outer s H E hr hgd xs μ R hT => ?_
  · obtain ⟨b, ds, n, m, rfl, _⟩ := h
    rfl
  · obtain ⟨b, ds, n, m, rfl, rfl, hb, h0, h1, hm, hR⟩ := hT
    obtain ⟨x, y, z, rfl, hx, hy, hy2, hz, hz2⟩ := hb
    refine wb_names (N := ["_law_box_here", "_law_below", "_law_found", "_law_once", "_law_twice"]) rfl fun hn => ?_
    have n0 := hn 0 _ rfl
    have n1 := hn 1 _ rfl
    have n2 := hn 2 _ rfl
    have n3 := hn 3 _ rfl
    have n4 := hn 4 _ rfl
    refine wb_cons (ws_if ?_)
    walk_at "t"
    walk_at "go"
    refine ow_ix (.c 0 rfl) atB0 ?_
    walk_at "go"
    refine ⟨_, rfl, ?_⟩
    split
    · refine wb_cons ?_
      refine ws_set 2 sc_take_l.nd n2 (by walk_at "loc") (by first | exact .inl rfl | exact .inr rfl) ?_
      walk_at "go"
      refine ow_ix (.c 0 rfl) atB0 ?_
      walk_at "go"
      refine ow_cnd h0 ?_
      refine wb_cons ?_
      refine ws_asg [] ?_
      walk_at "go"
      refine ow_ix (.c 0 rfl) atB0 ?_
      walk_at "go"
      refine ow_cnd (C := CDiv) (by exact ⟨h0, by omega⟩) ?_
      refine wg_setL ?_
      walk_at "e"
      walk_at "e"
      refine ⟨b, _, 0, 0, rfl, rfl, rfl, (by show 0 < 3; decide), ?_⟩
      refine wb_one (ws_ret ?_)
      walk_at "e"
      exact keep (hR _ _ (Int.emod_nonneg _ (by omega)) (Int.emod_lt_of_pos _ h0) ⟨x / n, y, z, rfl, Int.ediv_nonneg hx (by omega), hy, hy2, hz, by omega⟩)
    · refine wb_nil ?_
      refine wb_cons (ws_if ?_)
      walk_at "t"
      walk_at "go"
      refine ow_cnd (C := CPow) (by exact ⟨by decide, by decide, by decide⟩) ?_
      refine ow_cmp ⟨_, rfl, ?_⟩
      rw [pow7, decide_eq_false (show ¬ ((10000000 : Int) < n) by omega)]
      rw [if_neg (by decide)]
      refine wb_nil ?_
      refine wb_cons ?_
      refine ws_asg [] ?_
      walk_at "go"
      refine ow_ix (.c 0 rfl) atB2 ?_
      walk_at "go"
      refine wg_setL ?_
      walk_at "e"
      walk_at "e"
      refine ⟨b, _, 2, 0, rfl, rfl, rfl, (by show 2 < 3; decide), ?_⟩
      have eb : ((boxD x y z).set 2 (.int (z + 1))) = boxD x y (z + 1) := rfl
      rw [eb]
      refine wb_cons ?_
      refine ws_set 3 sc_take_l.nd n3 (by walk_at "loc") (by first | exact .inl rfl | exact .inr rfl) ?_
      walk_at "go"
      refine ow_ix (.c 0 rfl) atB1 ?_
      walk_at "go"
      refine ow_ix (.c 0 rfl) atB2 ?_
      refine ow_mul (.inl (by decide)) ?_
      walk_at "go"
      refine ow_ix (.c 0 rfl) atB2 ?_
      walk_at "go"
      refine ow_mul (.inr ⟨by omega, by omega⟩) ?_
      walk_at "go"
      refine ow_cnd (by decide) ?_
      generalize ho : (y + 48271 * (z + 1)) * (39373 + (z + 1)) % 2147483647 = once
      refine wb_cons ?_
      refine ws_set 4 sc_take_l.nd n4 (by walk_at "loc") (by first | exact .inl rfl | exact .inr rfl) ?_
      walk_at "go"
      refine ow_ix (.c 0 rfl) atB2 ?_
      walk_at "go"
      refine ow_ix (.c 0 rfl) atB1 ?_
      walk_at "go"
      refine ow_cnd (C := CDiv) (by exact ⟨by decide, by decide⟩) ?_
      walk_at "go"
      refine ow_cnd (by decide) ?_
      walk_at "go"
      have q1 := Int.emod_nonneg once (show (40009 : Int) ≠ 0 by decide)
      have q2 := Int.emod_lt_of_pos once (show (0 : Int) < 40009 by decide)
      refine ow_mul (.inr ⟨by omega, by omega⟩) ?_
      walk_at "go"
      refine ow_cnd (by decide) ?_
      refine wb_one (ws_ret ?_)
      walk_at "go"
      refine ow_mul (.inr (by decide)) ?_
      walk_at "go"
      refine ow_cnd (by decide) ?_
      walk_at "go"
      refine ow_cnd (C := CDiv) (by exact ⟨by decide, by decide⟩) ?_
      walk_at "go"
      refine ow_cnd h0 ?_
      exact keep (hR _ _ (Int.emod_nonneg _ (by omega)) (Int.emod_lt_of_pos _ h0) ⟨x, y, z + 1, rfl, hx, hy, hy2, by omega, by omega⟩)
theorem ok_crowd_of_l {f : Addr} {fd : FuncData} (F : Fun K "_law_crowd_of" "_law_crowd_of" s_crowd_of_l f fd) (B : Bl mg) (c1 : Cal P w K mg base 1 "_law_take" T_take) : FnG P w K mg base CX0 2 f fd ["_law_box_here", "_law_count"] (spW K T_crowd_of) := by
  refine fn_w F sc_crowd_of_l (by decide) (fun xs μ R h => ?_) fun cdv A outer s H E hr hgd xs μ R hT => ?_
  · obtain ⟨b, ds, n, m, rfl, _⟩ := h
    rfl
  · obtain ⟨b, ds, n, m, rfl, rfl, hb, hn40, hm, hR⟩ := hT
    refine wb_names (N := ["_law_box_here", "_law_count", "_law_found", "_law_dense", "_law_soul", "_law_pals", "_law_kind", "_law_due", "_law_its"]) rfl fun hn => ?_
    have n0 := hn 0 _ rfl
    have n1 := hn 1 _ rfl
    have n2 := hn 2 _ rfl
    have n3 := hn 3 _ rfl
    have n4 := hn 4 _ rfl
    have n5 := hn 5 _ rfl
    have n6 := hn 6 _ rfl
    have n7 := hn 7 _ rfl
    have n8 := hn 8 _ rfl
    refine wb_cons ?_
    refine ws_tups [2, 3] rfl ?_
    refine wa_cons (we_lst (wa_nil ⟨[], rfl, by decide, fun p1 => ?_⟩))
    refine wa_cons ?_
    walk_at "go"
    refine we_callB 1 c1 hr rfl ?_
    walk_at "go"
    refine ⟨b, ds, rfl, b, ds, 4, m, rfl, rfl, hb, by decide, by decide, by omega, fun r1 ds1 _ hr1 hb1 => ⟨[], ds1, rfl, ?_⟩⟩
    walk_at "go"
    refine ⟨rfl, by decide, ?_⟩
    refine wgs_cons (wg_name 2 sc_crowd_of_l.nd n2 (by walk_at "loc") (by first | exact .inl rfl | exact .inr rfl) (by decide) ?_)
    refine wgs_cons (wg_name 3 sc_crowd_of_l.nd n3 (by walk_at "loc") (by first | exact .inl rfl | exact .inr rfl) (by decide) ?_)
    refine wgs_nil ?_
    refine wb_cons ?_
    refine ws_for [4] PassesOwn.never rfl ?_
    refine wi_range1 rfl B.range ?_
    refine wa_one ?_
    walk_at "e"
    refine ⟨(n : Int), rfl, by omega, by omega, ?_⟩
    rw [Int.toNat_natCast, rangeD_eq]
    refine ⟨fun i δ' μ' => ∃ c ds' m' x4 x5 x6 x7, δ' = [some (.a b), some (.d (.int (n : Int))), some (.a p1), some (.d (.int (1 + r1))), x4, x5, x6, x7, none] ∧ μ' = ([(p1, c.map enD), (b, Cont.l ds')] : Cells) ∧ c.length = i ∧ CoP n c ∧ BoxOk m' ds' ∧ m' ≤ m + 1 + 43 * i,
      ⟨[], ds1, m + 1, none, none, none, none, rfl, rfl, rfl, fun j e h => by simp at h, hb1, by omega⟩, fun i d δ' μ' hd hI => ?_, fun δ' μ' hI => ?_⟩
    · obtain ⟨c, ds', m', x4, x5, x6, x7, rfl, rfl, hc, hP, hb', hm'⟩ := hI
      have hi : i < n := by
        have := (List.getElem?_eq_some_iff.mp hd).1
        rw [List.length_map, rng_len] at this
        exact this
      have hd' : d = .int (i : Int) := by
        unfold intsD rng at hd
        rw [List.getElem?_map, List.getElem?_map, List.getElem?_range hi] at hd
        cases hd
        rfl
      subst hd'
      refine wg_name 4 sc_crowd_of_l.nd n4 (by walk_at "loc") (by first | exact .inl rfl | exact .inr rfl) (by decide) ?_
      refine wb_cons ?_
      refine ws_setLc 5 [("_law_its", 8)] rfl sc_crowd_of_l.nd n5 rfl (sw_true rfl rfl rfl (by decide +kernel)) (blkOk_by (N := ["_law_box_here", "_law_count", "_law_found", "_law_dense", "_law_soul", "_law_pals", "_law_kind", "_law_due", "_law_its"]) (sc := defScope s_crowd_of_l) (by decide +kernel)) ?_
      refine wi_range1 rfl B.range ?_
      refine wa_one ?_
      walk_at "e"
      refine ⟨(n : Int), rfl, by omega, by omega, ?_⟩
      rw [Int.toNat_natCast, rangeD_eq]
      refine ⟨fun j acc μ' => ∃ ns ds2 m2, acc = intsD ns ∧ ns.Sublist ((rng n).take j) ∧ (i : Int) ∉ ns ∧ μ' = ([(p1, c.map enD), (b, Cont.l ds2)] : Cells) ∧ BoxOk m2 ds2 ∧ m2 ≤ m' + j,
        ⟨[], ds', m', rfl, List.nil_sublist _, by simp, rfl, hb', by omega⟩, by rw [List.length_map, rng_len]; omega, fun j acc μ' hI => ?_, fun j d acc μ' hd hI => ?_, fun acc μ' hI p => ?_⟩
      · obtain ⟨ns, ds2, m2, rfl, hs, _⟩ := hI
        rw [List.length_map]
        refine Nat.le_trans hs.length_le ?_
        rw [List.length_take]
        exact Nat.min_le_left _ _
      · obtain ⟨ns, ds2, m2, rfl, hs, hni, rfl, hb2, hm2⟩ := hI
        have hj : j < n := by
          have := (List.getElem?_eq_some_iff.mp hd).1
          rw [List.length_map, rng_len] at this
          exact this
        have hd' : d = .int (j : Int) := by
          unfold intsD rng at hd
          rw [List.getElem?_map, List.getElem?_map, List.getElem?_range hj] at hd
          cases hd
          rfl
        subst hd'
        have keep0 : ns.Sublist ((rng n).take (j + 1)) := by
          rw [rng_take_succ hj]
          exact hs.trans (List.sublist_append_left _ _)
        intro s1 H1 C cl fp
        refine wg_name 8 sc_crowd_of_l.nd n8 (by walk_at "loc") (by first | exact .inl rfl | exact .inr rfl) (by decide) ?_
        intro s1 H1 C cl fp
        show WT _ _ _ _ _
        walk_at "t"
        walk_at "t"
        walk_at "go"
        refine ow_ne (.d _) (.d _) rfl rfl ⟨_, rfl, ?_⟩
        split
        · rename_i hne
          have hji : j ≠ i := fun z => by
            subst z
            simp [PyData.eqv] at hne
          refine ww_and1 ?_
          walk_at "t"
          refine we_callB 1 c1 hr rfl ?_
          walk_at "go"
          refine ⟨b, ds2, rfl, b, ds2, 5, m2, rfl, rfl, hb2, by decide, by decide, by omega, fun r2 ds3 _ hr2 hb3 => ⟨[], ds3, rfl, ?_⟩⟩
          walk_at "go"
          refine ⟨_, rfl, ?_⟩
          split
          · intro s1 H1 C cl fp
            walk_at "e"
            refine ⟨_, rfl, ns ++ [(j : Int)], ds3, m2 + 1, by simp [intsD], ?_, ?_, rfl, hb3, by omega⟩
            · rw [rng_take_succ hj]
              exact hs.append (List.Sublist.refl _)
            · simp only [List.mem_append, List.mem_singleton, not_or]
              exact ⟨hni, by omega⟩
          · exact ⟨ns, ds3, m2 + 1, rfl, keep0, hni, rfl, hb3, by omega⟩
        · rw [if_neg (by decide)]
          exact ⟨ns, ds2, m2, rfl, keep0, hni, rfl, hb2, by omega⟩
      · obtain ⟨ns, ds2, m2, rfl, hs, hni, rfl, hb2, hm2⟩ := hI
        rw [List.length_map, rng_len] at hs hm2
        have hsn : ns.Sublist (rng n) := by
          have e : (rng n).take n = rng n := List.take_of_length_le (by rw [rng_len]; exact Nat.le_refl _)
          rw [e] at hs
          exact hs
        have hnl := (sub_rng hsn).2.2
        refine wb_cons ?_
        refine ws_set 6 sc_crowd_of_l.nd n6 (by walk_at "loc") (by first | exact .inl rfl | exact .inr rfl) ?_
        refine we_callB 2 c1 hr rfl ?_
        walk_at "go"
        refine ⟨b, ds2, rfl, b, ds2, 6, m2, rfl, rfl, hb2, by decide, by decide, by omega, fun r2 ds3 hr0 hr2 hb3 => ⟨[], ds3, rfl, ?_⟩⟩
        refine wb_cons ?_
        refine ws_set 7 sc_crowd_of_l.nd n7 (by walk_at "loc") (by first | exact .inl rfl | exact .inr rfl) (WE.mono (Q := fun v μ1 => ∃ (due : Int) (ds4 : List PyData), v = .d (.int due) ∧ (0 ≤ due ∧ due ≤ 1000) ∧ BoxOk (m2 + 2) ds4 ∧ μ1 = ([(p, intsD ns), (p1, c.map enD), (b, Cont.l ds4)] : Cells)) ?_ ?_)
        · refine we_if ?_
          walk_at "t"
          walk_at "go"
          refine ow_eq (.d _) (.d _) rfl rfl ⟨_, rfl, ?_⟩
          split
          · walk_at "go"
            exact ⟨0, ds3, rfl, ⟨Int.le_refl 0, by decide⟩, hb3.mono (by omega), rfl⟩
          · refine we_if ?_
            walk_at "t"
            walk_at "go"
            refine ⟨_, rfl, ?_⟩
            split
            · refine we_min2 B rfl rfl ?_
              refine we_len B rfl ?_
              walk_at "e"
              refine ⟨_, .c 0 rfl, ?_⟩
              walk_at "go"
              refine we_callB 2 c1 hr rfl ?_
              walk_at "go"
              refine ⟨b, ds3, rfl, b, ds3, 3, m2 + 1, rfl, rfl, hb3, by decide, by decide, by omega, fun r4 ds4 h40 h41 hb4 => ⟨[], ds4, rfl, ?_⟩⟩
              walk_at "go"
              refine ⟨_, _, rfl, rfl, _, ds4, rfl, ?_, hb4, rfl⟩
              rw [List.length_map]
              split <;> constructor <;> omega
            · refine we_callB 2 c1 hr rfl ?_
              walk_at "go"
              refine we_len B rfl ?_
              walk_at "e"
              refine ⟨_, .c 0 rfl, ?_⟩
              walk_at "go"
              refine ⟨b, ds3, rfl, b, ds3, _, m2 + 1, rfl, rfl, hb3, by omega, by rw [List.length_map]; omega, by omega, fun r4 ds4 h40 h41 hb4 => ⟨[], ds4, rfl, _, ds4, rfl, ⟨h40, by rw [List.length_map] at h41; omega⟩, hb4, rfl⟩⟩
        · rintro v μ1 ⟨due, ds4, rfl, hdue, hb4, rfl⟩
          refine wb_cons (ws_expr ?_)
          refine we_append ?_
          walk_at "e"
          refine ⟨p1, _, ⟨1, rfl⟩, rfl, ?_⟩
          refine we_tup ?_
          refine wa_cons (we_tuple B rfl ?_)
          walk_at "e"
          refine ⟨_, .c 0 rfl, ?_⟩
          walk_at "go"
          refine ⟨_, rfl, (by show 2 ≤ 100000; decide), _, _, 1, rfl, rfl, by rw [List.length_map]; omega, ?_⟩
          refine wb_nilK (keep_drop (keep ⟨c ++ [(ns, due)], ds4, m2 + 2, some (.d (.int (i : Int))), some (.a p), some (.d (.int r2)), some (.d (.int due)), rfl, ?_, by rw [List.length_append, hc]; rfl, hP.add hsn (by rw [hc]; exact hni) hdue.1 hdue.2, hb4, by omega⟩))
          rw [List.map_append]
          rfl
    · obtain ⟨c, ds', m', x4, x5, x6, x7, rfl, rfl, hc, hP, hb', hm'⟩ := hI
      rw [List.length_map, rng_len] at hc hm'
      refine wb_one (ws_ret (we_tuple B rfl ?_))
      walk_at "e"
      refine ⟨_, .c 0 rfl, ?_⟩
      refine keep_drop (keep ?_)
      subst hc
      exact hR c ds' rfl hP.whole (hb'.mono (by omega))
theorem ok_eased_l {f : Addr} {fd : FuncData} (F : Fun K "_law_eased" "_law_eased" s_eased_l f fd) (B : Bl mg) (c1 : Cal P w K mg base 2 "_law_closed" T_closed) : FnG P w K mg base CX0 3 f fd ["_law_crowd"] (spW K T_eased) := by
  refine fn_w F sc_eased_l (by decide) (fun xs μ R h => ?_) fun cdv A outer s H E hr hgd xs μ R hT => ?_
  · obtain ⟨c, rfl, _⟩ := h
    rfl
  · obtain ⟨c0, rfl, hl, hfr, hR⟩ := hT
    refine wb_names (N := ["_law_crowd", "_law_there", "_law_stuck", "_law_low", "_law_have", "_law_soul", "_law_pal"]) rfl fun hn => ?_
    have n0 := hn 0 _ rfl
    have n1 := hn 1 _ rfl
    have n2 := hn 2 _ rfl
    have n3 := hn 3 _ rfl
    have n4 := hn 4 _ rfl
    have n5 := hn 5 _ rfl
    have n6 := hn 6 _ rfl
    refine wb_cons ?_
    refine ws_set 1 sc_eased_l.nd n1 (by walk_at "loc") (by first | exact .inl rfl | exact .inr rfl) (we_fz (we_keep ?_))
    refine we_clT (wc_pos c1 (by walk_at "room") rfl ?_)
    refine wa_cons ?_
    walk_at "e"
    refine wa_cons (we_lst (wa_nil ⟨[], rfl, by decide, fun p1 => ?_⟩))
    refine wa_one (we_lst (wa_nil ⟨[], rfl, by decide, fun p2 => ?_⟩))
    refine ⟨_, .keep (.lend (.mk 1 rfl .nil) (.lend (.mk 0 rfl .nil) .nil)), coD c0, c0, _, [], _, [], rfl, coD_ok' (by omega) hfr, .inl rfl, .inl rfl, List.nodup_nil, by simp; omega, fun q => ⟨rfl, fun y hy => ?_, ?_⟩⟩
    · cases List.mem_singleton.mp hy
      exact noLs_ints _
    refine keep_perm (List.Perm.swap _ _ _) (keep_drop (keep_perm (List.Perm.swap _ _ _) (keep_drop (keep ⟨q, _, _, rfl, rfl, plS_map (fun _ => rfl), ?_⟩))))
    refine wb_cons ?_
    refine ws_while PassesOwn.never (fun k δ' μ' => ∃ c x2 x3 x4, δ' = [some (.d (coD c)), some (.d (.list (intsD (gr c)))), x2, x3, x4, none, none] ∧ μ' = μ ∧ c.length = c0.length ∧ (∀ e ∈ c, e.1.length ≤ 1000) ∧ Eas c0 c ∧ k = und c (gr c)) ⟨_, c0, none, none, none, rfl, rfl, rfl, hfr, Eas.refl c0, rfl⟩ ?_
    rintro k δ' μ' ⟨c, x2, x3, x4, rfl, rfl, hlc, hfc, hea, rfl⟩
    have hco := coD_ok' (c := c) (by omega) hfc
    walk_at "t"
    refine we_len B rfl ?_
    walk_at "e"
    refine ⟨_, .l _, ?_⟩
    refine we_len B rfl ?_
    walk_at "e"
    refine ⟨_, .t _, ?_⟩
    refine ow_cmp ⟨_, rfl, ?_⟩
    rw [List.length_map, List.length_map]
    split
    · rename_i hlt
      have hlt' : (gr c).length < c.length := by
        have := of_decide_eq_true hlt
        omega
      refine wb_cons ?_
      refine ws_setLc 2 [("_law_soul", 5)] rfl sc_eased_l.nd n2 rfl (sw_true rfl rfl rfl (by decide +kernel)) (blkOk_by (N := ["_law_crowd", "_law_there", "_law_stuck", "_law_low", "_law_have", "_law_soul", "_law_pal"]) (sc := defScope s_eased_l) (by decide +kernel)) (lcP PyData.int (fun p => !decide (p ∈ gr c)) PyData.int ?_)
      refine wi_range1 rfl B.range ?_
      refine wa_one (we_len B rfl ?_)
      walk_at "e"
      refine ⟨_, .t _, _, rfl, by rw [List.length_map]; omega, by rw [List.length_map]; omega, rng c.length, ?_, by rw [rng_len]; omega, fun x _ => ?_, fun q => ?_⟩
      · rw [Int.toNat_natCast, rangeD_eq, List.length_map]
      · intro s1 H1 C cl fp
        refine wg_name 5 sc_eased_l.nd n5 (by walk_at "loc") (by first | exact .inl rfl | exact .inr rfl) (by decide) ?_
        intro s1 H1 C cl fp
        show WT _ _ _ _ _
        walk_at "t"
        walk_at "go"
        refine ow_ni (.l _) rfl (flat_ints _) ⟨_, rfl, by rw [inD_int], ?_⟩
        split
        · intro s1 H1 C cl fp
          walk_at "e"
          exact ⟨rfl, rfl⟩
        · rfl
      have en : ((rng c.length).filter fun p => !decide (p ∈ gr c)).map PyData.int = intsD (nev c) := rfl
      rw [en]
      have hne : nev c ≠ [] := fun z => by
        have := whole_len z
        omega
      obtain ⟨s0, t0, hst⟩ := List.exists_cons_of_ne_nil hne
      have hs0 : s0 ∈ nev c := by rw [hst]; exact List.mem_cons_self
      have hs1 := mem_rng.mp (List.mem_filter.mp hs0).1
      have hs2 : s0 ∉ gr c := by simpa using (List.mem_filter.mp hs0).2
      obtain ⟨s, rfl⟩ : ∃ s : Nat, s0 = (s : Int) := ⟨s0.toNat, by omega⟩
      have hs : s < c.length := by omega
      obtain ⟨e, he⟩ : ∃ e, c[s]? = some e := ⟨_, List.getElem?_eq_getElem hs⟩
      have hfe := hfc e (List.mem_of_getElem? he)
      rw [hst]
      refine wb_cons ?_
      refine ws_set 3 sc_eased_l.nd n3 (by walk_at "loc") (by first | exact .inl rfl | exact .inr rfl) ?_
      walk_at "go"
      refine ow_ix (.c 0 rfl) (atI_nat (j := 0) rfl) ?_
      refine wb_cons ?_
      refine ws_set 4 sc_eased_l.nd n4 (by walk_at "loc") (by first | exact .inl rfl | exact .inr rfl) (we_keep ?_)
      refine we_len B rfl ?_
      refine we_lc [("_law_pal", 6)] rfl sc_eased_l.nd (blkOk_by (N := ["_law_crowd", "_law_there", "_law_stuck", "_law_low", "_law_have", "_law_soul", "_law_pal"]) (sc := defScope s_eased_l) (by decide +kernel)) (lcP PyData.int (fun x => decide (x ∈ gr c)) PyData.int ?_)
      refine wi_seq ?_
      walk_at "e"
      walk_at "e"
      walk_at "e"
      walk_at "e"
      refine ow_ix (.t _) (atI_nat (j := s) (by rw [List.getElem?_map, he]; rfl)) ?_
      walk_at "e"
      refine ow_ix (.t _) (atI_nat (j := 0) rfl) ?_
      refine ⟨_, .t _, e.1, rfl, by omega, fun x _ => ?_, fun q3 => ⟨_, .c 0 rfl, ?_⟩⟩
      · intro s1 H1 C cl fp
        refine wg_name 6 sc_eased_l.nd n6 (by walk_at "loc") (by first | exact .inl rfl | exact .inr rfl) (by decide) ?_
        intro s1 H1 C cl fp
        show WT _ _ _ _ _
        walk_at "t"
        walk_at "go"
        refine ow_in (.l _) rfl (flat_ints _) ⟨_, rfl, inD_int x _, ?_⟩
        split
        · intro s1 H1 C cl fp
          walk_at "e"
          exact ⟨rfl, rfl⟩
        · rfl
      refine keep_drop (keep ?_)
      have ek : ((((e.1.filter fun x => decide (x ∈ gr c)).map PyData.int).length : Nat) : Int) = Ec.cnt c (gr c) (s : Int) := by
        unfold Ec.cnt fr
        rw [List.length_map, Int.toNat_natCast, List.getD_eq_getElem?_getD, he]
        rfl
      rw [ek]
      have hlt2 := ease he hs2
      have hea' := hea.step he hs2
      have hw := co_cut (e := (e.1, Ec.cnt c (gr c) (s : Int))) hs
      have hl' : (c.set s (e.1, Ec.cnt c (gr c) (s : Int))).length = c.length := List.length_set
      have hfr' : ∀ y ∈ c.set s (e.1, Ec.cnt c (gr c) (s : Int)), y.1.length ≤ 1000 := fun y hy => by
        rcases List.mem_or_eq_of_mem_set hy with h | h
        · exact hfc y h
        · rw [h]
          exact hfe
      generalize hc' : c.set s (e.1, Ec.cnt c (gr c) (s : Int)) = c' at hl' hfr' hw hlt2 hea'
      generalize hk : Ec.cnt c (gr c) (s : Int) = kk at hw
      refine wb_cons ?_
      refine ws_set 0 sc_eased_l.nd n0 (by walk_at "loc") (by first | exact .inl rfl | exact .inr rfl) ?_
      walk_at "e"
      walk_at "e"
      refine we_slT ?_
      walk_at "e"
      refine wo_none (wo_some ?_)
      walk_at "e"
      refine ⟨_, rfl, _, rfl, ?_⟩
      rw [cutZ_take (by rw [List.length_map]; omega)]
      refine we_tup (wa_one (we_tup (wa_two ?_)))
      walk_at "go"
      refine ow_ix (.t _) (atI_nat (j := s) (by rw [List.getElem?_map, he]; rfl)) ?_
      walk_at "go"
      refine ow_ix (.t _) (atI_nat (j := 0) rfl) ?_
      walk_at "go"
      refine ⟨_, rfl, by simp, _, rfl, by simp, ?_⟩
      refine ow_catT (by rw [List.length_take, List.length_map]; simp; omega) ?_
      refine we_slT ?_
      walk_at "e"
      refine wo_some ?_
      walk_at "go"
      refine ⟨_, rfl, wo_none ⟨_, rfl, ?_⟩⟩
      have es : ((s : Int) + 1) = ((s + 1 : Nat) : Int) := rfl
      rw [es, cutZ_drop (by rw [List.length_map]; omega)]
      refine ow_catT (by rw [List.length_append, List.length_take, List.length_drop, List.length_map]; simp; omega) ?_
      have ew : PyData.tuple ((c.map enD).take s ++ [.tuple [.tuple (intsD e.1), .int kk]] ++ (c.map enD).drop (s + 1)) = coD c' := congrArg PyData.tuple hw
      rw [ew]
      have hco' := coD_ok' (c := c') (by omega) hfr'
      refine wb_drop ?_
      refine wb_one ?_
      refine ws_set 1 sc_eased_l.nd n1 (by walk_at "loc") (by first | exact .inl rfl | exact .inr rfl) (we_fz (we_keep ?_))
      refine we_clT (wc_pos c1 (by walk_at "room") rfl ?_)
      refine wa_cons ?_
      walk_at "e"
      refine wa_cons (we_lst (wa_nil ⟨[], rfl, by decide, fun p1 => ?_⟩))
      refine wa_one (we_lst (wa_nil ⟨[], rfl, by decide, fun p2 => ?_⟩))
      refine ⟨_, .keep (.lend (.mk 1 rfl .nil) (.lend (.mk 0 rfl .nil) .nil)), coD c', c', _, [], _, [], rfl, hco', .inl rfl, .inl rfl, List.nodup_nil, by simp; omega, fun q => ⟨rfl, fun y hy => ?_, ?_⟩⟩
      · cases List.mem_singleton.mp hy
        exact noLs_ints _
      refine keep_perm (List.Perm.swap _ _ _) (keep_drop (keep_perm (List.Perm.swap _ _ _) (keep_drop (keep ⟨q, _, _, rfl, rfl, plS_map (fun _ => rfl), ?_⟩))))
      exact ⟨_, hlt2, c', _, _, _, rfl, rfl, by omega, hfr', hea', rfl⟩
    · rename_i hge
      have hw : nev c = [] := whole_of_len (by
        have : ¬ (((gr c).length : Nat) : Int) < ((c.length : Nat) : Int) := fun z => hge (decide_eq_true z)
        omega)
      refine wb_one (ws_ret ?_)
      walk_at "e"
      exact keep (hR c hlc hfc hw hea)
theorem ok_comes_l {f : Addr} {fd : FuncData} (F : Fun K "_law_comes" "_law_comes" s_comes_l f fd) (B : Bl mg) : FnG P w K mg base CX0 1 f fd ["_law_crowd", "_law_soul", "_law_there"] (spW K T_can) := by
  refine fn_w F sc_comes_l (by decide) (fun xs μ R h => ?_) fun cdv A outer s H E hr hgd xs μ R hT => ?_
  · obtain ⟨dc, c, p, dt, t, rfl, _⟩ := h
    rfl
  · obtain ⟨dc, c, p, dt, t, rfl, hc, h0, h1, ht, hR⟩ := hT
    refine wb_names (N := ["_law_crowd", "_law_soul", "_law_there", "_law_pal"]) rfl fun hn => ?_
    have n0 := hn 0 _ rfl
    have n1 := hn 1 _ rfl
    have n2 := hn 2 _ rfl
    have n3 := hn 3 _ rfl
    obtain ⟨ds, de, sq, ha, df, hde, hdf⟩ := co_at hc h0 h1
    refine wb_one (ws_ret ?_)
    walk_at "e"
    refine we_len B rfl ?_
    refine we_lc [("_law_pal", 3)] rfl sc_comes_l.nd (blkOk_by (N := ["_law_crowd", "_law_soul", "_law_there", "_law_pal"]) (sc := defScope s_comes_l) (by decide +kernel)) (lcP PyData.int (fun x => decide (x ∈ t)) PyData.int ?_)
    refine wi_seq ?_
    walk_at "e"
    walk_at "e"
    walk_at "e"
    walk_at "e"
    refine ow_ix (ct_sq sq) ha ?_
    walk_at "e"
    refine ow_ix (ct_sq hde) (atI_nat (j := 0) rfl) ?_
    refine ⟨_, seqd_sq hdf, _, rfl, ?_, fun x _ => ?_, fun q => ⟨_, .c 0 rfl, ?_⟩⟩
    · exact Nat.le_trans (fr_len hc) (by decide)
    · intro s1 H1 C cl fp
      refine wg_name 3 (X := _) sc_comes_l.nd n3 (.inl rfl) (.inr rfl) (List.mem_singleton.mpr rfl) ?_
      intro s1 H1 C cl fp
      show WT _ _ _ _ _
      walk_at "t"
      walk_at "e"
      walk_at "e"
      refine ow_in (ct_sq ht) rfl (flat_ints t) ⟨_, rfl, inD_int x t, ?_⟩
      split
      · intro s1 H1 C cl fp
        walk_at "e"
        exact ⟨rfl, rfl⟩
      · rfl
    · rw [List.length_map]
      walk_at "e"
      walk_at "e"
      walk_at "e"
      walk_at "e"
      refine ow_ix (ct_sq sq) ha ?_
      walk_at "e"
      refine ow_ix (ct_sq hde) (atI_nat (j := 1) rfl) ?_
      refine ow_cmp ?_
      exact keep_drop (keep hR)
theorem ok_closed_l {f : Addr} {fd : FuncData} (F : Fun K "_law_closed" "_law_closed" s_closed_l f fd) (B : Bl mg) (c1 : Cal P w K mg base 1 "_law_comes" T_can) : FnG P w K mg base CX0 2 f fd ["_law_crowd", "_law_begun", "_law_barred"] (spW K T_closed) := by
  refine fn_w F sc_closed_l (by decide) (fun xs μ R h => ?_) fun cdv A outer s H E hr hgd xs μ R hT => ?_
  · obtain ⟨dc, c, dt, t, db, b, rfl, _⟩ := h
    rfl
  · obtain ⟨dc, c, dt, t, db, b, rfl, hc, ht, hb, hnd, htl, hR⟩ := hT
    refine wb_names (N := ["_law_crowd", "_law_begun", "_law_barred", "_law_there", "_law_more", "_law_soul"]) rfl fun hn => ?_
    have n0 := hn 0 _ rfl
    have n1 := hn 1 _ rfl
    have n2 := hn 2 _ rfl
    have n3 := hn 3 _ rfl
    have n4 := hn 4 _ rfl
    have n5 := hn 5 _ rfl
    obtain ⟨dd, sq, al⟩ := hc.sq
    have hlen := allD_len al
    have hl := hc.len
    refine wb_cons ?_
    refine ws_par 3 4 rfl sc_closed_l.nd n3 n4 (by decide) rfl rfl ?_ (by rfl)
    refine we_list B rfl ?_
    walk_at "e"
    refine ⟨_, ct_sq ht, fun p1 => ?_⟩
    refine we_bl ?_
    refine wb_cons ?_
    refine ws_while PassesOwn.never (fun m δ' μ' => ∃ tt fl x5, δ' = [some (.d dc), some (.d dt), some (.d db), some (.a p1), some (.d (.bool fl)), x5] ∧ μ' = ((p1, intsD tt) :: μ : Cells) ∧
      Cls c t b tt ∧ (fl = false → Shut c b (fun x => x ∈ tt)) ∧ m = 2 * und c tt + (if fl then 1 else 0)) ⟨_, t, true, none, rfl, rfl, Cls.start hnd, (fun z => by cases z), rfl⟩ ?_
    rintro m δ' μ' ⟨tt, fl, x5, rfl, rfl, hC, hsh, rfl⟩
    refine wt_val ?_
    walk_at "e"
    refine ⟨fl, rfl, ?_⟩
    split
    · rename_i hfl
      subst hfl
      refine wb_cons ?_
      refine ws_set 4 sc_closed_l.nd n4 (by walk_at "loc") (by first | exact .inl rfl | exact .inr rfl) ?_
      refine we_bl ?_
      refine wb_one ?_
      refine ws_for [5] PassesOwn.never rfl ?_
      refine wi_range1 rfl B.range ?_
      refine wa_one (we_len B rfl ?_)
      walk_at "e"
      refine ⟨dd, ct_sq sq, _, rfl, by omega, by omega, ?_⟩
      rw [Int.toNat_natCast, hlen, rangeD_eq]
      refine ⟨fun i δ' μ' => ∃ tt2 fl2 x5, δ' = [some (.d dc), some (.d dt), some (.d db), some (.a p1), some (.d (.bool fl2)), x5] ∧ μ' = ((p1, intsD tt2) :: μ : Cells) ∧ Cls c t b tt2 ∧
        (fl2 = true → und c tt2 < und c tt) ∧ (fl2 = false → tt2 = tt ∧ ∀ j : Int, 0 ≤ j → j < i → j ∉ b → comes c tt j = true → j ∈ tt),
        ⟨tt, false, x5, rfl, rfl, hC, (fun z => by cases z), fun _ => ⟨rfl, fun j h0 h1 => by omega⟩⟩, fun i d δ' μ' hd hI => ?_, fun δ' μ' hI => ?_⟩
      · obtain ⟨tt2, fl2, x5, rfl, rfl, hC2, hun, hal⟩ := hI
        have hi : i < c.length := by
          have := (List.getElem?_eq_some_iff.mp hd).1
          rw [List.length_map, rng_len] at this
          exact this
        have hd' : d = .int (i : Int) := by
          unfold intsD rng at hd
          rw [List.getElem?_map, List.getElem?_map, List.getElem?_range hi] at hd
          cases hd
          rfl
        subst hd'
        refine wg_name 5 sc_closed_l.nd n5 (by walk_at "loc") (by first | exact .inl rfl | exact .inr rfl) (by decide) ?_
        have stay : ((i : Int) ∉ b → comes c tt2 (i : Int) = true → (i : Int) ∈ tt2) → ∃ tt3 fl3 x5, ([some (.d dc), some (.d dt), some (.d db), some (.a p1), some (.d (.bool fl2)), some (.d (.int (i : Int)))] : Dl) = [some (.d dc), some (.d dt), some (.d db), some (.a p1), some (.d (.bool fl3)), x5] ∧ ((p1, intsD tt2) :: μ : Cells) = ((p1, intsD tt3) :: μ : Cells) ∧ Cls c t b tt3 ∧
          (fl3 = true → und c tt3 < und c tt) ∧ (fl3 = false → tt3 = tt ∧ ∀ j : Int, 0 ≤ j → j < ((i + 1 : Nat) : Int) → j ∉ b → comes c tt j = true → j ∈ tt) := fun hs => by
          refine ⟨tt2, fl2, _, rfl, rfl, hC2, hun, fun z => ⟨(hal z).1, fun j h0 h1 h2 h3 => ?_⟩⟩
          obtain ⟨e1, e2⟩ := hal z
          subst e1
          by_cases e : j = i
          · subst e
            exact hs h2 h3
          · exact e2 j h0 (by omega) h2 h3
        refine wb_one (ws_if ?_)
        walk_at "t"
        walk_at "t"
        walk_at "go"
        refine ow_ni (.c 0 rfl) rfl (flat_ints tt2) ⟨_, rfl, ?_⟩
        rw [inD_int]
        split
        · rename_i hn1
          have hn1' : (i : Int) ∉ tt2 := by simpa using hn1
          walk_at "t"
          walk_at "t"
          walk_at "go"
          refine ow_ni (ct_sq hb) rfl (flat_ints b) ⟨_, rfl, ?_⟩
          rw [inD_int]
          split
          · rename_i hn2
            have hn2' : (i : Int) ∉ b := by simpa using hn2
            walk_at "t"
            walk_at "t"
            refine we_clT (wc_pos c1 hr rfl ?_)
            walk_at "go"
            refine ⟨_, .keep (.keep (.lend (.mk 0 rfl (litems_pl (plS_map fun _ => rfl))) .nil)), dc, c, _, _, tt2, rfl, hc, by omega, by omega, .inl rfl, rfl, (fun y hy => by cases hy), _, rfl, ?_⟩
            split
            · rename_i hcm
              refine wb_cons (ws_expr ?_)
              refine we_append ?_
              walk_at "e"
              refine ⟨p1, _, ⟨0, rfl⟩, rfl, ?_⟩
              walk_at "e"
              have hlt := hC2.len
              have hC3 := hC2.add (Int.natCast_nonneg i) (by omega) hn1' hn2' hcm
              refine ⟨_, _, 0, rfl, rfl, by rw [List.length_map]; omega, ?_⟩
              refine wb_one ?_
              refine ws_set 4 sc_closed_l.nd n4 (by walk_at "loc") (by first | exact .inl rfl | exact .inr rfl) ?_
              refine we_bl ?_
              refine ⟨tt2 ++ [(i : Int)], true, _, rfl, by simp [intsD], hC3, fun _ => ?_, fun z => by cases z⟩
              have := und_lt (c := c) (t := tt2) (s := [(i : Int)]) ⟨i, List.mem_singleton.mpr rfl, hn1', by omega, by omega⟩
              cases fl2 with
              | true => exact Nat.lt_trans this (hun rfl)
              | false =>
                rw [(hal rfl).1] at this ⊢
                exact this
            · rename_i hcm
              exact wb_nil (stay fun _ z => absurd z hcm)
          · rename_i hn2
            rw [if_neg (by decide)]
            exact wb_nil (stay fun z _ => absurd z (by simpa using hn2))
        · rename_i hn1
          rw [if_neg (by decide)]
          exact wb_nil (stay fun _ _ => by simpa using hn1)
      · obtain ⟨tt2, fl2, x5, rfl, rfl, hC2, hun, hal⟩ := hI
        rw [List.length_map, rng_len] at hal
        cases fl2 with
        | true =>
          have := hun rfl
          exact ⟨_, by simp; omega, tt2, true, x5, rfl, rfl, hC2, (fun z => by cases z), rfl⟩
        | false =>
          obtain ⟨rfl, h2⟩ := hal rfl
          refine ⟨_, by simp, tt2, false, x5, rfl, rfl, hC2, fun _ p h0 h1 hb ⟨s, hs, hc⟩ => h2 p h0 h1 hb (comes_mono hs hc), rfl⟩
    · rename_i hfl
      refine wb_one (ws_ret (we_sorted B rfl ?_))
      walk_at "e"
      have hlt := hC.len
      have e1 := cl_one hnd hC.nd hC.base hC.low (hsh (by simpa using hfl))
      refine ⟨tt, .c 0 rfl, (fun _ z => by cases z), by omega, fun q => ?_⟩
      rw [e1]
      exact keep_perm (List.Perm.swap _ _ _) (keep_drop (keep (hR q)))
theorem ok_queries_l {f : Addr} {fd : FuncData} (F : Fun K "_law_queries" "_law_queries" s_queries_l f fd) (B : Bl mg) (c_count_orders : Cal P w K mg base 11 "count_orders" T_count) (c_order_at : Cal P w K mg base 11 "order_at" T_orderat) (c_last_order : Cal P w K mg base 9 "last_order" T_la) (c_number_of : Cal P w K mg base 11 "number_of" T_numof) (c_first_order : Cal P w K mg base 9 "first_order" T_fo) (c_misfit : Cal P w K mg base 3 "misfit" T_misfit) (c_must_before : Cal P w K mg base 9 "must_before" T_mb) (c_free_pairs : Cal P w K mg base 10 "free_pairs" T_free) (c_rounds : Cal P w K mg base 5 "rounds" T_rnds) (c_next_people : Cal P w K mg base 3 "next_people" T_next) (c_earlier_people : Cal P w K mg base 9 "earlier_people" T_earlier) (c_later_people : Cal P w K mg base 9 "later_people" T_later) (c_latest_place : Cal P w K mg base 9 "latest_place" T_latest) (c_greatest : Cal P w K mg base 6 "greatest" T_great) (c_comes_without : Cal P w K mg base 6 "comes_without" T_without) (c_fewest_invited : Cal P w K mg base 10 "fewest_invited" T_few) (c_first_invitation : Cal P w K mg base 9 "first_invitation" T_fi) (c_exchanges : Cal P w K mg base 9 "exchanges" T_exs) (c_crossed : Cal P w K mg base 10 "crossed" T_cross) (c_distance : Cal P w K mg base 11 "distance" T_dist) (c_chances_of : Cal P w K mg base 10 "chances_of" T_chances) (c_earliest_place : Cal P w K mg base 10 "earliest_place" T_earliest) (c_spare : Cal P w K mg base 9 "spare" T_spare) (c_all_orders : Cal P w K mg base 12 "all_orders" T_allords) (c_chance_before : Cal P w K mg base 10 "chance_before" T_chb) : FnG P w K mg base CX0 13 f fd ["_law_crowd", "_law_picks"] (spW K T_qry) := by
  refine fn_w F sc_queries_l (by decide) (fun xs μ R h => ?_) fun cdv A outer s H E hr hgd xs μ R hT => ?_
  · obtain ⟨dc, c, a, b, rfl, _⟩ := h
    rfl
  · obtain ⟨dc, c, a, b, rfl, hc, h2, h6, hw, hcw, rfl, hR⟩ := hT
    refine wb_names (N := ["_law_crowd", "_law_picks", "_law_size", "_law_full", "_law_queue", "_law_there", "_law_soul", "_law_mate", "_law_found"]) rfl fun hn => ?_
    have n0 := hn 0 _ rfl
    have n1 := hn 1 _ rfl
    have n2 := hn 2 _ rfl
    have n3 := hn 3 _ rfl
    have n4 := hn 4 _ rfl
    have n5 := hn 5 _ rfl
    have n6 := hn 6 _ rfl
    have n7 := hn 7 _ rfl
    have n8 := hn 8 _ rfl
    obtain ⟨ds, hd0, al⟩ := hc.sq
    have hlen := allD_len al
    obtain ⟨hto', hto⟩ := ord28 hw a
    have hla := la_ord hw
    have hct := count_all c
    have hW := fct28 h6
    have hA := all_some hw
    obtain ⟨k, hk0⟩ : ∃ k, k = a % (allP c c.length).length := ⟨_, rfl⟩
    obtain ⟨t, ht0⟩ : ∃ t, t = (allP c c.length).getD (a % (allP c c.length).length) [] := ⟨_, rfl⟩
    obtain ⟨s, hs0⟩ : ∃ s : Int, s = ((a % c.length : Nat) : Int) := ⟨_, rfl⟩
    obtain ⟨o, ho0⟩ : ∃ s : Int, s = ((b % c.length : Nat) : Int) := ⟨_, rfl⟩
    rw [← ht0, ← hk0] at hto'
    rw [← ht0] at hto
    have hms := Nat.mod_lt a (show 0 < c.length by omega)
    have hmo := Nat.mod_lt b (show 0 < c.length by omega)
    have hs : 0 ≤ s ∧ s < c.length := by omega
    have ho : 0 ≤ o ∧ o < c.length := by omega
    have hea := ea28_ok hw hs
    have hkm : ((a : Int) % ((Wy c c.length [] : Nat) : Int)) = (k : Int) := by rw [← hct, hk0]; rfl
    have hsm : ((a : Int) % ((c.length : Nat) : Int)) = s := by rw [hs0]; rfl
    have hom : ((b : Int) % ((c.length : Nat) : Int)) = o := by rw [ho0]; rfl
    have htl := hto.lens
    have htk : (t.take 2).length < 64 := by rw [List.length_take]; omega
    have hrg1 : Rg c.length [s] := fun x m => by rw [List.mem_singleton.mp m]; exact hs
    have hi1 : nev (inv c [s]) = [] := (inv_wid hcw hrg1).nev hcw (inv_cow [s] hrg1 hcw) hw
    refine wb_cons ?_
    refine ws_par 2 3 rfl sc_queries_l.nd n2 n3 (by decide) rfl rfl ?_ (by rfl)
    refine we_len B rfl ?_
    walk_at "e"
    refine ⟨_, (ct_sq (by assumption)), ?_⟩
    rw [hlen]
    refine we_callP c_count_orders (by walk_at "room") rfl ?_
    refine wa_one ?_
    walk_at "e"
    refine ⟨_, c, rfl, hc, by omega, hw, ?_⟩
    refine wb_cons (ws_if ?_)
    refine wt_cmp (op := .Lt) op_lt (nomark _) ?_
    walk_at "e"
    walk_at "e"
    refine ow_cmp ⟨_, rfl, ?_⟩
    refine itF (decide_eq_false (by omega)) ?_
    refine wb_nil ?_
    refine wb_cons ?_
    refine ws_par 4 5 rfl sc_queries_l.nd n4 n5 (by decide) rfl rfl ?_ (by rfl)
    refine we_callP c_order_at (by walk_at "room") rfl ?_
    refine wa_cons ?_
    walk_at "e"
    refine wa_one ?_
    walk_at "e"
    walk_at "e"
    walk_at "e"
    walk_at "e"
    refine ow_ix (.t _) (atI_nat (j := 0) rfl) ?_
    walk_at "e"
    refine ow_cnd (by omega) ?_
    rw [hkm]
    refine ⟨_, c, k, t, rfl, hc, by omega, hw, hto', ?_⟩
    refine we_callP c_last_order (by walk_at "room") rfl ?_
    refine wa_one ?_
    walk_at "e"
    refine ⟨_, c, rfl, hc, by omega, hw, ?_⟩
    refine wb_cons ?_
    refine ws_par 6 7 rfl sc_queries_l.nd n6 n7 (by decide) rfl rfl ?_ (by rfl)
    walk_at "e"
    walk_at "e"
    walk_at "e"
    walk_at "e"
    refine ow_ix (.t _) (atI_nat (j := 0) rfl) ?_
    walk_at "e"
    refine ow_cnd (by omega) ?_
    walk_at "e"
    walk_at "e"
    walk_at "e"
    walk_at "e"
    refine ow_ix (.t _) (atI_nat (j := 1) rfl) ?_
    walk_at "e"
    refine ow_cnd (by omega) ?_
    rw [hsm, hom]
    refine wb_cons ?_
    refine ws_set 8 sc_queries_l.nd n8 (by walk_at "loc") (by first | exact .inl rfl | exact .inr rfl) ?_
    refine we_lstP ?_
    refine wa_one ?_
    refine we_lst ?_
    refine wa_cons ?_
    walk_at "e"
    refine wa_cons ?_
    walk_at "e"
    refine wa_cons ?_
    refine we_callP c_number_of (by walk_at "room") rfl ?_
    refine wa_cons ?_
    walk_at "e"
    refine wa_one ?_
    walk_at "e"
    refine ⟨_, c, _, t, k, rfl, hc, by omega, hw, .inr rfl, hto', ?_⟩
    refine wa_cons ?_
    refine we_callP c_first_order (by walk_at "room") rfl ?_
    refine wa_one ?_
    walk_at "e"
    refine ⟨_, c, rfl, hc, by omega, hw, ?_⟩
    refine wa_cons ?_
    walk_at "e"
    refine wa_one ?_
    refine we_callP c_misfit (by walk_at "room") rfl ?_
    refine wa_cons ?_
    walk_at "e"
    refine wa_one ?_
    refine we_revT ?_
    walk_at "e"
    refine ⟨_, rfl, ?_⟩
    rw [rev_ints]
    refine ⟨_, c, _, t.reverse, rfl, hc, .inr rfl, by rw [List.length_reverse]; omega, (fun x m => hto.rows x (List.mem_reverse.mp m)), ?_⟩
    refine ⟨[(.int ((Wy c c.length [] : Nat) : Int)), (.tuple (intsD t)), (.int ((k : Nat) : Int)), (.tuple (intsD (fo c))), (.tuple (intsD (la c))), (misV c t.reverse)], rfl, by simp, fun p1 => ?_⟩
    refine ⟨by simp, (by intro d; simp), fun p2 => ?_⟩
    refine wb_cons ?_
    refine ws_set 8 sc_queries_l.nd n8 (by walk_at "loc") (by first | exact .inl rfl | exact .inr rfl) ?_
    walk_at "e"
    walk_at "e"
    refine we_lstP ?_
    refine wa_cons ?_
    refine we_callP c_must_before (by walk_at "room") rfl ?_
    refine wa_one ?_
    walk_at "e"
    refine ⟨_, c, rfl, hc, by omega, hw, fun p3 => ?_⟩
    refine wa_cons ?_
    refine we_callP c_free_pairs (by walk_at "room") rfl ?_
    refine wa_one ?_
    walk_at "e"
    refine ⟨_, c, rfl, hc, by omega, hw, fun p4 => ?_⟩
    refine wa_cons ?_
    refine we_callP c_rounds (by walk_at "room") rfl ?_
    refine wa_one ?_
    walk_at "e"
    refine ⟨_, c, rfl, hc, fun p5 => ?_⟩
    refine wa_one ?_
    refine we_callP c_next_people (by walk_at "room") rfl ?_
    refine wa_cons ?_
    walk_at "e"
    refine wa_one ?_
    refine we_fz ?_
    refine we_sortedT B rfl ?_
    refine we_slT ?_
    walk_at "e"
    refine wo_none ?_
    refine wo_some ?_
    walk_at "e"
    refine ⟨_, rfl, ?_⟩
    refine ⟨_, rfl, ?_⟩
    rw [show (2 : Int) = ((2 : Nat) : Int) from rfl, cutZ_takeA, ← List.map_take]
    refine ⟨(t.take 2), rfl, by walk_at "so", fun p6 => ⟨p6, _, _, rfl, rfl, by walk_at "pl", ?_⟩⟩
    refine ⟨_, c, _, (srt (t.take 2)), rfl, hc, .inl rfl, fun p7 => ?_⟩
    refine ⟨by simp, (by intro d; simp), fun p8 => ?_⟩
    refine ow_catCC 5 0 rfl rfl (by simp) fun p9 => ?_
    refine wb_dropAt 1 rfl ?_
    refine wb_dropAt 5 rfl ?_
    refine wb_cons (ws_expr ?_)
    refine we_appendC ?_
    walk_at "e"
    refine ⟨p9, _, ⟨0, rfl⟩, rfl, ?_⟩
    refine we_lst ?_
    refine wa_cons ?_
    refine we_callP c_earlier_people (by walk_at "room") rfl ?_
    refine wa_cons ?_
    walk_at "e"
    refine wa_one ?_
    walk_at "e"
    refine ⟨_, c, s, rfl, hc, by omega, hw, hs.1, hs.2, ?_⟩
    refine wa_cons ?_
    refine we_callP c_later_people (by walk_at "room") rfl ?_
    refine wa_cons ?_
    walk_at "e"
    refine wa_one ?_
    walk_at "e"
    refine ⟨_, c, s, rfl, hc, by omega, hw, hs.1, hs.2, ?_⟩
    refine wa_one ?_
    refine we_callP c_latest_place (by walk_at "room") rfl ?_
    refine wa_cons ?_
    walk_at "e"
    refine wa_one ?_
    walk_at "e"
    refine ⟨_, c, s, rfl, hc, by omega, hw, hs.1, hs.2, ?_⟩
    refine ⟨[(.tuple (intsD (er c s))), (.tuple (intsD (bh c s))), (.int (((cl c [] [s]).length : Nat) : Int))], rfl, by simp, fun p10 => ?_⟩
    refine ⟨_, 1, (fun d => ⟨(fun z => by cases z), fun ns z => by cases z⟩), rfl, (by simp), ?_⟩
    refine wb_perm (List.Perm.swap _ _ _) ?_
    refine wb_cons (ws_expr ?_)
    refine we_appendC ?_
    walk_at "e"
    refine ⟨p9, _, ⟨0, rfl⟩, rfl, ?_⟩
    refine we_lst ?_
    refine wa_cons ?_
    refine we_callP c_greatest (by walk_at "room") rfl ?_
    refine wa_one ?_
    walk_at "e"
    refine ⟨_, c, rfl, hc, by omega, ?_⟩
    refine wa_cons ?_
    refine we_callP c_comes_without (by walk_at "room") rfl ?_
    refine wa_cons ?_
    walk_at "e"
    refine wa_one ?_
    refine we_tup ?_
    refine wa_one ?_
    walk_at "e"
    refine ⟨intsD [s], rfl, by simp, ?_⟩
    refine ⟨_, c, _, [s], rfl, hc, .inr rfl, by omega, ?_⟩
    refine wa_cons ?_
    refine we_callP c_fewest_invited (by walk_at "room") rfl ?_
    refine wa_one ?_
    walk_at "e"
    refine ⟨_, c, rfl, hc, by omega, ?_⟩
    refine wa_one ?_
    refine we_callP c_first_invitation (by walk_at "room") rfl ?_
    refine wa_one ?_
    walk_at "e"
    refine ⟨_, c, rfl, hc, by omega, ?_⟩
    refine ⟨[(.tuple (intsD (gr c))), (.tuple (intsD (cl c [] ([s])))), (.int (((fi c).length : Nat) : Int)), (.tuple (intsD (fi c)))], rfl, by simp, fun p11 => ?_⟩
    refine ⟨_, 1, (fun d => ⟨(fun z => by cases z), fun ns z => by cases z⟩), rfl, (by simp), ?_⟩
    refine wb_perm (List.Perm.swap _ _ _) ?_
    refine wb_cons ?_
    refine ws_set 8 sc_queries_l.nd n8 (by walk_at "loc") (by first | exact .inl rfl | exact .inr rfl) ?_
    walk_at "e"
    walk_at "e"
    refine we_lstP ?_
    refine wa_cons ?_
    refine we_callP c_exchanges (by walk_at "room") rfl ?_
    refine wa_cons ?_
    walk_at "e"
    refine wa_one ?_
    walk_at "e"
    refine ⟨_, c, _, t, rfl, hc, by omega, hw, .inr rfl, hto, fun p12 => ?_⟩
    refine wa_cons ?_
    refine we_callP c_crossed (by walk_at "room") rfl ?_
    refine wa_cons ?_
    walk_at "e"
    refine wa_cons ?_
    walk_at "e"
    refine wa_one ?_
    walk_at "e"
    refine ⟨_, c, _, t, _, la c, rfl, hc, by omega, hw, .inr rfl, hto, .inr rfl, hla, fun p13 => ?_⟩
    refine wa_one ?_
    refine we_lst ?_
    refine wa_one ?_
    refine we_callP c_distance (by walk_at "room") rfl ?_
    refine wa_cons ?_
    walk_at "e"
    refine wa_cons ?_
    walk_at "e"
    refine wa_one ?_
    walk_at "e"
    refine ⟨_, c, _, t, _, la c, rfl, hc, by omega, hw, .inr rfl, hto, .inr rfl, hla, ?_⟩
    refine ⟨intsD [(((crs c.length t (la c)).length : Nat) : Int)], rfl, by simp, fun p14 => ?_⟩
    refine ⟨by simp, (by intro d; simp), fun p15 => ?_⟩
    refine ow_catCC 4 0 rfl rfl (by simp) fun p16 => ?_
    refine wb_dropAt 1 rfl ?_
    refine wb_dropAt 4 rfl ?_
    refine wb_cons ?_
    refine ws_set 8 sc_queries_l.nd n8 (by walk_at "loc") (by first | exact .inl rfl | exact .inr rfl) ?_
    walk_at "e"
    walk_at "e"
    refine we_lstP ?_
    refine wa_cons ?_
    refine we_callP c_chances_of (by walk_at "room") rfl ?_
    refine wa_cons ?_
    walk_at "e"
    refine wa_one ?_
    walk_at "e"
    refine ⟨_, c, s, rfl, hc, by omega, hw, hs.1, hs.2, by omega, fun p17 => ?_⟩
    refine wa_cons ?_
    refine we_lst ?_
    refine wa_one ?_
    refine we_callP c_earliest_place (by walk_at "room") rfl ?_
    refine wa_cons ?_
    walk_at "e"
    refine wa_one ?_
    walk_at "e"
    refine ⟨_, c, s, ea28 c s, rfl, hc, by omega, hw, hs.1, hs.2, by omega, hea.1, hea.2, ?_⟩
    refine ⟨intsD [((ea28 c s : Nat) : Int)], rfl, by simp, fun p18 => ?_⟩
    refine wa_one ?_
    refine we_callP c_spare (by walk_at "room") rfl ?_
    refine wa_cons ?_
    walk_at "e"
    refine wa_one ?_
    refine we_tup ?_
    refine wa_one ?_
    walk_at "e"
    refine ⟨intsD [s], rfl, by simp, ?_⟩
    refine ⟨_, c, _, [s], rfl, hc, .inr rfl, hrg1, by simp, by omega, hi1, fun p19 => ?_⟩
    refine ⟨by simp, (by intro d; simp), fun p20 => ?_⟩
    refine ow_catCC 4 0 rfl rfl (by simp) fun p21 => ?_
    refine wb_dropAt 1 rfl ?_
    refine wb_dropAt 4 rfl ?_
    refine wb_cons (ws_if ?_)
    refine wt_cmp (op := .NotEq) (op_neD (Room.units (k := 0) (by with_unfolding_all exact Room.mono (by assumption) (Nat.zero_le _)))) (nomark _) ?_
    walk_at "e"
    walk_at "e"
    refine ow_ne (.d _) (.d _) rfl rfl ⟨_, rfl, ?_⟩
    rw [eqv_dint]
    by_cases hso : s = o
    · skip
      refine itF (by rw [decide_eq_true hso]; rfl) ?_
      refine wb_nil ?_
      refine wb_cons (ws_if ?_)
      refine wt_cmp (op := .LtE) op_le (nomark _) ?_
      walk_at "e"
      walk_at "e"
      refine ow_cmp ⟨_, rfl, ?_⟩
      by_cases h60 : (allP c c.length).length ≤ 60
      · skip
        refine itT (decide_eq_true (by omega)) ?_
        refine wb_cons (ws_expr ?_)
        refine we_appendC ?_
        walk_at "e"
        refine ⟨p21, _, ⟨0, rfl⟩, rfl, ?_⟩
        refine we_callP c_all_orders (by walk_at "room") rfl ?_
        refine wa_one ?_
        walk_at "e"
        refine ⟨_, c, rfl, hc, by omega, hw, by omega, fun p22 => ?_⟩
        refine ⟨_, 1, (fun d => ⟨(fun z => by cases z), fun ns z => by cases z⟩), rfl, (by simp), ?_⟩
        refine wb_perm (List.Perm.swap _ _ _) ?_
        refine wb_nil ?_
        refine wb_one (ws_ret ?_)
        walk_at "e"
        have hν : ([(p1, [(.int ((Wy c c.length [] : Nat) : Int)), (.tuple (intsD t)), (.int ((k : Nat) : Int)), (.tuple (intsD (fo c))), (.tuple (intsD (la c))), (misV c t.reverse)]), (p3, ((mb c).map duoD)), (p4, ((fp c).map duoD)), (p5, (tups (AR c [] []))), (p7, (intsD (nexts c (srt (t.take 2))))), (p10, [(.tuple (intsD (er c s))), (.tuple (intsD (bh c s))), (.int (((cl c [] [s]).length : Nat) : Int))]), (p11, [(.tuple (intsD (gr c))), (.tuple (intsD (cl c [] ([s])))), (.int (((fi c).length : Nat) : Int)), (.tuple (intsD (fi c)))]), (p12, (natsD (frp c t))), (p13, ((crs c.length t (la c)).map duoD)), (p14, (intsD [(((crs c.length t (la c)).length : Nat) : Int)])), (p17, (tups ((List.range c.length).map fun i => red (cnI c s i) (allP c c.length).length))), (p18, (intsD [((ea28 c s : Nat) : Int)])), (p19, (intsD (spr c [s]))), (p22, (tups (allP c c.length)))] : List (Addr × List PyData)).map Prod.snd = q28 c a b := by
          unfold q28 rows28
          rw [← ht0, ← hk0, ← hs0, ← ho0, if_pos (show a % c.length = b % c.length by omega), if_pos h60]
          rw [hct]
          rfl
        exact keep_perm (List.Perm.cons _ (List.reverse_perm (cls ([(p1, [(.int ((Wy c c.length [] : Nat) : Int)), (.tuple (intsD t)), (.int ((k : Nat) : Int)), (.tuple (intsD (fo c))), (.tuple (intsD (la c))), (misV c t.reverse)]), (p3, ((mb c).map duoD)), (p4, ((fp c).map duoD)), (p5, (tups (AR c [] []))), (p7, (intsD (nexts c (srt (t.take 2))))), (p10, [(.tuple (intsD (er c s))), (.tuple (intsD (bh c s))), (.int (((cl c [] [s]).length : Nat) : Int))]), (p11, [(.tuple (intsD (gr c))), (.tuple (intsD (cl c [] ([s])))), (.int (((fi c).length : Nat) : Int)), (.tuple (intsD (fi c)))]), (p12, (natsD (frp c t))), (p13, ((crs c.length t (la c)).map duoD)), (p14, (intsD [(((crs c.length t (la c)).length : Nat) : Int)])), (p17, (tups ((List.range c.length).map fun i => red (cnI c s i) (allP c c.length).length))), (p18, (intsD [((ea28 c s : Nat) : Int)])), (p19, (intsD (spr c [s]))), (p22, (tups (allP c c.length)))] : List (Addr × List PyData))))) (keep (hR _ _ hν))
      · skip
        refine itF (decide_eq_false (by omega)) ?_
        refine wb_nil ?_
        refine wb_one (ws_ret ?_)
        walk_at "e"
        have hν : ([(p1, [(.int ((Wy c c.length [] : Nat) : Int)), (.tuple (intsD t)), (.int ((k : Nat) : Int)), (.tuple (intsD (fo c))), (.tuple (intsD (la c))), (misV c t.reverse)]), (p3, ((mb c).map duoD)), (p4, ((fp c).map duoD)), (p5, (tups (AR c [] []))), (p7, (intsD (nexts c (srt (t.take 2))))), (p10, [(.tuple (intsD (er c s))), (.tuple (intsD (bh c s))), (.int (((cl c [] [s]).length : Nat) : Int))]), (p11, [(.tuple (intsD (gr c))), (.tuple (intsD (cl c [] ([s])))), (.int (((fi c).length : Nat) : Int)), (.tuple (intsD (fi c)))]), (p12, (natsD (frp c t))), (p13, ((crs c.length t (la c)).map duoD)), (p14, (intsD [(((crs c.length t (la c)).length : Nat) : Int)])), (p17, (tups ((List.range c.length).map fun i => red (cnI c s i) (allP c c.length).length))), (p18, (intsD [((ea28 c s : Nat) : Int)])), (p19, (intsD (spr c [s])))] : List (Addr × List PyData)).map Prod.snd = q28 c a b := by
          unfold q28 rows28
          rw [← ht0, ← hk0, ← hs0, ← ho0, if_pos (show a % c.length = b % c.length by omega), if_neg h60]
          rw [hct]
          rfl
        exact keep_perm (List.Perm.cons _ (List.reverse_perm (cls ([(p1, [(.int ((Wy c c.length [] : Nat) : Int)), (.tuple (intsD t)), (.int ((k : Nat) : Int)), (.tuple (intsD (fo c))), (.tuple (intsD (la c))), (misV c t.reverse)]), (p3, ((mb c).map duoD)), (p4, ((fp c).map duoD)), (p5, (tups (AR c [] []))), (p7, (intsD (nexts c (srt (t.take 2))))), (p10, [(.tuple (intsD (er c s))), (.tuple (intsD (bh c s))), (.int (((cl c [] [s]).length : Nat) : Int))]), (p11, [(.tuple (intsD (gr c))), (.tuple (intsD (cl c [] ([s])))), (.int (((fi c).length : Nat) : Int)), (.tuple (intsD (fi c)))]), (p12, (natsD (frp c t))), (p13, ((crs c.length t (la c)).map duoD)), (p14, (intsD [(((crs c.length t (la c)).length : Nat) : Int)])), (p17, (tups ((List.range c.length).map fun i => red (cnI c s i) (allP c c.length).length))), (p18, (intsD [((ea28 c s : Nat) : Int)])), (p19, (intsD (spr c [s])))] : List (Addr × List PyData))))) (keep (hR _ _ hν))
    · skip
      refine itT (by rw [decide_eq_false hso]; rfl) ?_
      refine wb_cons (ws_expr ?_)
      refine we_appendC ?_
      walk_at "e"
      refine ⟨p21, _, ⟨0, rfl⟩, rfl, ?_⟩
      refine we_lst ?_
      refine wa_one ?_
      refine we_callP c_chance_before (by walk_at "room") rfl ?_
      refine wa_cons ?_
      walk_at "e"
      refine wa_cons ?_
      walk_at "e"
      refine wa_one ?_
      walk_at "e"
      refine ⟨_, c, s, o, rfl, hc, by omega, hw, hs, ho, hso, by omega, ?_⟩
      refine ⟨[(.tuple (intsD (red (cnB c s o) (allP c c.length).length)))], rfl, by simp, fun p22 => ?_⟩
      refine ⟨_, 1, (fun d => ⟨(fun z => by cases z), fun ns z => by cases z⟩), rfl, (by simp), ?_⟩
      refine wb_perm (List.Perm.swap _ _ _) ?_
      refine wb_nil ?_
      refine wb_cons (ws_if ?_)
      refine wt_cmp (op := .LtE) op_le (nomark _) ?_
      walk_at "e"
      walk_at "e"
      refine ow_cmp ⟨_, rfl, ?_⟩
      by_cases h60 : (allP c c.length).length ≤ 60
      · skip
        refine itT (decide_eq_true (by omega)) ?_
        refine wb_cons (ws_expr ?_)
        refine we_appendC ?_
        walk_at "e"
        refine ⟨p21, _, ⟨0, rfl⟩, rfl, ?_⟩
        refine we_callP c_all_orders (by walk_at "room") rfl ?_
        refine wa_one ?_
        walk_at "e"
        refine ⟨_, c, rfl, hc, by omega, hw, by omega, fun p23 => ?_⟩
        refine ⟨_, 1, (fun d => ⟨(fun z => by cases z), fun ns z => by cases z⟩), rfl, (by simp), ?_⟩
        refine wb_perm (List.Perm.swap _ _ _) ?_
        refine wb_nil ?_
        refine wb_one (ws_ret ?_)
        walk_at "e"
        have hν : ([(p1, [(.int ((Wy c c.length [] : Nat) : Int)), (.tuple (intsD t)), (.int ((k : Nat) : Int)), (.tuple (intsD (fo c))), (.tuple (intsD (la c))), (misV c t.reverse)]), (p3, ((mb c).map duoD)), (p4, ((fp c).map duoD)), (p5, (tups (AR c [] []))), (p7, (intsD (nexts c (srt (t.take 2))))), (p10, [(.tuple (intsD (er c s))), (.tuple (intsD (bh c s))), (.int (((cl c [] [s]).length : Nat) : Int))]), (p11, [(.tuple (intsD (gr c))), (.tuple (intsD (cl c [] ([s])))), (.int (((fi c).length : Nat) : Int)), (.tuple (intsD (fi c)))]), (p12, (natsD (frp c t))), (p13, ((crs c.length t (la c)).map duoD)), (p14, (intsD [(((crs c.length t (la c)).length : Nat) : Int)])), (p17, (tups ((List.range c.length).map fun i => red (cnI c s i) (allP c c.length).length))), (p18, (intsD [((ea28 c s : Nat) : Int)])), (p19, (intsD (spr c [s]))), (p22, [(.tuple (intsD (red (cnB c s o) (allP c c.length).length)))]), (p23, (tups (allP c c.length)))] : List (Addr × List PyData)).map Prod.snd = q28 c a b := by
          unfold q28 rows28
          rw [← ht0, ← hk0, ← hs0, ← ho0, if_neg (show ¬ a % c.length = b % c.length by omega), if_pos h60]
          rw [hct]
          rfl
        exact keep_perm (List.Perm.cons _ (List.reverse_perm (cls ([(p1, [(.int ((Wy c c.length [] : Nat) : Int)), (.tuple (intsD t)), (.int ((k : Nat) : Int)), (.tuple (intsD (fo c))), (.tuple (intsD (la c))), (misV c t.reverse)]), (p3, ((mb c).map duoD)), (p4, ((fp c).map duoD)), (p5, (tups (AR c [] []))), (p7, (intsD (nexts c (srt (t.take 2))))), (p10, [(.tuple (intsD (er c s))), (.tuple (intsD (bh c s))), (.int (((cl c [] [s]).length : Nat) : Int))]), (p11, [(.tuple (intsD (gr c))), (.tuple (intsD (cl c [] ([s])))), (.int (((fi c).length : Nat) : Int)), (.tuple (intsD (fi c)))]), (p12, (natsD (frp c t))), (p13, ((crs c.length t (la c)).map duoD)), (p14, (intsD [(((crs c.length t (la c)).length : Nat) : Int)])), (p17, (tups ((List.range c.length).map fun i => red (cnI c s i) (allP c c.length).length))), (p18, (intsD [((ea28 c s : Nat) : Int)])), (p19, (intsD (spr c [s]))), (p22, [(.tuple (intsD (red (cnB c s o) (allP c c.length).length)))]), (p23, (tups (allP c c.length)))] : List (Addr × List PyData))))) (keep (hR _ _ hν))
      · skip
        refine itF (decide_eq_false (by omega)) ?_
        refine wb_nil ?_
        refine wb_one (ws_ret ?_)
        walk_at "e"
        have hν : ([(p1, [(.int ((Wy c c.length [] : Nat) : Int)), (.tuple (intsD t)), (.int ((k : Nat) : Int)), (.tuple (intsD (fo c))), (.tuple (intsD (la c))), (misV c t.reverse)]), (p3, ((mb c).map duoD)), (p4, ((fp c).map duoD)), (p5, (tups (AR c [] []))), (p7, (intsD (nexts c (srt (t.take 2))))), (p10, [(.tuple (intsD (er c s))), (.tuple (intsD (bh c s))), (.int (((cl c [] [s]).length : Nat) : Int))]), (p11, [(.tuple (intsD (gr c))), (.tuple (intsD (cl c [] ([s])))), (.int (((fi c).length : Nat) : Int)), (.tuple (intsD (fi c)))]), (p12, (natsD (frp c t))), (p13, ((crs c.length t (la c)).map duoD)), (p14, (intsD [(((crs c.length t (la c)).length : Nat) : Int)])), (p17, (tups ((List.range c.length).map fun i => red (cnI c s i) (allP c c.length).length))), (p18, (intsD [((ea28 c s : Nat) : Int)])), (p19, (intsD (spr c [s]))), (p22, [(.tuple (intsD (red (cnB c s o) (allP c c.length).length)))])] : List (Addr × List PyData)).map Prod.snd = q28 c a b := by
          unfold q28 rows28
          rw [← ht0, ← hk0, ← hs0, ← ho0, if_neg (show ¬ a % c.length = b % c.length by omega), if_neg h60]
          rw [hct]
          rfl
        exact keep_perm (List.Perm.cons _ (List.reverse_perm (cls ([(p1, [(.int ((Wy c c.length [] : Nat) : Int)), (.tuple (intsD t)), (.int ((k : Nat) : Int)), (.tuple (intsD (fo c))), (.tuple (intsD (la c))), (misV c t.reverse)]), (p3, ((mb c).map duoD)), (p4, ((fp c).map duoD)), (p5, (tups (AR c [] []))), (p7, (intsD (nexts c (srt (t.take 2))))), (p10, [(.tuple (intsD (er c s))), (.tuple (intsD (bh c s))), (.int (((cl c [] [s]).length : Nat) : Int))]), (p11, [(.tuple (intsD (gr c))), (.tuple (intsD (cl c [] ([s])))), (.int (((fi c).length : Nat) : Int)), (.tuple (intsD (fi c)))]), (p12, (natsD (frp c t))), (p13, ((crs c.length t (la c)).map duoD)), (p14, (intsD [(((crs c.length t (la c)).length : Nat) : Int)])), (p17, (tups ((List.range c.length).map fun i => red (cnI c s i) (allP c c.length).length))), (p18, (intsD [((ea28 c s : Nat) : Int)])), (p19, (intsD (spr c [s]))), (p22, [(.tuple (intsD (red (cnB c s o) (allP c c.length).length)))])] : List (Addr × List PyData))))) (keep (hR _ _ hν))
theorem ok_right_l {f : Addr} {fd : FuncData} (F : Fun K "_law_right" "_law_right" s_right_l f fd) (B : Bl mg) (c_law_take : Cal P w K mg base 1 "_law_take" T_take) (c_law_eased : Cal P w K mg base 3 "_law_eased" T_eased) (c_law_crowd_of : Cal P w K mg base 2 "_law_crowd_of" T_crowd_of) (c_law_queries : Cal P w K mg base 13 "_law_queries" T_qry) : FnG P w K mg base CX0 14 f fd ["_law_box_here"] (spW K (T_right 20000)) := by
  refine fn_w F sc_right_l (by decide) (fun xs μ R h => ?_) fun cdv A outer s H E hr hgd xs μ R hT => ?_
  · obtain ⟨b, bs, m, rfl, _⟩ := h
    rfl
  · obtain ⟨b, bs, m, rfl, rfl, hb, hm, hR⟩ := hT
    refine wb_names (N := ["_law_box_here", "_law_count", "_law_crowds", "_law_picks", "_law_kept", "_law_due", "_law_turn", "_law_at", "_law_found", "_law_some", "_law_soft", "_law_crowd", "_law_pals", "_law_due_so"]) rfl fun hn => ?_
    have n0 := hn 0 _ rfl
    have n1 := hn 1 _ rfl
    have n2 := hn 2 _ rfl
    have n3 := hn 3 _ rfl
    have n4 := hn 4 _ rfl
    have n5 := hn 5 _ rfl
    have n6 := hn 6 _ rfl
    have n7 := hn 7 _ rfl
    have n8 := hn 8 _ rfl
    have n9 := hn 9 _ rfl
    have n10 := hn 10 _ rfl
    have n11 := hn 11 _ rfl
    have n12 := hn 12 _ rfl
    have n13 := hn 13 _ rfl
    refine wb_cons ?_
    refine ws_set 1 sc_right_l.nd n1 (by walk_at "loc") (by first | exact .inl rfl | exact .inr rfl) ?_
    walk_at "e"
    walk_at "e"
    refine we_callB 0 c_law_take (by walk_at "room") rfl ?_
    refine wa_cons ?_
    walk_at "e"
    refine wa_one ?_
    walk_at "e"
    refine ⟨b, bs, rfl, b, bs, 5, _, rfl, rfl, hb, by omega, by omega, by omega, fun v bs1 v0 v1 hb1 => ⟨[], bs1, rfl, ?_⟩⟩
    refine ow_add ?_
    refine wb_cons ?_
    refine ws_set 2 sc_right_l.nd n2 (by walk_at "loc") (by first | exact .inl rfl | exact .inr rfl) ?_
    refine we_fz ?_
    refine we_lst ?_
    refine wa_cons ?_
    refine we_callP c_law_eased (by walk_at "room") rfl ?_
    refine wa_one ?_
    refine we_callB 0 c_law_crowd_of (by walk_at "room") rfl ?_
    refine wa_cons ?_
    walk_at "e"
    refine wa_one ?_
    walk_at "e"
    refine ⟨b, bs1, rfl, b, bs1, ((2 + v)).toNat, _, by rw [Int.toNat_of_nonneg (by omega)], rfl, hb1, by omega, by omega, fun c0 bs2 hl0 hc0 hb2 => ⟨[], bs2, rfl, ?_⟩⟩
    refine ⟨c0, rfl, by omega, hc0.frs (by omega), fun c hlc hfr hnv he => ?_⟩
    refine wa_one ?_
    refine we_callP c_law_eased (by walk_at "room") rfl ?_
    refine wa_one ?_
    refine we_callB 0 c_law_crowd_of (by walk_at "room") rfl ?_
    refine wa_cons ?_
    walk_at "e"
    refine wa_one ?_
    walk_at "e"
    refine ⟨b, bs2, rfl, b, bs2, ((2 + v)).toNat, _, by rw [Int.toNat_of_nonneg (by omega)], rfl, hb2, by omega, by omega, fun d0 bs3 hk0 hd0 hb3 => ⟨[], bs3, rfl, ?_⟩⟩
    refine ⟨d0, rfl, by omega, hd0.frs (by omega), fun d hkd hfd hnd hf => ?_⟩
    refine ⟨[(coD c), (coD d)], rfl, by simp, fun p1 => ⟨p1, _, _, rfl, rfl, by walk_at "pl", ?_⟩⟩
    have gc : G28 c := ⟨by omega, by omega, hnv, he.cow hlc hc0, hfr⟩
    have gd : G28 d := ⟨by omega, by omega, hnd, hf.cow hkd hd0, hfd⟩
    have hkept := kept28 gc gd
    refine wb_cons ?_
    refine ws_tups [3, 4] rfl ?_
    refine wa_cons ?_
    refine we_tup ?_
    refine wa_cons ?_
    refine we_callB 0 c_law_take (by walk_at "room") rfl ?_
    refine wa_cons ?_
    walk_at "e"
    refine wa_one ?_
    walk_at "e"
    walk_at "e"
    walk_at "e"
    refine ow_cnd (C := CPow) (by exact ⟨by decide, by decide, by decide⟩) ?_
    rw [show ((10 : Int) ^ Int.toNat 6) = 1000000 from by decide]
    refine ⟨b, bs3, rfl, b, bs3, 1000000, _, rfl, rfl, hb3, by omega, by omega, by omega, fun a0 bs4 ha0 ha1 hb4 => ⟨[], bs4, rfl, ?_⟩⟩
    refine wa_one ?_
    refine we_callB 0 c_law_take (by walk_at "room") rfl ?_
    refine wa_cons ?_
    walk_at "e"
    refine wa_one ?_
    walk_at "e"
    walk_at "e"
    walk_at "e"
    refine ow_cnd (C := CPow) (by exact ⟨by decide, by decide, by decide⟩) ?_
    rw [show ((10 : Int) ^ Int.toNat 6) = 1000000 from by decide]
    refine ⟨b, bs4, rfl, b, bs4, 1000000, _, rfl, rfl, hb4, by omega, by omega, by omega, fun b0 bs5 hb0 hb1 hb5 => ⟨[], bs5, rfl, ?_⟩⟩
    refine ⟨intsD [a0, b0], rfl, by simp, ?_⟩
    refine wa_one ?_
    refine we_repr B rfl (Room.units (k := 0) (by with_unfolding_all exact Room.mono (by assumption) (Nat.zero_le _))) ?_
    walk_at "e"
    refine ⟨_, rfl, hkept.sh, hkept.nd, Nat.le_trans hkept.dp (by decide), ⟨_, .inl rfl⟩, Nat.le_trans hkept.ln (by rw [sizeLine_eq]; decide), ?_⟩
    refine ⟨rfl, by decide, ?_⟩
    refine wgs_cons (wg_name 3 sc_right_l.nd n3 (by walk_at "loc") (by first | exact .inl rfl | exact .inr rfl) (by decide) ?_)
    refine wgs_cons (wg_name 4 sc_right_l.nd n4 (by walk_at "loc") (by first | exact .inl rfl | exact .inr rfl) (by decide) ?_)
    refine wgs_nil ?_
    obtain ⟨pa, rfl⟩ : ∃ k : Nat, a0 = k := ⟨a0.toNat, by omega⟩
    obtain ⟨pb, rfl⟩ : ∃ k : Nat, b0 = k := ⟨b0.toNat, by omega⟩
    refine wb_cons ?_
    refine ws_setLc 5 [("_law_crowd", 11)] rfl sc_right_l.nd n5 rfl (sw_true rfl rfl rfl (by decide +kernel)) (blkOk_by (N := ["_law_box_here", "_law_count", "_law_crowds", "_law_picks", "_law_kept", "_law_due", "_law_turn", "_law_at", "_law_found", "_law_some", "_law_soft", "_law_crowd", "_law_pals", "_law_due_so"]) (sc := defScope s_right_l) (by decide +kernel)) (lcP coD (fun _ => true) (fun x => .str (txt28 x pa pb)) ?_)
    refine wi_seq ?_
    walk_at "e"
    refine ⟨[c, d].map coD, (.l _), ([c, d]), rfl, by simp, fun x hx => ?_, fun zq => ?_⟩
    · have gx : G28 x := by
        rcases List.mem_cons.mp hx with rfl | hx
        · exact gc
        · rw [List.mem_singleton.mp hx]
          exact gd
      intro s1 H1 C kl fp
      refine wg_name 11 sc_right_l.nd n11 (by walk_at "loc") (by first | exact .inl rfl | exact .inr rfl) (by decide) ?_
      intro s1 H1 C kl fp
      refine wts_nil ⟨rfl, itT rfl ?_⟩
      intro s1 H1 C kl fp
      refine we_reprA B rfl (Room.units (k := 0) (by with_unfolding_all exact Room.mono (by assumption) (Nat.zero_le _))) ?_
      refine we_fzP ?_
      refine we_callP c_law_queries (by walk_at "room") rfl ?_
      refine wa_cons ?_
      walk_at "e"
      refine wa_one ?_
      walk_at "e"
      refine ⟨_, x, pa, pb, rfl, gx.co, gx.lo, gx.hi, gx.nv, gx.cw, rfl, fun p2 ν hν => ⟨p2, ν, _, rfl, rfl, pl28 gx hν, ?_⟩⟩
      rw [pda28 hν]
      refine ⟨_, rfl, (shw28 gx).1, (shw28 gx).2.1, (shw28 gx).2.2.1, (shw28 gx).2.2.2, ?_⟩
      exact ⟨rfl, rfl⟩
    rw [filt_all]
    refine wb_frz 0 [5] rfl (fun j hj => by cases List.mem_singleton.mp hj; rfl) ?_
    refine wb_cons ?_
    refine ws_for [6] PassesOwn.never rfl ?_
    refine wi_rng rfl B.range ?_
    walk_at "e"
    refine ⟨4, rfl, by walk_at "so", fun i0 δ' μ' => ∃ bsk x6 x7 x8 x9 x10, δ' = [some (.a b), some (.d (.int (2 + v))), some (.d (.list [(coD c), (coD d)])), some (.d (.tuple [(.int (pa : Int)), (.int (pb : Int))])), some (.d (.str (PyData.list [(coD c), (coD d)]).shown)), some (.d (.list (([c, d]).map (fun x => PyData.str (txt28 x pa pb))))), x6, x7, x8, x9, x10, none, none, none] ∧ μ' = ([(b, Cont.l bsk)] : Cells) ∧ BoxOk (m + 12000 + 100 * i0) bsk, ⟨bs5, _, _, _, _, _, rfl, rfl, hb5.mono (by omega)⟩, fun i0 d δ' μ' hd hI => ?_, fun δ' μ' hI => ?_⟩
    · obtain ⟨bsk, x6, x7, x8, x9, x10, rfl, rfl, hbk⟩ := hI
      obtain ⟨hi0, rfl⟩ := rng_item hd
      refine wg_name 6 sc_right_l.nd n6 (by walk_at "loc") (by first | exact .inl rfl | exact .inr rfl) (by decide) ?_
      have hi0 : i0 < 4 := hi0
      refine wb_cons ?_
      refine ws_set 7 sc_right_l.nd n7 (by walk_at "loc") (by first | exact .inl rfl | exact .inr rfl) ?_
      refine we_callB 0 c_law_take (by walk_at "room") rfl ?_
      refine wa_cons ?_
      walk_at "e"
      refine wa_one ?_
      walk_at "e"
      refine ⟨b, bsk, rfl, b, bsk, 2, _, rfl, rfl, hbk, by omega, by omega, by omega, fun u bs6 hu0 hu1 hb6 => ⟨[], bs6, rfl, ?_⟩⟩
      obtain ⟨x, gx, hax, hdx⟩ := two28 gc gd hu0 hu1 pa pb
      refine wb_cons ?_
      refine ws_set 8 sc_right_l.nd n8 (by walk_at "loc") (by first | exact .inl rfl | exact .inr rfl) ?_
      refine we_callP c_law_queries (by walk_at "room") rfl ?_
      refine wa_cons ?_
      walk_at "e"
      walk_at "e"
      walk_at "e"
      refine ow_ix (.l _) (hax) ?_
      refine wa_one ?_
      walk_at "e"
      refine ⟨_, x, pa, pb, rfl, gx.co, gx.lo, gx.hi, gx.nv, gx.cw, rfl, fun pf ν hν => ?_⟩
      have plν := pl28 gx hν
      have lnν := ln28 gx hν
      refine wb_cons (ws_if ?_)
      refine wt_cmp (op := .NotEq) op_ne (nomark _) ?_
      refine we_lendS 8 rfl (lview_p plν) ?_
      refine we_reprA B rfl (Room.units (k := 0) (by with_unfolding_all exact Room.mono (by assumption) (Nat.zero_le _))) ?_
      walk_at "e"
      refine ⟨_, rfl, ?_⟩
      rw [pda28 hν]
      refine ⟨(shw28 gx).1, (shw28 gx).2.1, (shw28 gx).2.2.1, (shw28 gx).2.2.2, rfl, (fun y hy => by cases hy), ?_⟩
      walk_at "e"
      walk_at "e"
      walk_at "e"
      refine ow_ix (.l _) (hdx) ?_
      refine ow_neS ⟨_, rfl, ?_⟩
      refine itF (by rw [decide_eq_true (show (PyData.list ((q28 x pa pb).map PyData.list)).shown = txt28 x pa pb from rfl)]; rfl) ?_
      refine wb_nil ?_
      rw [pcs_map]
      refine wb_cons ?_
      refine ws_forP [9] 8 PassesOwn.never rfl rfl (by with_unfolding_all exact Or.inl rfl) rfl (List.mem_of_getElem? (i := 0) rfl) ?_
      refine ⟨fun i δ' μ' => ∃ x9 x10, δ' = [some (.a b), some (.d (.int (2 + v))), some (.d (.list [(coD c), (coD d)])), some (.d (.tuple [(.int (pa : Int)), (.int (pb : Int))])), some (.d (.str (PyData.list [(coD c), (coD d)]).shown)), some (.d (.list (([c, d]).map (fun x => PyData.str (txt28 x pa pb))))), some (.d (.int ((i0 : Nat) : Int))), some (.d (.int u)), some (.a pf), x9, x10, none, none, none] ∧ μ' = ((pf, (Cont.l ((ν.map Prod.fst).map ptr))) :: (cls (ν.drop i) ++ ([(b, (bs6 : Cont))] : Cells)) : Cells), ⟨_, _, rfl, rfl⟩, fun i δ' μ' hI => ?_, fun i q δ' μ' hq hI => ?_, fun δ' μ' hI => ?_⟩
      · obtain ⟨x9, x10, rfl, rfl⟩ := hI
        exact List.mem_cons_self
      · obtain ⟨x9, x10, rfl, rfl⟩ := hI
        obtain ⟨y, hy, rfl⟩ : ∃ y, ν[i]? = some y ∧ y.1 = q := by
          rw [List.getElem?_map] at hq
          cases e : ν[i]? with
          | none =>
            rw [e] at hq
            cases hq
          | some y =>
            rw [e] at hq
            exact ⟨y, rfl, Option.some.inj hq⟩
        obtain ⟨hyl, hye⟩ := List.getElem?_eq_some_iff.mp hy
        have hyd : ν.drop i = y :: ν.drop (i + 1) := by rw [List.drop_eq_getElem_cons hyl, hye]
        have hym := List.mem_of_getElem? hy
        have hyn := lnν y hym
        rw [hyd]
        show WGo _ _ _ _ _ ((pf, (Cont.l ((ν.map Prod.fst).map ptr))) :: (y.1, Cont.l y.2) :: (cls (ν.drop (i + 1)) ++ ([(b, (bs6 : Cont))] : Cells))) _
        refine wg_name 9 sc_right_l.nd n9 (by walk_at "loc") (by first | exact .inl rfl | exact .inr rfl) (by decide) ?_
        refine wb_cons (ws_expr ?_)
        refine we_append ?_
        walk_at "e"
        refine ⟨y.1, _, ⟨1, rfl⟩, rfl, ?_⟩
        walk_at "e"
        refine ⟨_, _, 1, rfl, rfl, by omega, ?_⟩
        refine wb_cons (ws_expr ?_)
        refine we_reverse ?_
        walk_at "e"
        refine ⟨y.1, _, 1, rfl, rfl, ?_⟩
        refine wb_dropAt 1 rfl ?_
        refine wb_nil ?_
        exact ⟨_, _, rfl, rfl⟩
      · obtain ⟨x9, x10, rfl, rfl⟩ := hI
        rw [show (ν.map Prod.fst).length = ν.length from List.length_map _, List.drop_length]
        refine wb_drop ?_
        refine wb_perm (List.Perm.refl ([(b, (bs6 : Cont))] : Cells)) ?_
        refine wb_nil ?_
        exact ⟨bs6, _, _, _, _, _, rfl, rfl, hb6.mono (by omega)⟩
    · rw [rng_items _] at hI
      obtain ⟨bsk, x6, x7, x8, x9, x10, rfl, rfl, hbk⟩ := hI
      refine wb_cons ?_
      refine ws_setLc 10 [("_law_pals", 12), ("_law_due_so", 13)] rfl sc_right_l.nd n10 rfl (sw_true rfl rfl rfl (by decide +kernel)) (blkOk_by (N := ["_law_box_here", "_law_count", "_law_crowds", "_law_picks", "_law_kept", "_law_due", "_law_turn", "_law_at", "_law_found", "_law_some", "_law_soft", "_law_crowd", "_law_pals", "_law_due_so"]) (sc := defScope s_right_l) (by decide +kernel)) (lcP enD (fun _ => true) (fun x : List Int × Int => PyData.list (enL x)) ?_)
      refine wi_seq ?_
      walk_at "e"
      walk_at "e"
      walk_at "e"
      refine ow_ix (.l _) (atI_nat (j := 0) rfl) ?_
      refine ⟨_, (.t _), c, rfl, by have := gc.hi; omega, fun x hx => ?_, fun zq => ?_⟩
      · skip
        intro s1 H1 C kl fp
        refine wg_tup (ds := [_, _]) rfl ?_
        refine wgs_cons ?_
        refine wg_name 12 sc_right_l.nd n12 (by walk_at "loc") (by first | exact .inl rfl | exact .inr rfl) (by decide) ?_
        refine wgs_cons ?_
        refine wg_name 13 sc_right_l.nd n13 (by walk_at "loc") (by first | exact .inl rfl | exact .inr rfl) (by decide) ?_
        refine wgs_nil ?_
        intro s1 H1 C kl fp
        refine wts_nil ⟨rfl, itT rfl ?_⟩
        intro s1 H1 C kl fp
        refine we_fz ?_
        refine we_lst ?_
        refine wa_cons ?_
        refine we_fz ?_
        refine we_list B rfl ?_
        walk_at "e"
        refine ⟨_, (.t _), fun p3 => ⟨p3, _, _, rfl, rfl, by walk_at "pl", ?_⟩⟩
        refine wa_one ?_
        walk_at "e"
        refine ⟨[(.list (intsD x.1)), (.int x.2)], rfl, by simp, fun p4 => ⟨p4, _, _, rfl, rfl, by walk_at "pl", ?_⟩⟩
        exact ⟨rfl, rfl⟩
      rw [filt_all]
      refine wb_cons (ws_if ?_)
      refine wt_cmp (op := .NotEq) op_ne (nomark _) ?_
      refine we_lendS 10 rfl (.mk 0 rfl (litems_pl (plS_map fun _ => rfl))) ?_
      refine we_reprA B rfl (Room.units (k := 0) (by with_unfolding_all exact Room.mono (by assumption) (Nat.zero_le _))) ?_
      refine we_fzP ?_
      refine we_callP c_law_queries (by walk_at "room") rfl ?_
      refine wa_cons ?_
      walk_at "e"
      refine wa_one ?_
      walk_at "e"
      refine ⟨_, c, pa, pb, rfl, gc.coL, gc.lo, gc.hi, gc.nv, gc.cw, rfl, fun p5 ν hν => ⟨p5, ν, _, rfl, rfl, pl28 gc hν, ?_⟩⟩
      rw [pda28 hν]
      refine ⟨_, rfl, (shw28 gc).1, (shw28 gc).2.1, (shw28 gc).2.2.1, (shw28 gc).2.2.2, rfl, (fun y hy => by cases hy), ?_⟩
      walk_at "e"
      walk_at "e"
      walk_at "e"
      refine ow_ix (.l _) (atI_nat (j := 0) rfl) ?_
      refine ow_neS ⟨_, rfl, ?_⟩
      refine itF (by rw [decide_eq_true (show (PyData.list ((q28 c pa pb).map PyData.list)).shown = txt28 c pa pb from rfl)]; rfl) ?_
      refine wb_nil ?_
      refine wb_cons ?_
      refine ws_asg [] ?_
      refine we_fz ?_
      refine we_lc [("_law_pals", 12), ("_law_due_so", 13)] rfl sc_right_l.nd (blkOk_by (N := ["_law_box_here", "_law_count", "_law_crowds", "_law_picks", "_law_kept", "_law_due", "_law_turn", "_law_at", "_law_found", "_law_some", "_law_soft", "_law_crowd", "_law_pals", "_law_due_so"]) (sc := defScope s_right_l) (by decide +kernel)) (lcP enD (fun _ => true) (fun x : List Int × Int => PyData.list (enL x)) ?_)
      refine wi_seq ?_
      walk_at "e"
      walk_at "e"
      walk_at "e"
      refine ow_ix (.l _) (atI_nat (j := 1) rfl) ?_
      refine ⟨_, (.t _), d, rfl, by have := gd.hi; omega, fun x hx => ?_, fun zq => ?_⟩
      · skip
        intro s1 H1 C kl fp
        refine wg_tup (ds := [_, _]) rfl ?_
        refine wgs_cons ?_
        refine wg_name 12 sc_right_l.nd n12 (by walk_at "loc") (by first | exact .inl rfl | exact .inr rfl) (by decide) ?_
        refine wgs_cons ?_
        refine wg_name 13 sc_right_l.nd n13 (by walk_at "loc") (by first | exact .inl rfl | exact .inr rfl) (by decide) ?_
        refine wgs_nil ?_
        intro s1 H1 C kl fp
        refine wts_nil ⟨rfl, itT rfl ?_⟩
        intro s1 H1 C kl fp
        refine we_fz ?_
        refine we_lst ?_
        refine wa_cons ?_
        refine we_fz ?_
        refine we_list B rfl ?_
        walk_at "e"
        refine ⟨_, (.t _), fun p6 => ⟨p6, _, _, rfl, rfl, by walk_at "pl", ?_⟩⟩
        refine wa_one ?_
        walk_at "e"
        refine ⟨[(.list (intsD x.1)), (.int x.2)], rfl, by simp, fun p7 => ⟨p7, _, _, rfl, rfl, by walk_at "pl", ?_⟩⟩
        exact ⟨rfl, rfl⟩
      rw [filt_all]
      refine ⟨zq, _, _, rfl, rfl, by walk_at "pl", ?_⟩
      refine wg_all ?_
      walk_at "e"
      refine ⟨_, _, 0, rfl, rfl, by rw [List.length_map, List.length_map]; have := gc.hi; have := gd.hi; omega, ?_⟩
      refine wb_one (ws_ret ?_)
      refine we_and ?_
      refine we_cmp (op := .Eq) op_eq (nomark _) ?_
      refine we_lendS 10 rfl (.mk 0 rfl (litems_pl (plS_map fun _ => rfl))) ?_
      refine we_reprA B rfl (Room.units (k := 0) (by with_unfolding_all exact Room.mono (by assumption) (Nat.zero_le _))) ?_
      refine we_fzP ?_
      refine we_callP c_law_queries (by walk_at "room") rfl ?_
      refine wa_cons ?_
      walk_at "e"
      refine wa_one ?_
      walk_at "e"
      refine ⟨_, d, pa, pb, rfl, gd.coL, gd.lo, gd.hi, gd.nv, gd.cw, rfl, fun p8 ν hν => ⟨p8, ν, _, rfl, rfl, pl28 gd hν, ?_⟩⟩
      rw [pda28 hν]
      refine ⟨_, rfl, (shw28 gd).1, (shw28 gd).2.1, (shw28 gd).2.2.1, (shw28 gd).2.2.2, rfl, (fun y hy => by cases hy), ?_⟩
      walk_at "e"
      walk_at "e"
      walk_at "e"
      refine ow_ix (.l _) (atI_nat (j := 1) rfl) ?_
      refine ow_eqS ?_
      refine ⟨_, rfl, itT (decide_eq_true (show (PyData.list ((q28 d pa pb).map PyData.list)).shown = txt28 d pa pb from rfl)) ?_⟩
      refine we_one ?_
      refine we_cmp (op := .Eq) op_eq (nomark _) ?_
      refine we_repr B rfl (Room.units (k := 0) (by with_unfolding_all exact Room.mono (by assumption) (Nat.zero_le _))) ?_
      walk_at "e"
      refine ⟨_, rfl, hkept.sh, hkept.nd, Nat.le_trans hkept.dp (by decide), ⟨_, .inl rfl⟩, Nat.le_trans hkept.ln (by rw [sizeLine_eq]; decide), ?_⟩
      walk_at "e"
      refine ow_eqS ?_
      rw [decide_eq_true rfl]
      exact keep_drop (keep (hR _ (hbk.mono (by omega))))
theorem ok_law {f : Addr} {fd : FuncData} (F : Fun K "law" "law" s_law f fd) (B : Bl mg) (c1 : Cal P w K mg base 2 "_law_box" T_box) (c2 : Cal P w K mg base 14 "_law_right" (T_right 20000)) : FnG P w K mg base CX0 15 f fd ["_law_script"] (spW K T_law) := by
  refine fn_w F sc_law (by decide) (fun xs μ R h => ?_) fun cdv A outer s H E hr hgd xs μ R hT => ?_
  · obtain ⟨ns, rfl, _⟩ := h
    rfl
  · obtain ⟨ns, rfl, hl, rfl, hR⟩ := hT
    refine wb_names (N := ["_law_script", "_law_k"]) rfl fun hn => ?_
    have n0 := hn 0 _ rfl
    have n1 := hn 1 _ rfl
    refine wb_one (ws_ret ?_)
    refine we_all B rfl rfl ?_
    refine we_lc [("_law_k", 1)] rfl sc_law.nd (blkOk_by (N := ["_law_script", "_law_k"]) (sc := defScope s_law) (by decide +kernel)) ?_
    refine wi_range1 rfl B.range ?_
    refine wa_one ?_
    walk_at "e"
    walk_at "e"
    refine we_min2 B rfl rfl ?_
    refine we_int ?_
    refine we_len B rfl ?_
    walk_at "e"
    refine ⟨_, .s _, _, _, rfl, rfl, ?_⟩
    refine ow_add ?_
    have hlo : (0 : Int) ≤ (if (((intsD ns).length : Nat) : Int) < 3 then (((intsD ns).length : Nat) : Int) else 3) := by split <;> omega
    have hhi : (if (((intsD ns).length : Nat) : Int) < 3 then (((intsD ns).length : Nat) : Int) else 3) ≤ 3 := by split <;> omega
    generalize (if (((intsD ns).length : Nat) : Int) < 3 then (((intsD ns).length : Nat) : Int) else 3) = lim at hlo hhi
    refine ⟨_, rfl, by omega, by omega, ?_⟩
    refine ⟨fun j acc μ' => acc = blsD (List.replicate j true), rfl, by rw [rangeD_len]; omega, fun j acc μ' hI => ?_, fun j d acc μ' hd hI => ?_, fun acc μ' hI p => ?_⟩
    · rw [hI, List.length_map, List.length_replicate]
      exact Nat.le_refl _
    · subst hI
      have hj := (List.getElem?_eq_some_iff.mp hd).1
      rw [rangeD_len] at hj
      rw [rangeD_get hj] at hd
      cases hd
      rw [Int.zero_add]
      intro s1 H1 C cl fp
      refine wg_name 1 sc_law.nd n1 (by walk_at "loc") (by first | exact .inl rfl | exact .inr rfl) (by decide) ?_
      intro s1 H1 C cl fp
      refine wts_nil ?_
      refine itT rfl ?_
      intro s1 H1 C cl fp
      refine we_callB 0 c2 (by walk_at "room") rfl ?_
      refine wa_one ?_
      refine we_callP c1 (by walk_at "room") rfl ?_
      walk_at "go"
      refine ⟨ns, j, rfl, by omega, fun b ds hb => ?_⟩
      refine ⟨b, ds, rfl, b, ds, _, rfl, rfl, hb, by omega, fun ds2 hb2 => ⟨[], ds2, rfl, _, rfl, ?_⟩⟩
      show blsD (List.replicate j true) ++ [PyData.bool true] = blsD (List.replicate (j + 1) true)
      rw [List.replicate_succ']
      simp [blsD]
    · subst hI
      refine ⟨List.replicate _ true, .c 0 rfl, (fun _ z => by cases z), ?_⟩
      have e : ∀ k, ((List.replicate k true).all id) = true := fun k => List.all_eq_true.mpr fun x hx => (List.mem_replicate.mp hx).2
      rw [e]
      exact keep_all hR
end
def spLaw (K : PySem.W.Frag) : Sp := fun vs H Q _ => ∃ (a : Addr) (ns : List Int), vs = [.ref a] ∧ SqL K H a (ns.map V.int) ∧ ns.length ≤ 63 ∧ ∀ H', Q (.bl true) H'
theorem all_mk {l : PySem.W.OpenLaw} {w : World} {K : PySem.W.Frag} {h : Heap} {mg : Str → Option Value} {fa : Addr} (X : K.In h) (G : h.Ns mainGlobals mg) (hfa : mg "law" = some (.ref fa))
    {od0 an0 : Option Addr} {sl0 : Array (Option Value)} {oc0 kV0 dc0 pm0 cd0 ct0 : Value} {f0 : Addr}
    {od1 an1 : Option Addr} {sl1 : Array (Option Value)} {oc1 kV1 dc1 pm1 cd1 ct1 : Value} {f1 : Addr}
    {od2 an2 : Option Addr} {sl2 : Array (Option Value)} {oc2 kV2 dc2 pm2 cd2 ct2 : Value} {f2 : Addr}
    {od3 an3 : Option Addr} {sl3 : Array (Option Value)} {oc3 kV3 dc3 pm3 cd3 ct3 : Value} {f3 : Addr}
    {od4 an4 : Option Addr} {sl4 : Array (Option Value)} {oc4 kV4 dc4 pm4 cd4 ct4 : Value} {f4 : Addr}
    {od5 an5 : Option Addr} {sl5 : Array (Option Value)} {oc5 kV5 dc5 pm5 cd5 ct5 : Value} {f5 : Addr}
    {od6 an6 : Option Addr} {sl6 : Array (Option Value)} {oc6 kV6 dc6 pm6 cd6 ct6 : Value} {f6 : Addr}
    {od7 an7 : Option Addr} {sl7 : Array (Option Value)} {oc7 kV7 dc7 pm7 cd7 ct7 : Value} {f7 : Addr}
    {od8 an8 : Option Addr} {sl8 : Array (Option Value)} {oc8 kV8 dc8 pm8 cd8 ct8 : Value} {f8 : Addr}
    {od9 an9 : Option Addr} {sl9 : Array (Option Value)} {oc9 kV9 dc9 pm9 cd9 ct9 : Value} {f9 : Addr}
    {od10 an10 : Option Addr} {sl10 : Array (Option Value)} {oc10 kV10 dc10 pm10 cd10 ct10 : Value} {f10 : Addr}
    {od11 an11 : Option Addr} {sl11 : Array (Option Value)} {oc11 kV11 dc11 pm11 cd11 ct11 : Value} {f11 : Addr}
    {od12 an12 : Option Addr} {sl12 : Array (Option Value)} {oc12 kV12 dc12 pm12 cd12 ct12 : Value} {f12 : Addr}
    {od13 an13 : Option Addr} {sl13 : Array (Option Value)} {oc13 kV13 dc13 pm13 cd13 ct13 : Value} {f13 : Addr}
    {od14 an14 : Option Addr} {sl14 : Array (Option Value)} {oc14 kV14 dc14 pm14 cd14 ct14 : Value} {f14 : Addr}
    {od15 an15 : Option Addr} {sl15 : Array (Option Value)} {oc15 kV15 dc15 pm15 cd15 ct15 : Value} {f15 : Addr}
    {od16 an16 : Option Addr} {sl16 : Array (Option Value)} {oc16 kV16 dc16 pm16 cd16 ct16 : Value} {f16 : Addr}
    {od17 an17 : Option Addr} {sl17 : Array (Option Value)} {oc17 kV17 dc17 pm17 cd17 ct17 : Value} {f17 : Addr}
    {od18 an18 : Option Addr} {sl18 : Array (Option Value)} {oc18 kV18 dc18 pm18 cd18 ct18 : Value} {f18 : Addr}
    {od19 an19 : Option Addr} {sl19 : Array (Option Value)} {oc19 kV19 dc19 pm19 cd19 ct19 : Value} {f19 : Addr}
    {od20 an20 : Option Addr} {sl20 : Array (Option Value)} {oc20 kV20 dc20 pm20 cd20 ct20 : Value} {f20 : Addr}
    {od21 an21 : Option Addr} {sl21 : Array (Option Value)} {oc21 kV21 dc21 pm21 cd21 ct21 : Value} {f21 : Addr}
    {od22 an22 : Option Addr} {sl22 : Array (Option Value)} {oc22 kV22 dc22 pm22 cd22 ct22 : Value} {f22 : Addr}
    {od23 an23 : Option Addr} {sl23 : Array (Option Value)} {oc23 kV23 dc23 pm23 cd23 ct23 : Value} {f23 : Addr}
    {od24 an24 : Option Addr} {sl24 : Array (Option Value)} {oc24 kV24 dc24 pm24 cd24 ct24 : Value} {f24 : Addr}
    {od25 an25 : Option Addr} {sl25 : Array (Option Value)} {oc25 kV25 dc25 pm25 cd25 ct25 : Value} {f25 : Addr}
    {od26 an26 : Option Addr} {sl26 : Array (Option Value)} {oc26 kV26 dc26 pm26 cd26 ct26 : Value} {f26 : Addr}
    {od27 an27 : Option Addr} {sl27 : Array (Option Value)} {oc27 kV27 dc27 pm27 cd27 ct27 : Value} {f27 : Addr}
    {od28 an28 : Option Addr} {sl28 : Array (Option Value)} {oc28 kV28 dc28 pm28 cd28 ct28 : Value} {f28 : Addr}
    {od29 an29 : Option Addr} {sl29 : Array (Option Value)} {oc29 kV29 dc29 pm29 cd29 ct29 : Value} {f29 : Addr}
    {od30 an30 : Option Addr} {sl30 : Array (Option Value)} {oc30 kV30 dc30 pm30 cd30 ct30 : Value} {f30 : Addr}
    {od31 an31 : Option Addr} {sl31 : Array (Option Value)} {oc31 kV31 dc31 pm31 cd31 ct31 : Value} {f31 : Addr}
    {od32 an32 : Option Addr} {sl32 : Array (Option Value)} {oc32 kV32 dc32 pm32 cd32 ct32 : Value} {f32 : Addr}
    {od33 an33 : Option Addr} {sl33 : Array (Option Value)} {oc33 kV33 dc33 pm33 cd33 ct33 : Value} {f33 : Addr}
    {od34 an34 : Option Addr} {sl34 : Array (Option Value)} {oc34 kV34 dc34 pm34 cd34 ct34 : Value} {f34 : Addr}
    {od35 an35 : Option Addr} {sl35 : Array (Option Value)} {oc35 kV35 dc35 pm35 cd35 ct35 : Value} {f35 : Addr}
    {od36 an36 : Option Addr} {sl36 : Array (Option Value)} {oc36 kV36 dc36 pm36 cd36 ct36 : Value} {f36 : Addr}
    {od37 an37 : Option Addr} {sl37 : Array (Option Value)} {oc37 kV37 dc37 pm37 cd37 ct37 : Value} {f37 : Addr}
    {od38 an38 : Option Addr} {sl38 : Array (Option Value)} {oc38 kV38 dc38 pm38 cd38 ct38 : Value} {f38 : Addr}
    {od39 an39 : Option Addr} {sl39 : Array (Option Value)} {oc39 kV39 dc39 pm39 cd39 ct39 : Value} {f39 : Addr}
    {od40 an40 : Option Addr} {sl40 : Array (Option Value)} {oc40 kV40 dc40 pm40 cd40 ct40 : Value} {f40 : Addr}
    {od41 an41 : Option Addr} {sl41 : Array (Option Value)} {oc41 kV41 dc41 pm41 cd41 ct41 : Value} {f41 : Addr}
    {od42 an42 : Option Addr} {sl42 : Array (Option Value)} {oc42 kV42 dc42 pm42 cd42 ct42 : Value} {f42 : Addr}
    {od43 an43 : Option Addr} {sl43 : Array (Option Value)} {oc43 kV43 dc43 pm43 cd43 ct43 : Value} {f43 : Addr}
    {od44 an44 : Option Addr} {sl44 : Array (Option Value)} {oc44 kV44 dc44 pm44 cd44 ct44 : Value} {f44 : Addr}
    {od45 an45 : Option Addr} {sl45 : Array (Option Value)} {oc45 kV45 dc45 pm45 cd45 ct45 : Value} {f45 : Addr}
    {od46 an46 : Option Addr} {sl46 : Array (Option Value)} {oc46 kV46 dc46 pm46 cd46 ct46 : Value} {f46 : Addr}
    {od47 an47 : Option Addr} {sl47 : Array (Option Value)} {oc47 kV47 dc47 pm47 cd47 ct47 : Value} {f47 : Addr}
    {od48 an48 : Option Addr} {sl48 : Array (Option Value)} {oc48 kV48 dc48 pm48 cd48 ct48 : Value} {f48 : Addr}
    {od49 an49 : Option Addr} {sl49 : Array (Option Value)} {oc49 kV49 dc49 pm49 cd49 ct49 : Value} {f49 : Addr}
    {od50 an50 : Option Addr} {sl50 : Array (Option Value)} {oc50 kV50 dc50 pm50 cd50 ct50 : Value} {f50 : Addr}
    {od51 an51 : Option Addr} {sl51 : Array (Option Value)} {oc51 kV51 dc51 pm51 cd51 ct51 : Value} {f51 : Addr}
    {od52 an52 : Option Addr} {sl52 : Array (Option Value)} {oc52 kV52 dc52 pm52 cd52 ct52 : Value} {f52 : Addr}
    {od53 an53 : Option Addr} {sl53 : Array (Option Value)} {oc53 kV53 dc53 pm53 cd53 ct53 : Value} {f53 : Addr}
    {od54 an54 : Option Addr} {sl54 : Array (Option Value)} {oc54 kV54 dc54 pm54 cd54 ct54 : Value} {f54 : Addr}
    {od55 an55 : Option Addr} {sl55 : Array (Option Value)} {oc55 kV55 dc55 pm55 cd55 ct55 : Value} {f55 : Addr}
    {od56 an56 : Option Addr} {sl56 : Array (Option Value)} {oc56 kV56 dc56 pm56 cd56 ct56 : Value} {f56 : Addr}
    {od57 an57 : Option Addr} {sl57 : Array (Option Value)} {oc57 kV57 dc57 pm57 cd57 ct57 : Value} {f57 : Addr}
    {od58 an58 : Option Addr} {sl58 : Array (Option Value)} {oc58 kV58 dc58 pm58 cd58 ct58 : Value} {f58 : Addr}
    {od59 an59 : Option Addr} {sl59 : Array (Option Value)} {oc59 kV59 dc59 pm59 cd59 ct59 : Value} {f59 : Addr}
    {c_Stuck fIStuck NStuck : Addr} {nmStuck qStuck : Str} {bsStuck subStuck : List Value} {snStuck : List Str} {abStuck : Bool} {colStuck : Option Bool} {ddStuck odIStuck anIStuck : Option Addr} {k0Stuck k1Stuck k2Stuck k3Stuck k5Stuck : Option Value} {slIStuck : Array (Option Value)} {ocIStuck kVIStuck dcIStuck pmIStuck cdIStuck ctIStuck : Value}
    {c_Misfit fIMisfit NMisfit : Addr} {nmMisfit qMisfit : Str} {bsMisfit subMisfit : List Value} {snMisfit : List Str} {abMisfit : Bool} {colMisfit : Option Bool} {ddMisfit odIMisfit anIMisfit : Option Addr} {k0Misfit k1Misfit k2Misfit k3Misfit k5Misfit : Option Value} {slIMisfit : Array (Option Value)} {ocIMisfit kVIMisfit dcIMisfit pmIMisfit cdIMisfit ctIMisfit : Value}
    {c_NoInvitation fINoInvitation NNoInvitation : Addr} {nmNoInvitation qNoInvitation : Str} {bsNoInvitation subNoInvitation : List Value} {snNoInvitation : List Str} {abNoInvitation : Bool} {colNoInvitation : Option Bool} {ddNoInvitation odINoInvitation anINoInvitation : Option Addr} {k0NoInvitation k1NoInvitation k2NoInvitation k3NoInvitation k5NoInvitation : Option Value} {slINoInvitation : Array (Option Value)} {ocINoInvitation kVINoInvitation dcINoInvitation pmINoInvitation cdINoInvitation ctINoInvitation : Value}
    {c_NoPerson fINoPerson NNoPerson : Addr} {nmNoPerson qNoPerson : Str} {bsNoPerson subNoPerson : List Value} {snNoPerson : List Str} {abNoPerson : Bool} {colNoPerson : Option Bool} {ddNoPerson odINoPerson anINoPerson : Option Addr} {k0NoPerson k1NoPerson k2NoPerson k3NoPerson k5NoPerson : Option Value} {slINoPerson : Array (Option Value)} {ocINoPerson kVINoPerson dcINoPerson pmINoPerson cdINoPerson ctINoPerson : Value}
    {c_NoNumber fINoNumber NNoNumber : Addr} {nmNoNumber qNoNumber : Str} {bsNoNumber subNoNumber : List Value} {snNoNumber : List Str} {abNoNumber : Bool} {colNoNumber : Option Bool} {ddNoNumber odINoNumber anINoNumber : Option Addr} {k0NoNumber k1NoNumber k2NoNumber k3NoNumber k5NoNumber : Option Value} {slINoNumber : Array (Option Value)} {ocINoNumber kVINoNumber dcINoNumber pmINoNumber cdINoNumber ctINoNumber : Value}
    {c_TooMany fITooMany NTooMany : Addr} {nmTooMany qTooMany : Str} {bsTooMany subTooMany : List Value} {snTooMany : List Str} {abTooMany : Bool} {colTooMany : Option Bool} {ddTooMany odITooMany anITooMany : Option Addr} {k0TooMany k1TooMany k2TooMany k3TooMany k5TooMany : Option Value} {slITooMany : Array (Option Value)} {ocITooMany kVITooMany dcITooMany pmITooMany cdITooMany ctITooMany : Value}
    {tkMOST : Tok}
    {tkMOST_PEOPLE : Tok}
    (a0 : PySem.W.nsIn K mainGlobals "plain" = some (some (.ref f0)))
    (l0 : K.lookup f0 = some ⟨oc0, od0, .func (PySem.W.fnOf "plain" "plain" (defArgs s_plain) (defBody s_plain) (defScope s_plain) .none kV0 dc0 pm0 an0 cd0 ct0), sl0⟩)
    (c0 : PySem.W.codeIn K cd0 "plain" = true)
    (k0 : PySem.W.keepIn K (.ref f0) = true)
    (a1 : PySem.W.nsIn K mainGlobals "look_person" = some (some (.ref f1)))
    (l1 : K.lookup f1 = some ⟨oc1, od1, .func (PySem.W.fnOf "look_person" "look_person" (defArgs s_look_person) (defBody s_look_person) (defScope s_look_person) .none kV1 dc1 pm1 an1 cd1 ct1), sl1⟩)
    (c1 : PySem.W.codeIn K cd1 "look_person" = true)
    (k1 : PySem.W.keepIn K (.ref f1) = true)
    (a2 : PySem.W.nsIn K mainGlobals "with_need" = some (some (.ref f2)))
    (l2 : K.lookup f2 = some ⟨oc2, od2, .func (PySem.W.fnOf "with_need" "with_need" (defArgs s_with_need) (defBody s_with_need) (defScope s_with_need) .none kV2 dc2 pm2 an2 cd2 ct2), sl2⟩)
    (c2 : PySem.W.codeIn K cd2 "with_need" = true)
    (k2 : PySem.W.keepIn K (.ref f2) = true)
    (a3 : PySem.W.nsIn K mainGlobals "invited" = some (some (.ref f3)))
    (l3 : K.lookup f3 = some ⟨oc3, od3, .func (PySem.W.fnOf "invited" "invited" (defArgs s_invited) (defBody s_invited) (defScope s_invited) .none kV3 dc3 pm3 an3 cd3 ct3), sl3⟩)
    (c3 : PySem.W.codeIn K cd3 "invited" = true)
    (k3 : PySem.W.keepIn K (.ref f3) = true)
    (a4 : PySem.W.nsIn K mainGlobals "count_there" = some (some (.ref f4)))
    (l4 : K.lookup f4 = some ⟨oc4, od4, .func (PySem.W.fnOf "count_there" "count_there" (defArgs s_count_there) (defBody s_count_there) (defScope s_count_there) .none kV4 dc4 pm4 an4 cd4 ct4), sl4⟩)
    (c4 : PySem.W.codeIn K cd4 "count_there" = true)
    (k4 : PySem.W.keepIn K (.ref f4) = true)
    (a5 : PySem.W.nsIn K mainGlobals "can_come" = some (some (.ref f5)))
    (l5 : K.lookup f5 = some ⟨oc5, od5, .func (PySem.W.fnOf "can_come" "can_come" (defArgs s_can_come) (defBody s_can_come) (defScope s_can_come) .none kV5 dc5 pm5 an5 cd5 ct5), sl5⟩)
    (c5 : PySem.W.codeIn K cd5 "can_come" = true)
    (k5 : PySem.W.keepIn K (.ref f5) = true)
    (a6 : PySem.W.nsIn K mainGlobals "next_people" = some (some (.ref f6)))
    (l6 : K.lookup f6 = some ⟨oc6, od6, .func (PySem.W.fnOf "next_people" "next_people" (defArgs s_next_people) (defBody s_next_people) (defScope s_next_people) .none kV6 dc6 pm6 an6 cd6 ct6), sl6⟩)
    (c6 : PySem.W.codeIn K cd6 "next_people" = true)
    (k6 : PySem.W.keepIn K (.ref f6) = true)
    (a7 : PySem.W.nsIn K mainGlobals "all_rounds" = some (some (.ref f7)))
    (l7 : K.lookup f7 = some ⟨oc7, od7, .func (PySem.W.fnOf "all_rounds" "all_rounds" (defArgs s_all_rounds) (defBody s_all_rounds) (defScope s_all_rounds) .none kV7 dc7 pm7 an7 cd7 ct7), sl7⟩)
    (c7 : PySem.W.codeIn K cd7 "all_rounds" = true)
    (k7 : PySem.W.keepIn K (.ref f7) = true)
    (a8 : PySem.W.nsIn K mainGlobals "closure" = some (some (.ref f8)))
    (l8 : K.lookup f8 = some ⟨oc8, od8, .func (PySem.W.fnOf "closure" "closure" (defArgs s_closure) (defBody s_closure) (defScope s_closure) .none kV8 dc8 pm8 an8 cd8 ct8), sl8⟩)
    (c8 : PySem.W.codeIn K cd8 "closure" = true)
    (k8 : PySem.W.keepIn K (.ref f8) = true)
    (a9 : PySem.W.nsIn K mainGlobals "greatest" = some (some (.ref f9)))
    (l9 : K.lookup f9 = some ⟨oc9, od9, .func (PySem.W.fnOf "greatest" "greatest" (defArgs s_greatest) (defBody s_greatest) (defScope s_greatest) .none kV9 dc9 pm9 an9 cd9 ct9), sl9⟩)
    (c9 : PySem.W.codeIn K cd9 "greatest" = true)
    (k9 : PySem.W.keepIn K (.ref f9) = true)
    (a10 : PySem.W.nsIn K mainGlobals "comes_without" = some (some (.ref f10)))
    (l10 : K.lookup f10 = some ⟨oc10, od10, .func (PySem.W.fnOf "comes_without" "comes_without" (defArgs s_comes_without) (defBody s_comes_without) (defScope s_comes_without) .none kV10 dc10 pm10 an10 cd10 ct10), sl10⟩)
    (c10 : PySem.W.codeIn K cd10 "comes_without" = true)
    (k10 : PySem.W.keepIn K (.ref f10) = true)
    (a11 : PySem.W.nsIn K mainGlobals "never" = some (some (.ref f11)))
    (l11 : K.lookup f11 = some ⟨oc11, od11, .func (PySem.W.fnOf "never" "never" (defArgs s_never) (defBody s_never) (defScope s_never) .none kV11 dc11 pm11 an11 cd11 ct11), sl11⟩)
    (c11 : PySem.W.codeIn K cd11 "never" = true)
    (k11 : PySem.W.keepIn K (.ref f11) = true)
    (a12 : PySem.W.nsIn K mainGlobals "rounds" = some (some (.ref f12)))
    (l12 : K.lookup f12 = some ⟨oc12, od12, .func (PySem.W.fnOf "rounds" "rounds" (defArgs s_rounds) (defBody s_rounds) (defScope s_rounds) .none kV12 dc12 pm12 an12 cd12 ct12), sl12⟩)
    (c12 : PySem.W.codeIn K cd12 "rounds" = true)
    (k12 : PySem.W.keepIn K (.ref f12) = true)
    (a13 : PySem.W.nsIn K mainGlobals "look_whole" = some (some (.ref f13)))
    (l13 : K.lookup f13 = some ⟨oc13, od13, .func (PySem.W.fnOf "look_whole" "look_whole" (defArgs s_look_whole) (defBody s_look_whole) (defScope s_look_whole) .none kV13 dc13 pm13 an13 cd13 ct13), sl13⟩)
    (c13 : PySem.W.codeIn K cd13 "look_whole" = true)
    (k13 : PySem.W.keepIn K (.ref f13) = true)
    (a14 : PySem.W.nsIn K mainGlobals "misfit" = some (some (.ref f14)))
    (l14 : K.lookup f14 = some ⟨oc14, od14, .func (PySem.W.fnOf "misfit" "misfit" (defArgs s_misfit) (defBody s_misfit) (defScope s_misfit) .none kV14 dc14 pm14 an14 cd14 ct14), sl14⟩)
    (c14 : PySem.W.codeIn K cd14 "misfit" = true)
    (k14 : PySem.W.keepIn K (.ref f14) = true)
    (a15 : PySem.W.nsIn K mainGlobals "look_order" = some (some (.ref f15)))
    (l15 : K.lookup f15 = some ⟨oc15, od15, .func (PySem.W.fnOf "look_order" "look_order" (defArgs s_look_order) (defBody s_look_order) (defScope s_look_order) .none kV15 dc15 pm15 an15 cd15 ct15), sl15⟩)
    (c15 : PySem.W.codeIn K cd15 "look_order" = true)
    (k15 : PySem.W.keepIn K (.ref f15) = true)
    (a16 : PySem.W.nsIn K mainGlobals "first_order" = some (some (.ref f16)))
    (l16 : K.lookup f16 = some ⟨oc16, od16, .func (PySem.W.fnOf "first_order" "first_order" (defArgs s_first_order) (defBody s_first_order) (defScope s_first_order) .none kV16 dc16 pm16 an16 cd16 ct16), sl16⟩)
    (c16 : PySem.W.codeIn K cd16 "first_order" = true)
    (k16 : PySem.W.keepIn K (.ref f16) = true)
    (a17 : PySem.W.nsIn K mainGlobals "last_order" = some (some (.ref f17)))
    (l17 : K.lookup f17 = some ⟨oc17, od17, .func (PySem.W.fnOf "last_order" "last_order" (defArgs s_last_order) (defBody s_last_order) (defScope s_last_order) .none kV17 dc17 pm17 an17 cd17 ct17), sl17⟩)
    (c17 : PySem.W.codeIn K cd17 "last_order" = true)
    (k17 : PySem.W.keepIn K (.ref f17) = true)
    (a18 : PySem.W.nsIn K mainGlobals "swapped" = some (some (.ref f18)))
    (l18 : K.lookup f18 = some ⟨oc18, od18, .func (PySem.W.fnOf "swapped" "swapped" (defArgs s_swapped) (defBody s_swapped) (defScope s_swapped) .none kV18 dc18 pm18 an18 cd18 ct18), sl18⟩)
    (c18 : PySem.W.codeIn K cd18 "swapped" = true)
    (k18 : PySem.W.keepIn K (.ref f18) = true)
    (a19 : PySem.W.nsIn K mainGlobals "look_orders" = some (some (.ref f19)))
    (l19 : K.lookup f19 = some ⟨oc19, od19, .func (PySem.W.fnOf "look_orders" "look_orders" (defArgs s_look_orders) (defBody s_look_orders) (defScope s_look_orders) .none kV19 dc19 pm19 an19 cd19 ct19), sl19⟩)
    (c19 : PySem.W.codeIn K cd19 "look_orders" = true)
    (k19 : PySem.W.keepIn K (.ref f19) = true)
    (a20 : PySem.W.nsIn K mainGlobals "free_places" = some (some (.ref f20)))
    (l20 : K.lookup f20 = some ⟨oc20, od20, .func (PySem.W.fnOf "free_places" "free_places" (defArgs s_free_places) (defBody s_free_places) (defScope s_free_places) .none kV20 dc20 pm20 an20 cd20 ct20), sl20⟩)
    (c20 : PySem.W.codeIn K cd20 "free_places" = true)
    (k20 : PySem.W.keepIn K (.ref f20) = true)
    (a21 : PySem.W.nsIn K mainGlobals "exchanges" = some (some (.ref f21)))
    (l21 : K.lookup f21 = some ⟨oc21, od21, .func (PySem.W.fnOf "exchanges" "exchanges" (defArgs s_exchanges) (defBody s_exchanges) (defScope s_exchanges) .none kV21 dc21 pm21 an21 cd21 ct21), sl21⟩)
    (c21 : PySem.W.codeIn K cd21 "exchanges" = true)
    (k21 : PySem.W.keepIn K (.ref f21) = true)
    (a22 : PySem.W.nsIn K mainGlobals "pairs_of" = some (some (.ref f22)))
    (l22 : K.lookup f22 = some ⟨oc22, od22, .func (PySem.W.fnOf "pairs_of" "pairs_of" (defArgs s_pairs_of) (defBody s_pairs_of) (defScope s_pairs_of) .none kV22 dc22 pm22 an22 cd22 ct22), sl22⟩)
    (c22 : PySem.W.codeIn K cd22 "pairs_of" = true)
    (k22 : PySem.W.keepIn K (.ref f22) = true)
    (a23 : PySem.W.nsIn K mainGlobals "crossed" = some (some (.ref f23)))
    (l23 : K.lookup f23 = some ⟨oc23, od23, .func (PySem.W.fnOf "crossed" "crossed" (defArgs s_crossed) (defBody s_crossed) (defScope s_crossed) .none kV23 dc23 pm23 an23 cd23 ct23), sl23⟩)
    (c23 : PySem.W.codeIn K cd23 "crossed" = true)
    (k23 : PySem.W.keepIn K (.ref f23) = true)
    (a24 : PySem.W.nsIn K mainGlobals "distance" = some (some (.ref f24)))
    (l24 : K.lookup f24 = some ⟨oc24, od24, .func (PySem.W.fnOf "distance" "distance" (defArgs s_distance) (defBody s_distance) (defScope s_distance) .none kV24 dc24 pm24 an24 cd24 ct24), sl24⟩)
    (c24 : PySem.W.codeIn K cd24 "distance" = true)
    (k24 : PySem.W.keepIn K (.ref f24) = true)
    (a25 : PySem.W.nsIn K mainGlobals "behind" = some (some (.ref f25)))
    (l25 : K.lookup f25 = some ⟨oc25, od25, .func (PySem.W.fnOf "behind" "behind" (defArgs s_behind) (defBody s_behind) (defScope s_behind) .none kV25 dc25 pm25 an25 cd25 ct25), sl25⟩)
    (c25 : PySem.W.codeIn K cd25 "behind" = true)
    (k25 : PySem.W.keepIn K (.ref f25) = true)
    (a26 : PySem.W.nsIn K mainGlobals "must_before" = some (some (.ref f26)))
    (l26 : K.lookup f26 = some ⟨oc26, od26, .func (PySem.W.fnOf "must_before" "must_before" (defArgs s_must_before) (defBody s_must_before) (defScope s_must_before) .none kV26 dc26 pm26 an26 cd26 ct26), sl26⟩)
    (c26 : PySem.W.codeIn K cd26 "must_before" = true)
    (k26 : PySem.W.keepIn K (.ref f26) = true)
    (a27 : PySem.W.nsIn K mainGlobals "free_pairs" = some (some (.ref f27)))
    (l27 : K.lookup f27 = some ⟨oc27, od27, .func (PySem.W.fnOf "free_pairs" "free_pairs" (defArgs s_free_pairs) (defBody s_free_pairs) (defScope s_free_pairs) .none kV27 dc27 pm27 an27 cd27 ct27), sl27⟩)
    (c27 : PySem.W.codeIn K cd27 "free_pairs" = true)
    (k27 : PySem.W.keepIn K (.ref f27) = true)
    (a28 : PySem.W.nsIn K mainGlobals "earlier_people" = some (some (.ref f28)))
    (l28 : K.lookup f28 = some ⟨oc28, od28, .func (PySem.W.fnOf "earlier_people" "earlier_people" (defArgs s_earlier_people) (defBody s_earlier_people) (defScope s_earlier_people) .none kV28 dc28 pm28 an28 cd28 ct28), sl28⟩)
    (c28 : PySem.W.codeIn K cd28 "earlier_people" = true)
    (k28 : PySem.W.keepIn K (.ref f28) = true)
    (a29 : PySem.W.nsIn K mainGlobals "later_people" = some (some (.ref f29)))
    (l29 : K.lookup f29 = some ⟨oc29, od29, .func (PySem.W.fnOf "later_people" "later_people" (defArgs s_later_people) (defBody s_later_people) (defScope s_later_people) .none kV29 dc29 pm29 an29 cd29 ct29), sl29⟩)
    (c29 : PySem.W.codeIn K cd29 "later_people" = true)
    (k29 : PySem.W.keepIn K (.ref f29) = true)
    (a30 : PySem.W.nsIn K mainGlobals "latest_place" = some (some (.ref f30)))
    (l30 : K.lookup f30 = some ⟨oc30, od30, .func (PySem.W.fnOf "latest_place" "latest_place" (defArgs s_latest_place) (defBody s_latest_place) (defScope s_latest_place) .none kV30 dc30 pm30 an30 cd30 ct30), sl30⟩)
    (c30 : PySem.W.codeIn K cd30 "latest_place" = true)
    (k30 : PySem.W.keepIn K (.ref f30) = true)
    (a31 : PySem.W.nsIn K mainGlobals "is_invitation" = some (some (.ref f31)))
    (l31 : K.lookup f31 = some ⟨oc31, od31, .func (PySem.W.fnOf "is_invitation" "is_invitation" (defArgs s_is_invitation) (defBody s_is_invitation) (defScope s_is_invitation) .none kV31 dc31 pm31 an31 cd31 ct31), sl31⟩)
    (c31 : PySem.W.codeIn K cd31 "is_invitation" = true)
    (k31 : PySem.W.keepIn K (.ref f31) = true)
    (a32 : PySem.W.nsIn K mainGlobals "sets_of" = some (some (.ref f32)))
    (l32 : K.lookup f32 = some ⟨oc32, od32, .func (PySem.W.fnOf "sets_of" "sets_of" (defArgs s_sets_of) (defBody s_sets_of) (defScope s_sets_of) .none kV32 dc32 pm32 an32 cd32 ct32), sl32⟩)
    (c32 : PySem.W.codeIn K cd32 "sets_of" = true)
    (k32 : PySem.W.keepIn K (.ref f32) = true)
    (a33 : PySem.W.nsIn K mainGlobals "first_invitation" = some (some (.ref f33)))
    (l33 : K.lookup f33 = some ⟨oc33, od33, .func (PySem.W.fnOf "first_invitation" "first_invitation" (defArgs s_first_invitation) (defBody s_first_invitation) (defScope s_first_invitation) .none kV33 dc33 pm33 an33 cd33 ct33), sl33⟩)
    (c33 : PySem.W.codeIn K cd33 "first_invitation" = true)
    (k33 : PySem.W.keepIn K (.ref f33) = true)
    (a34 : PySem.W.nsIn K mainGlobals "fewest_invited" = some (some (.ref f34)))
    (l34 : K.lookup f34 = some ⟨oc34, od34, .func (PySem.W.fnOf "fewest_invited" "fewest_invited" (defArgs s_fewest_invited) (defBody s_fewest_invited) (defScope s_fewest_invited) .none kV34 dc34 pm34 an34 cd34 ct34), sl34⟩)
    (c34 : PySem.W.codeIn K cd34 "fewest_invited" = true)
    (k34 : PySem.W.keepIn K (.ref f34) = true)
    (a35 : PySem.W.nsIn K mainGlobals "spare" = some (some (.ref f35)))
    (l35 : K.lookup f35 = some ⟨oc35, od35, .func (PySem.W.fnOf "spare" "spare" (defArgs s_spare) (defBody s_spare) (defScope s_spare) .none kV35 dc35 pm35 an35 cd35 ct35), sl35⟩)
    (c35 : PySem.W.codeIn K cd35 "spare" = true)
    (k35 : PySem.W.keepIn K (.ref f35) = true)
    (a36 : PySem.W.nsIn K mainGlobals "look_small" = some (some (.ref f36)))
    (l36 : K.lookup f36 = some ⟨oc36, od36, .func (PySem.W.fnOf "look_small" "look_small" (defArgs s_look_small) (defBody s_look_small) (defScope s_look_small) .none kV36 dc36 pm36 an36 cd36 ct36), sl36⟩)
    (c36 : PySem.W.codeIn K cd36 "look_small" = true)
    (k36 : PySem.W.keepIn K (.ref f36) = true)
    (a37 : PySem.W.nsIn K mainGlobals "layers" = some (some (.ref f37)))
    (l37 : K.lookup f37 = some ⟨oc37, od37, .func (PySem.W.fnOf "layers" "layers" (defArgs s_layers) (defBody s_layers) (defScope s_layers) .none kV37 dc37 pm37 an37 cd37 ct37), sl37⟩)
    (c37 : PySem.W.codeIn K cd37 "layers" = true)
    (k37 : PySem.W.keepIn K (.ref f37) = true)
    (a38 : PySem.W.nsIn K mainGlobals "endings" = some (some (.ref f38)))
    (l38 : K.lookup f38 = some ⟨oc38, od38, .func (PySem.W.fnOf "endings" "endings" (defArgs s_endings) (defBody s_endings) (defScope s_endings) .none kV38 dc38 pm38 an38 cd38 ct38), sl38⟩)
    (c38 : PySem.W.codeIn K cd38 "endings" = true)
    (k38 : PySem.W.keepIn K (.ref f38) = true)
    (a39 : PySem.W.nsIn K mainGlobals "ways_on" = some (some (.ref f39)))
    (l39 : K.lookup f39 = some ⟨oc39, od39, .func (PySem.W.fnOf "ways_on" "ways_on" (defArgs s_ways_on) (defBody s_ways_on) (defScope s_ways_on) .none kV39 dc39 pm39 an39 cd39 ct39), sl39⟩)
    (c39 : PySem.W.codeIn K cd39 "ways_on" = true)
    (k39 : PySem.W.keepIn K (.ref f39) = true)
    (a40 : PySem.W.nsIn K mainGlobals "count_orders" = some (some (.ref f40)))
    (l40 : K.lookup f40 = some ⟨oc40, od40, .func (PySem.W.fnOf "count_orders" "count_orders" (defArgs s_count_orders) (defBody s_count_orders) (defScope s_count_orders) .none kV40 dc40 pm40 an40 cd40 ct40), sl40⟩)
    (c40 : PySem.W.codeIn K cd40 "count_orders" = true)
    (k40 : PySem.W.keepIn K (.ref f40) = true)
    (a41 : PySem.W.nsIn K mainGlobals "order_at" = some (some (.ref f41)))
    (l41 : K.lookup f41 = some ⟨oc41, od41, .func (PySem.W.fnOf "order_at" "order_at" (defArgs s_order_at) (defBody s_order_at) (defScope s_order_at) .none kV41 dc41 pm41 an41 cd41 ct41), sl41⟩)
    (c41 : PySem.W.codeIn K cd41 "order_at" = true)
    (k41 : PySem.W.keepIn K (.ref f41) = true)
    (a42 : PySem.W.nsIn K mainGlobals "number_of" = some (some (.ref f42)))
    (l42 : K.lookup f42 = some ⟨oc42, od42, .func (PySem.W.fnOf "number_of" "number_of" (defArgs s_number_of) (defBody s_number_of) (defScope s_number_of) .none kV42 dc42 pm42 an42 cd42 ct42), sl42⟩)
    (c42 : PySem.W.codeIn K cd42 "number_of" = true)
    (k42 : PySem.W.keepIn K (.ref f42) = true)
    (a43 : PySem.W.nsIn K mainGlobals "all_orders" = some (some (.ref f43)))
    (l43 : K.lookup f43 = some ⟨oc43, od43, .func (PySem.W.fnOf "all_orders" "all_orders" (defArgs s_all_orders) (defBody s_all_orders) (defScope s_all_orders) .none kV43 dc43 pm43 an43 cd43 ct43), sl43⟩)
    (c43 : PySem.W.codeIn K cd43 "all_orders" = true)
    (k43 : PySem.W.keepIn K (.ref f43) = true)
    (a44 : PySem.W.nsIn K mainGlobals "gcd" = some (some (.ref f44)))
    (l44 : K.lookup f44 = some ⟨oc44, od44, .func (PySem.W.fnOf "gcd" "gcd" (defArgs s_gcd) (defBody s_gcd) (defScope s_gcd) .none kV44 dc44 pm44 an44 cd44 ct44), sl44⟩)
    (c44 : PySem.W.codeIn K cd44 "gcd" = true)
    (k44 : PySem.W.keepIn K (.ref f44) = true)
    (a45 : PySem.W.nsIn K mainGlobals "reduced" = some (some (.ref f45)))
    (l45 : K.lookup f45 = some ⟨oc45, od45, .func (PySem.W.fnOf "reduced" "reduced" (defArgs s_reduced) (defBody s_reduced) (defScope s_reduced) .none kV45 dc45 pm45 an45 cd45 ct45), sl45⟩)
    (c45 : PySem.W.codeIn K cd45 "reduced" = true)
    (k45 : PySem.W.keepIn K (.ref f45) = true)
    (a46 : PySem.W.nsIn K mainGlobals "index_ways" = some (some (.ref f46)))
    (l46 : K.lookup f46 = some ⟨oc46, od46, .func (PySem.W.fnOf "index_ways" "index_ways" (defArgs s_index_ways) (defBody s_index_ways) (defScope s_index_ways) .none kV46 dc46 pm46 an46 cd46 ct46), sl46⟩)
    (c46 : PySem.W.codeIn K cd46 "index_ways" = true)
    (k46 : PySem.W.keepIn K (.ref f46) = true)
    (a47 : PySem.W.nsIn K mainGlobals "chances_of" = some (some (.ref f47)))
    (l47 : K.lookup f47 = some ⟨oc47, od47, .func (PySem.W.fnOf "chances_of" "chances_of" (defArgs s_chances_of) (defBody s_chances_of) (defScope s_chances_of) .none kV47 dc47 pm47 an47 cd47 ct47), sl47⟩)
    (c47 : PySem.W.codeIn K cd47 "chances_of" = true)
    (k47 : PySem.W.keepIn K (.ref f47) = true)
    (a48 : PySem.W.nsIn K mainGlobals "earliest_place" = some (some (.ref f48)))
    (l48 : K.lookup f48 = some ⟨oc48, od48, .func (PySem.W.fnOf "earliest_place" "earliest_place" (defArgs s_earliest_place) (defBody s_earliest_place) (defScope s_earliest_place) .none kV48 dc48 pm48 an48 cd48 ct48), sl48⟩)
    (c48 : PySem.W.codeIn K cd48 "earliest_place" = true)
    (k48 : PySem.W.keepIn K (.ref f48) = true)
    (a49 : PySem.W.nsIn K mainGlobals "chance_before" = some (some (.ref f49)))
    (l49 : K.lookup f49 = some ⟨oc49, od49, .func (PySem.W.fnOf "chance_before" "chance_before" (defArgs s_chance_before) (defBody s_chance_before) (defScope s_chance_before) .none kV49 dc49 pm49 an49 cd49 ct49), sl49⟩)
    (c49 : PySem.W.codeIn K cd49 "chance_before" = true)
    (k49 : PySem.W.keepIn K (.ref f49) = true)
    (a50 : PySem.W.nsIn K mainGlobals "_law_cell_at" = some (some (.ref f50)))
    (l50 : K.lookup f50 = some ⟨oc50, od50, .func (PySem.W.fnOf "_law_cell_at" "_law_cell_at" (defArgs s_cell_at_l) (defBody s_cell_at_l) (defScope s_cell_at_l) .none kV50 dc50 pm50 an50 cd50 ct50), sl50⟩)
    (c50 : PySem.W.codeIn K cd50 "_law_cell_at" = true)
    (k50 : PySem.W.keepIn K (.ref f50) = true)
    (a51 : PySem.W.nsIn K mainGlobals "_law_box" = some (some (.ref f51)))
    (l51 : K.lookup f51 = some ⟨oc51, od51, .func (PySem.W.fnOf "_law_box" "_law_box" (defArgs s_box_l) (defBody s_box_l) (defScope s_box_l) .none kV51 dc51 pm51 an51 cd51 ct51), sl51⟩)
    (c51 : PySem.W.codeIn K cd51 "_law_box" = true)
    (k51 : PySem.W.keepIn K (.ref f51) = true)
    (a52 : PySem.W.nsIn K mainGlobals "_law_take" = some (some (.ref f52)))
    (l52 : K.lookup f52 = some ⟨oc52, od52, .func (PySem.W.fnOf "_law_take" "_law_take" (defArgs s_take_l) (defBody s_take_l) (defScope s_take_l) .none kV52 dc52 pm52 an52 cd52 ct52), sl52⟩)
    (c52 : PySem.W.codeIn K cd52 "_law_take" = true)
    (k52 : PySem.W.keepIn K (.ref f52) = true)
    (a53 : PySem.W.nsIn K mainGlobals "_law_crowd_of" = some (some (.ref f53)))
    (l53 : K.lookup f53 = some ⟨oc53, od53, .func (PySem.W.fnOf "_law_crowd_of" "_law_crowd_of" (defArgs s_crowd_of_l) (defBody s_crowd_of_l) (defScope s_crowd_of_l) .none kV53 dc53 pm53 an53 cd53 ct53), sl53⟩)
    (c53 : PySem.W.codeIn K cd53 "_law_crowd_of" = true)
    (k53 : PySem.W.keepIn K (.ref f53) = true)
    (a54 : PySem.W.nsIn K mainGlobals "_law_eased" = some (some (.ref f54)))
    (l54 : K.lookup f54 = some ⟨oc54, od54, .func (PySem.W.fnOf "_law_eased" "_law_eased" (defArgs s_eased_l) (defBody s_eased_l) (defScope s_eased_l) .none kV54 dc54 pm54 an54 cd54 ct54), sl54⟩)
    (c54 : PySem.W.codeIn K cd54 "_law_eased" = true)
    (k54 : PySem.W.keepIn K (.ref f54) = true)
    (a55 : PySem.W.nsIn K mainGlobals "_law_comes" = some (some (.ref f55)))
    (l55 : K.lookup f55 = some ⟨oc55, od55, .func (PySem.W.fnOf "_law_comes" "_law_comes" (defArgs s_comes_l) (defBody s_comes_l) (defScope s_comes_l) .none kV55 dc55 pm55 an55 cd55 ct55), sl55⟩)
    (c55 : PySem.W.codeIn K cd55 "_law_comes" = true)
    (k55 : PySem.W.keepIn K (.ref f55) = true)
    (a56 : PySem.W.nsIn K mainGlobals "_law_closed" = some (some (.ref f56)))
    (l56 : K.lookup f56 = some ⟨oc56, od56, .func (PySem.W.fnOf "_law_closed" "_law_closed" (defArgs s_closed_l) (defBody s_closed_l) (defScope s_closed_l) .none kV56 dc56 pm56 an56 cd56 ct56), sl56⟩)
    (c56 : PySem.W.codeIn K cd56 "_law_closed" = true)
    (k56 : PySem.W.keepIn K (.ref f56) = true)
    (a57 : PySem.W.nsIn K mainGlobals "_law_queries" = some (some (.ref f57)))
    (l57 : K.lookup f57 = some ⟨oc57, od57, .func (PySem.W.fnOf "_law_queries" "_law_queries" (defArgs s_queries_l) (defBody s_queries_l) (defScope s_queries_l) .none kV57 dc57 pm57 an57 cd57 ct57), sl57⟩)
    (c57 : PySem.W.codeIn K cd57 "_law_queries" = true)
    (k57 : PySem.W.keepIn K (.ref f57) = true)
    (a58 : PySem.W.nsIn K mainGlobals "_law_right" = some (some (.ref f58)))
    (l58 : K.lookup f58 = some ⟨oc58, od58, .func (PySem.W.fnOf "_law_right" "_law_right" (defArgs s_right_l) (defBody s_right_l) (defScope s_right_l) .none kV58 dc58 pm58 an58 cd58 ct58), sl58⟩)
    (c58 : PySem.W.codeIn K cd58 "_law_right" = true)
    (k58 : PySem.W.keepIn K (.ref f58) = true)
    (a59 : PySem.W.nsIn K mainGlobals "law" = some (some (.ref f59)))
    (l59 : K.lookup f59 = some ⟨oc59, od59, .func (PySem.W.fnOf "law" "law" (defArgs s_law) (defBody s_law) (defScope s_law) .none kV59 dc59 pm59 an59 cd59 ct59), sl59⟩)
    (c59 : PySem.W.codeIn K cd59 "law" = true)
    (k59 : PySem.W.keepIn K (.ref f59) = true)
    (aCStuck : PySem.W.nsIn K mainGlobals "Stuck" = some (some (.ref c_Stuck)))
    (lCStuck : K.lookup c_Stuck = some (excClassObj nmStuck qStuck c_Stuck NStuck bsStuck [.type "ValueError", .type "Exception", .type "BaseException", .type "object"] true snStuck subStuck abStuck colStuck ddStuck k0Stuck k1Stuck k2Stuck k3Stuck k5Stuck "ValueError.__new__"))
    (saStuck : PySem.W.findIn K (.ref c_Stuck) "__setattr__" = some (some (.builtin "object.__setattr__")))
    (beStuck : PySem.W.subIn K (.ref c_Stuck) (.type "BaseException") = some true)
    (tcStuck : PySem.W.typeIn K (.ref c_Stuck) = some (.type "type"))
    (kcStuck : PySem.W.keepIn K (.ref c_Stuck) = true)
    (iCStuck : PySem.W.findIn K (.ref c_Stuck) "__init__" = some (some (.ref fIStuck)))
    (tIStuck : PySem.W.typeIn K (.ref fIStuck) = some (.type "function"))
    (lIStuck : K.lookup fIStuck = some ⟨ocIStuck, odIStuck, .func (PySem.W.fnOf "__init__" "Stuck.__init__" (defArgs s_iStuck) (defBody s_iStuck) (defScope s_iStuck) .none kVIStuck dcIStuck pmIStuck anIStuck cdIStuck ctIStuck), slIStuck⟩)
    (cIStuck : PySem.W.codeIn K cdIStuck "Stuck.__init__" = true)
    (kIStuck : PySem.W.keepIn K (.ref fIStuck) = true)
    (flStuck : PySem.W.findIn K (.ref c_Stuck) "people" = some none)
    (aCMisfit : PySem.W.nsIn K mainGlobals "Misfit" = some (some (.ref c_Misfit)))
    (lCMisfit : K.lookup c_Misfit = some (excClassObj nmMisfit qMisfit c_Misfit NMisfit bsMisfit [.type "ValueError", .type "Exception", .type "BaseException", .type "object"] true snMisfit subMisfit abMisfit colMisfit ddMisfit k0Misfit k1Misfit k2Misfit k3Misfit k5Misfit "ValueError.__new__"))
    (saMisfit : PySem.W.findIn K (.ref c_Misfit) "__setattr__" = some (some (.builtin "object.__setattr__")))
    (beMisfit : PySem.W.subIn K (.ref c_Misfit) (.type "BaseException") = some true)
    (tcMisfit : PySem.W.typeIn K (.ref c_Misfit) = some (.type "type"))
    (kcMisfit : PySem.W.keepIn K (.ref c_Misfit) = true)
    (iCMisfit : PySem.W.findIn K (.ref c_Misfit) "__init__" = some (some (.ref fIMisfit)))
    (tIMisfit : PySem.W.typeIn K (.ref fIMisfit) = some (.type "function"))
    (lIMisfit : K.lookup fIMisfit = some ⟨ocIMisfit, odIMisfit, .func (PySem.W.fnOf "__init__" "Misfit.__init__" (defArgs s_iMisfit) (defBody s_iMisfit) (defScope s_iMisfit) .none kVIMisfit dcIMisfit pmIMisfit anIMisfit cdIMisfit ctIMisfit), slIMisfit⟩)
    (cIMisfit : PySem.W.codeIn K cdIMisfit "Misfit.__init__" = true)
    (kIMisfit : PySem.W.keepIn K (.ref fIMisfit) = true)
    (flMisfit : PySem.W.findIn K (.ref c_Misfit) "place" = some none)
    (aCNoInvitation : PySem.W.nsIn K mainGlobals "NoInvitation" = some (some (.ref c_NoInvitation)))
    (lCNoInvitation : K.lookup c_NoInvitation = some (excClassObj nmNoInvitation qNoInvitation c_NoInvitation NNoInvitation bsNoInvitation [.type "ValueError", .type "Exception", .type "BaseException", .type "object"] true snNoInvitation subNoInvitation abNoInvitation colNoInvitation ddNoInvitation k0NoInvitation k1NoInvitation k2NoInvitation k3NoInvitation k5NoInvitation "ValueError.__new__"))
    (saNoInvitation : PySem.W.findIn K (.ref c_NoInvitation) "__setattr__" = some (some (.builtin "object.__setattr__")))
    (beNoInvitation : PySem.W.subIn K (.ref c_NoInvitation) (.type "BaseException") = some true)
    (tcNoInvitation : PySem.W.typeIn K (.ref c_NoInvitation) = some (.type "type"))
    (kcNoInvitation : PySem.W.keepIn K (.ref c_NoInvitation) = true)
    (iCNoInvitation : PySem.W.findIn K (.ref c_NoInvitation) "__init__" = some (some (.ref fINoInvitation)))
    (tINoInvitation : PySem.W.typeIn K (.ref fINoInvitation) = some (.type "function"))
    (lINoInvitation : K.lookup fINoInvitation = some ⟨ocINoInvitation, odINoInvitation, .func (PySem.W.fnOf "__init__" "NoInvitation.__init__" (defArgs s_iNoInvitation) (defBody s_iNoInvitation) (defScope s_iNoInvitation) .none kVINoInvitation dcINoInvitation pmINoInvitation anINoInvitation cdINoInvitation ctINoInvitation), slINoInvitation⟩)
    (cINoInvitation : PySem.W.codeIn K cdINoInvitation "NoInvitation.__init__" = true)
    (kINoInvitation : PySem.W.keepIn K (.ref fINoInvitation) = true)
    (flNoInvitation : PySem.W.findIn K (.ref c_NoInvitation) "people" = some none)
    (aCNoPerson : PySem.W.nsIn K mainGlobals "NoPerson" = some (some (.ref c_NoPerson)))
    (lCNoPerson : K.lookup c_NoPerson = some (excClassObj nmNoPerson qNoPerson c_NoPerson NNoPerson bsNoPerson [.type "LookupError", .type "Exception", .type "BaseException", .type "object"] true snNoPerson subNoPerson abNoPerson colNoPerson ddNoPerson k0NoPerson k1NoPerson k2NoPerson k3NoPerson k5NoPerson "LookupError.__new__"))
    (saNoPerson : PySem.W.findIn K (.ref c_NoPerson) "__setattr__" = some (some (.builtin "object.__setattr__")))
    (beNoPerson : PySem.W.subIn K (.ref c_NoPerson) (.type "BaseException") = some true)
    (tcNoPerson : PySem.W.typeIn K (.ref c_NoPerson) = some (.type "type"))
    (kcNoPerson : PySem.W.keepIn K (.ref c_NoPerson) = true)
    (iCNoPerson : PySem.W.findIn K (.ref c_NoPerson) "__init__" = some (some (.ref fINoPerson)))
    (tINoPerson : PySem.W.typeIn K (.ref fINoPerson) = some (.type "function"))
    (lINoPerson : K.lookup fINoPerson = some ⟨ocINoPerson, odINoPerson, .func (PySem.W.fnOf "__init__" "NoPerson.__init__" (defArgs s_iNoPerson) (defBody s_iNoPerson) (defScope s_iNoPerson) .none kVINoPerson dcINoPerson pmINoPerson anINoPerson cdINoPerson ctINoPerson), slINoPerson⟩)
    (cINoPerson : PySem.W.codeIn K cdINoPerson "NoPerson.__init__" = true)
    (kINoPerson : PySem.W.keepIn K (.ref fINoPerson) = true)
    (flNoPerson : PySem.W.findIn K (.ref c_NoPerson) "person" = some none)
    (aCNoNumber : PySem.W.nsIn K mainGlobals "NoNumber" = some (some (.ref c_NoNumber)))
    (lCNoNumber : K.lookup c_NoNumber = some (excClassObj nmNoNumber qNoNumber c_NoNumber NNoNumber bsNoNumber [.type "LookupError", .type "Exception", .type "BaseException", .type "object"] true snNoNumber subNoNumber abNoNumber colNoNumber ddNoNumber k0NoNumber k1NoNumber k2NoNumber k3NoNumber k5NoNumber "LookupError.__new__"))
    (saNoNumber : PySem.W.findIn K (.ref c_NoNumber) "__setattr__" = some (some (.builtin "object.__setattr__")))
    (beNoNumber : PySem.W.subIn K (.ref c_NoNumber) (.type "BaseException") = some true)
    (tcNoNumber : PySem.W.typeIn K (.ref c_NoNumber) = some (.type "type"))
    (kcNoNumber : PySem.W.keepIn K (.ref c_NoNumber) = true)
    (iCNoNumber : PySem.W.findIn K (.ref c_NoNumber) "__init__" = some (some (.ref fINoNumber)))
    (tINoNumber : PySem.W.typeIn K (.ref fINoNumber) = some (.type "function"))
    (lINoNumber : K.lookup fINoNumber = some ⟨ocINoNumber, odINoNumber, .func (PySem.W.fnOf "__init__" "NoNumber.__init__" (defArgs s_iNoNumber) (defBody s_iNoNumber) (defScope s_iNoNumber) .none kVINoNumber dcINoNumber pmINoNumber anINoNumber cdINoNumber ctINoNumber), slINoNumber⟩)
    (cINoNumber : PySem.W.codeIn K cdINoNumber "NoNumber.__init__" = true)
    (kINoNumber : PySem.W.keepIn K (.ref fINoNumber) = true)
    (flNoNumber : PySem.W.findIn K (.ref c_NoNumber) "number" = some none)
    (aCTooMany : PySem.W.nsIn K mainGlobals "TooMany" = some (some (.ref c_TooMany)))
    (lCTooMany : K.lookup c_TooMany = some (excClassObj nmTooMany qTooMany c_TooMany NTooMany bsTooMany [.type "OverflowError", .type "ArithmeticError", .type "Exception", .type "BaseException", .type "object"] true snTooMany subTooMany abTooMany colTooMany ddTooMany k0TooMany k1TooMany k2TooMany k3TooMany k5TooMany "OverflowError.__new__"))
    (saTooMany : PySem.W.findIn K (.ref c_TooMany) "__setattr__" = some (some (.builtin "object.__setattr__")))
    (beTooMany : PySem.W.subIn K (.ref c_TooMany) (.type "BaseException") = some true)
    (tcTooMany : PySem.W.typeIn K (.ref c_TooMany) = some (.type "type"))
    (kcTooMany : PySem.W.keepIn K (.ref c_TooMany) = true)
    (iCTooMany : PySem.W.findIn K (.ref c_TooMany) "__init__" = some (some (.ref fITooMany)))
    (tITooMany : PySem.W.typeIn K (.ref fITooMany) = some (.type "function"))
    (lITooMany : K.lookup fITooMany = some ⟨ocITooMany, odITooMany, .func (PySem.W.fnOf "__init__" "TooMany.__init__" (defArgs s_iTooMany) (defBody s_iTooMany) (defScope s_iTooMany) .none kVITooMany dcITooMany pmITooMany anITooMany cdITooMany ctITooMany), slITooMany⟩)
    (cITooMany : PySem.W.codeIn K cdITooMany "TooMany.__init__" = true)
    (kITooMany : PySem.W.keepIn K (.ref fITooMany) = true)
    (flTooMany : PySem.W.findIn K (.ref c_TooMany) "many" = some none)
    (vVLookupError : PySem.W.findCls K (.type "LookupError") (.type "type") "__init__" = some (.val (.builtin "LookupError.__init__")))
    (vVOverflowError : PySem.W.findCls K (.type "OverflowError") (.type "type") "__init__" = some (.val (.builtin "OverflowError.__init__")))
    (vVValueError : PySem.W.findCls K (.type "ValueError") (.type "type") "__init__" = some (.val (.builtin "ValueError.__init__")))
    (zbLookupError : PySem.W.nsIn K mainGlobals "LookupError" = some none)
    (zbOverflowError : PySem.W.nsIn K mainGlobals "OverflowError" = some none)
    (zbValueError : PySem.W.nsIn K mainGlobals "ValueError" = some none)
    (iKMOST : PySem.W.nsIn K mainGlobals "MOST" = some (some (.int 300 tkMOST)))
    (iKMOST_PEOPLE : PySem.W.nsIn K mainGlobals "MOST_PEOPLE" = some (some (.int 12 tkMOST_PEOPLE)))
    (z0 : PySem.W.nsIn K mainGlobals "len" = some none)
    (z1 : PySem.W.nsIn K mainGlobals "range" = some none)
    (z2 : PySem.W.nsIn K mainGlobals "list" = some none)
    (z3 : PySem.W.nsIn K mainGlobals "tuple" = some none)
    (z4 : PySem.W.nsIn K mainGlobals "sorted" = some none)
    (z5 : PySem.W.nsIn K mainGlobals "all" = some none)
    (z6 : PySem.W.nsIn K mainGlobals "any" = some none)
    (z7 : PySem.W.nsIn K mainGlobals "isinstance" = some none)
    (z8 : PySem.W.nsIn K mainGlobals "min" = some none)
    (z9 : PySem.W.nsIn K mainGlobals "max" = some none)
    (z10 : PySem.W.nsIn K mainGlobals "abs" = some none)
    (z11 : PySem.W.nsIn K mainGlobals "int" = some none)
    (z12 : PySem.W.nsIn K mainGlobals "str" = some none)
    (z13 : PySem.W.nsIn K mainGlobals "repr" = some none)
    (z14 : PySem.W.nsIn K mainGlobals "set" = some none)
    (z15 : PySem.W.nsIn K mainGlobals "sum" = some none)
    (z16 : PySem.W.nsIn K mainGlobals "enumerate" = some none)
    (z17 : PySem.W.nsIn K mainGlobals "zip" = some none)
    (z18 : PySem.W.nsIn K mainGlobals "bool" = some none)
    (z19 : PySem.W.nsIn K mainGlobals "dict" = some none)
    : ∃ fd : FuncData, (∀ (s : Shared) (v : Value), BindsTo s fd ⟨[v], []⟩ [("_law_script", v)]) ∧ ∀ base : Heap, K.In base → base.Ns mainGlobals mg → FnG l.prog w K mg base CX0 15 fa fd ["_law_script"] (spLaw K) := by
  have e := hfa.symm.trans (PySem.W.mg_of X G a59)
  cases e
  have B : Bl mg := ⟨PySem.W.mg_none_of X G z0, PySem.W.mg_none_of X G z1, PySem.W.mg_none_of X G z2, PySem.W.mg_none_of X G z3, PySem.W.mg_none_of X G z4, PySem.W.mg_none_of X G z5, PySem.W.mg_none_of X G z6, PySem.W.mg_none_of X G z7, PySem.W.mg_none_of X G z8, PySem.W.mg_none_of X G z9, PySem.W.mg_none_of X G z10, PySem.W.mg_none_of X G z11, PySem.W.mg_none_of X G z12, PySem.W.mg_none_of X G z13, PySem.W.mg_none_of X G z14, PySem.W.mg_none_of X G z15, PySem.W.mg_none_of X G z16, PySem.W.mg_none_of X G z17, PySem.W.mg_none_of X G z18, PySem.W.mg_none_of X G z19⟩
  have F0 := fun_mk (st := s_plain) l0 c0 k0
  have F1 := fun_mk (st := s_look_person) l1 c1 k1
  have F2 := fun_mk (st := s_with_need) l2 c2 k2
  have F3 := fun_mk (st := s_invited) l3 c3 k3
  have F4 := fun_mk (st := s_count_there) l4 c4 k4
  have F5 := fun_mk (st := s_can_come) l5 c5 k5
  have F6 := fun_mk (st := s_next_people) l6 c6 k6
  have F7 := fun_mk (st := s_all_rounds) l7 c7 k7
  have F8 := fun_mk (st := s_closure) l8 c8 k8
  have F9 := fun_mk (st := s_greatest) l9 c9 k9
  have F10 := fun_mk (st := s_comes_without) l10 c10 k10
  have F11 := fun_mk (st := s_never) l11 c11 k11
  have F12 := fun_mk (st := s_rounds) l12 c12 k12
  have F13 := fun_mk (st := s_look_whole) l13 c13 k13
  have F14 := fun_mk (st := s_misfit) l14 c14 k14
  have F15 := fun_mk (st := s_look_order) l15 c15 k15
  have F16 := fun_mk (st := s_first_order) l16 c16 k16
  have F17 := fun_mk (st := s_last_order) l17 c17 k17
  have F18 := fun_mk (st := s_swapped) l18 c18 k18
  have F19 := fun_mk (st := s_look_orders) l19 c19 k19
  have F20 := fun_mk (st := s_free_places) l20 c20 k20
  have F21 := fun_mk (st := s_exchanges) l21 c21 k21
  have F22 := fun_mk (st := s_pairs_of) l22 c22 k22
  have F23 := fun_mk (st := s_crossed) l23 c23 k23
  have F24 := fun_mk (st := s_distance) l24 c24 k24
  have F25 := fun_mk (st := s_behind) l25 c25 k25
  have F26 := fun_mk (st := s_must_before) l26 c26 k26
  have F27 := fun_mk (st := s_free_pairs) l27 c27 k27
  have F28 := fun_mk (st := s_earlier_people) l28 c28 k28
  have F29 := fun_mk (st := s_later_people) l29 c29 k29
  have F30 := fun_mk (st := s_latest_place) l30 c30 k30
  have F31 := fun_mk (st := s_is_invitation) l31 c31 k31
  have F32 := fun_mk (st := s_sets_of) l32 c32 k32
  have F33 := fun_mk (st := s_first_invitation) l33 c33 k33
  have F34 := fun_mk (st := s_fewest_invited) l34 c34 k34
  have F35 := fun_mk (st := s_spare) l35 c35 k35
  have F36 := fun_mk (st := s_look_small) l36 c36 k36
  have F37 := fun_mk (st := s_layers) l37 c37 k37
  have F38 := fun_mk (st := s_endings) l38 c38 k38
  have F39 := fun_mk (st := s_ways_on) l39 c39 k39
  have F40 := fun_mk (st := s_count_orders) l40 c40 k40
  have F41 := fun_mk (st := s_order_at) l41 c41 k41
  have F42 := fun_mk (st := s_number_of) l42 c42 k42
  have F43 := fun_mk (st := s_all_orders) l43 c43 k43
  have F44 := fun_mk (st := s_gcd) l44 c44 k44
  have F45 := fun_mk (st := s_reduced) l45 c45 k45
  have F46 := fun_mk (st := s_index_ways) l46 c46 k46
  have F47 := fun_mk (st := s_chances_of) l47 c47 k47
  have F48 := fun_mk (st := s_earliest_place) l48 c48 k48
  have F49 := fun_mk (st := s_chance_before) l49 c49 k49
  have F50 := fun_mk (st := s_cell_at_l) l50 c50 k50
  have F51 := fun_mk (st := s_box_l) l51 c51 k51
  have F52 := fun_mk (st := s_take_l) l52 c52 k52
  have F53 := fun_mk (st := s_crowd_of_l) l53 c53 k53
  have F54 := fun_mk (st := s_eased_l) l54 c54 k54
  have F55 := fun_mk (st := s_comes_l) l55 c55 k55
  have F56 := fun_mk (st := s_closed_l) l56 c56 k56
  have F57 := fun_mk (st := s_queries_l) l57 c57 k57
  have F58 := fun_mk (st := s_right_l) l58 c58 k58
  have F59 := fun_mk (st := s_law) l59 c59 k59
  have b0 := F0.binds (ps := ["company"]) fun _ _ _ _ _ _ us hl => match us, hl with | [_], _ => rfl
  have g0 := PySem.W.mg_of X G a0
  have b1 := F1.binds (ps := ["company", "person"]) fun _ _ _ _ _ _ us hl => match us, hl with | [_, _], _ => rfl
  have g1 := PySem.W.mg_of X G a1
  have b2 := F2.binds (ps := ["company", "person", "need"]) fun _ _ _ _ _ _ us hl => match us, hl with | [_, _, _], _ => rfl
  have g2 := PySem.W.mg_of X G a2
  have b3 := F3.binds (ps := ["company", "people"]) fun _ _ _ _ _ _ us hl => match us, hl with | [_, _], _ => rfl
  have g3 := PySem.W.mg_of X G a3
  have b4 := F4.binds (ps := ["company", "person", "there"]) fun _ _ _ _ _ _ us hl => match us, hl with | [_, _, _], _ => rfl
  have g4 := PySem.W.mg_of X G a4
  have b5 := F5.binds (ps := ["company", "person", "there"]) fun _ _ _ _ _ _ us hl => match us, hl with | [_, _, _], _ => rfl
  have g5 := PySem.W.mg_of X G a5
  have b6 := F6.binds (ps := ["company", "people"]) fun _ _ _ _ _ _ us hl => match us, hl with | [_, _], _ => rfl
  have g6 := PySem.W.mg_of X G a6
  have b7 := F7.binds (ps := ["company", "begin", "barred"]) fun _ _ _ _ _ _ us hl => match us, hl with | [_, _, _], _ => rfl
  have g7 := PySem.W.mg_of X G a7
  have b8 := F8.binds (ps := ["company", "begin", "barred"]) fun _ _ _ _ _ _ us hl => match us, hl with | [_, _, _], _ => rfl
  have g8 := PySem.W.mg_of X G a8
  have b9 := F9.binds (ps := ["company"]) fun _ _ _ _ _ _ us hl => match us, hl with | [_], _ => rfl
  have g9 := PySem.W.mg_of X G a9
  have b10 := F10.binds (ps := ["company", "people"]) fun _ _ _ _ _ _ us hl => match us, hl with | [_, _], _ => rfl
  have g10 := PySem.W.mg_of X G a10
  have b11 := F11.binds (ps := ["company"]) fun _ _ _ _ _ _ us hl => match us, hl with | [_], _ => rfl
  have g11 := PySem.W.mg_of X G a11
  have b12 := F12.binds (ps := ["company"]) fun _ _ _ _ _ _ us hl => match us, hl with | [_], _ => rfl
  have g12 := PySem.W.mg_of X G a12
  have b13 := F13.binds (ps := ["company"]) fun _ _ _ _ _ _ us hl => match us, hl with | [_], _ => rfl
  have g13 := PySem.W.mg_of X G a13
  have b14 := F14.binds (ps := ["company", "row"]) fun _ _ _ _ _ _ us hl => match us, hl with | [_, _], _ => rfl
  have g14 := PySem.W.mg_of X G a14
  have b15 := F15.binds (ps := ["company", "row"]) fun _ _ _ _ _ _ us hl => match us, hl with | [_, _], _ => rfl
  have g15 := PySem.W.mg_of X G a15
  have b16 := F16.binds (ps := ["company"]) fun _ _ _ _ _ _ us hl => match us, hl with | [_], _ => rfl
  have g16 := PySem.W.mg_of X G a16
  have b17 := F17.binds (ps := ["company"]) fun _ _ _ _ _ _ us hl => match us, hl with | [_], _ => rfl
  have g17 := PySem.W.mg_of X G a17
  have b18 := F18.binds (ps := ["order", "place"]) fun _ _ _ _ _ _ us hl => match us, hl with | [_, _], _ => rfl
  have g18 := PySem.W.mg_of X G a18
  have b19 := F19.binds (ps := ["company", "one", "other"]) fun _ _ _ _ _ _ us hl => match us, hl with | [_, _, _], _ => rfl
  have g19 := PySem.W.mg_of X G a19
  have b20 := F20.binds (ps := ["company", "order"]) fun _ _ _ _ _ _ us hl => match us, hl with | [_, _], _ => rfl
  have g20 := PySem.W.mg_of X G a20
  have b21 := F21.binds (ps := ["company", "order"]) fun _ _ _ _ _ _ us hl => match us, hl with | [_, _], _ => rfl
  have g21 := PySem.W.mg_of X G a21
  have b22 := F22.binds (ps := ["size"]) fun _ _ _ _ _ _ us hl => match us, hl with | [_], _ => rfl
  have g22 := PySem.W.mg_of X G a22
  have b23 := F23.binds (ps := ["company", "one", "other"]) fun _ _ _ _ _ _ us hl => match us, hl with | [_, _, _], _ => rfl
  have g23 := PySem.W.mg_of X G a23
  have b24 := F24.binds (ps := ["company", "one", "other"]) fun _ _ _ _ _ _ us hl => match us, hl with | [_, _, _], _ => rfl
  have g24 := PySem.W.mg_of X G a24
  have b25 := F25.binds (ps := ["company", "person"]) fun _ _ _ _ _ _ us hl => match us, hl with | [_, _], _ => rfl
  have g25 := PySem.W.mg_of X G a25
  have b26 := F26.binds (ps := ["company"]) fun _ _ _ _ _ _ us hl => match us, hl with | [_], _ => rfl
  have g26 := PySem.W.mg_of X G a26
  have b27 := F27.binds (ps := ["company"]) fun _ _ _ _ _ _ us hl => match us, hl with | [_], _ => rfl
  have g27 := PySem.W.mg_of X G a27
  have b28 := F28.binds (ps := ["company", "person"]) fun _ _ _ _ _ _ us hl => match us, hl with | [_, _], _ => rfl
  have g28 := PySem.W.mg_of X G a28
  have b29 := F29.binds (ps := ["company", "person"]) fun _ _ _ _ _ _ us hl => match us, hl with | [_, _], _ => rfl
  have g29 := PySem.W.mg_of X G a29
  have b30 := F30.binds (ps := ["company", "person"]) fun _ _ _ _ _ _ us hl => match us, hl with | [_, _], _ => rfl
  have g30 := PySem.W.mg_of X G a30
  have b31 := F31.binds (ps := ["company", "people"]) fun _ _ _ _ _ _ us hl => match us, hl with | [_, _], _ => rfl
  have g31 := PySem.W.mg_of X G a31
  have b32 := F32.binds (ps := ["size", "many"]) fun _ _ _ _ _ _ us hl => match us, hl with | [_, _], _ => rfl
  have g32 := PySem.W.mg_of X G a32
  have b33 := F33.binds (ps := ["company"]) fun _ _ _ _ _ _ us hl => match us, hl with | [_], _ => rfl
  have g33 := PySem.W.mg_of X G a33
  have b34 := F34.binds (ps := ["company"]) fun _ _ _ _ _ _ us hl => match us, hl with | [_], _ => rfl
  have g34 := PySem.W.mg_of X G a34
  have b35 := F35.binds (ps := ["company", "people"]) fun _ _ _ _ _ _ us hl => match us, hl with | [_, _], _ => rfl
  have g35 := PySem.W.mg_of X G a35
  have b36 := F36.binds (ps := ["company"]) fun _ _ _ _ _ _ us hl => match us, hl with | [_], _ => rfl
  have g36 := PySem.W.mg_of X G a36
  have b37 := F37.binds (ps := ["company"]) fun _ _ _ _ _ _ us hl => match us, hl with | [_], _ => rfl
  have g37 := PySem.W.mg_of X G a37
  have b38 := F38.binds (ps := ["company", "some"]) fun _ _ _ _ _ _ us hl => match us, hl with | [_, _], _ => rfl
  have g38 := PySem.W.mg_of X G a38
  have b39 := F39.binds (ps := ["company"]) fun _ _ _ _ _ _ us hl => match us, hl with | [_], _ => rfl
  have g39 := PySem.W.mg_of X G a39
  have b40 := F40.binds (ps := ["company"]) fun _ _ _ _ _ _ us hl => match us, hl with | [_], _ => rfl
  have g40 := PySem.W.mg_of X G a40
  have b41 := F41.binds (ps := ["company", "number"]) fun _ _ _ _ _ _ us hl => match us, hl with | [_, _], _ => rfl
  have g41 := PySem.W.mg_of X G a41
  have b42 := F42.binds (ps := ["company", "order"]) fun _ _ _ _ _ _ us hl => match us, hl with | [_, _], _ => rfl
  have g42 := PySem.W.mg_of X G a42
  have b43 := F43.binds (ps := ["company"]) fun _ _ _ _ _ _ us hl => match us, hl with | [_], _ => rfl
  have g43 := PySem.W.mg_of X G a43
  have b44 := F44.binds (ps := ["one", "other"]) fun _ _ _ _ _ _ us hl => match us, hl with | [_, _], _ => rfl
  have g44 := PySem.W.mg_of X G a44
  have b45 := F45.binds (ps := ["numerator", "denominator"]) fun _ _ _ _ _ _ us hl => match us, hl with | [_, _], _ => rfl
  have g45 := PySem.W.mg_of X G a45
  have b46 := F46.binds (ps := ["company", "person"]) fun _ _ _ _ _ _ us hl => match us, hl with | [_, _], _ => rfl
  have g46 := PySem.W.mg_of X G a46
  have b47 := F47.binds (ps := ["company", "person"]) fun _ _ _ _ _ _ us hl => match us, hl with | [_, _], _ => rfl
  have g47 := PySem.W.mg_of X G a47
  have b48 := F48.binds (ps := ["company", "person"]) fun _ _ _ _ _ _ us hl => match us, hl with | [_, _], _ => rfl
  have g48 := PySem.W.mg_of X G a48
  have b49 := F49.binds (ps := ["company", "one", "other"]) fun _ _ _ _ _ _ us hl => match us, hl with | [_, _, _], _ => rfl
  have g49 := PySem.W.mg_of X G a49
  have b50 := F50.binds (ps := ["_law_script", "_law_k"]) fun _ _ _ _ _ _ us hl => match us, hl with | [_, _], _ => rfl
  have g50 := PySem.W.mg_of X G a50
  have b51 := F51.binds (ps := ["_law_script", "_law_k"]) fun _ _ _ _ _ _ us hl => match us, hl with | [_, _], _ => rfl
  have g51 := PySem.W.mg_of X G a51
  have b52 := F52.binds (ps := ["_law_box_here", "_law_below"]) fun _ _ _ _ _ _ us hl => match us, hl with | [_, _], _ => rfl
  have g52 := PySem.W.mg_of X G a52
  have b53 := F53.binds (ps := ["_law_box_here", "_law_count"]) fun _ _ _ _ _ _ us hl => match us, hl with | [_, _], _ => rfl
  have g53 := PySem.W.mg_of X G a53
  have b54 := F54.binds (ps := ["_law_crowd"]) fun _ _ _ _ _ _ us hl => match us, hl with | [_], _ => rfl
  have g54 := PySem.W.mg_of X G a54
  have b55 := F55.binds (ps := ["_law_crowd", "_law_soul", "_law_there"]) fun _ _ _ _ _ _ us hl => match us, hl with | [_, _, _], _ => rfl
  have g55 := PySem.W.mg_of X G a55
  have b56 := F56.binds (ps := ["_law_crowd", "_law_begun", "_law_barred"]) fun _ _ _ _ _ _ us hl => match us, hl with | [_, _, _], _ => rfl
  have g56 := PySem.W.mg_of X G a56
  have b57 := F57.binds (ps := ["_law_crowd", "_law_picks"]) fun _ _ _ _ _ _ us hl => match us, hl with | [_, _], _ => rfl
  have g57 := PySem.W.mg_of X G a57
  have b58 := F58.binds (ps := ["_law_box_here"]) fun _ _ _ _ _ _ us hl => match us, hl with | [_], _ => rfl
  have g58 := PySem.W.mg_of X G a58
  have b59 := F59.binds (ps := ["_law_script"]) fun _ _ _ _ _ _ us hl => match us, hl with | [_], _ => rfl
  have g59 := PySem.W.mg_of X G a59
  have g_Stuck := PySem.W.mg_of X G aCStuck
  have ox_Stuck : Oxg K c_Stuck "ValueError.__new__" [.type "ValueError", .type "Exception", .type "BaseException", .type "object"] := ⟨⟨_, _, _, _, _, _, _, _, _, _, _, _, _, _, lCStuck⟩, saStuck, beStuck, tcStuck, kcStuck⟩
  have FI_Stuck := fun_mk (st := s_iStuck) lIStuck cIStuck kIStuck
  have bI_Stuck := FI_Stuck.binds (ps := ["self", "people"]) fun _ _ _ _ _ _ us hl => match us, hl with | [_, _], _ => rfl
  have em_Stuck : ∀ base : Heap, ExcM l.prog w K mg base 1 "Stuck" "people" c_Stuck := fun base => ⟨"ValueError", "ValueError.__new__", "ValueError.__init__", [.type "ValueError", .type "Exception", .type "BaseException", .type "object"], fIStuck, _, ["self", "people"], bas_VE, ox_Stuck, iCStuck, tIStuck, ini_Stuck FI_Stuck ox_Stuck flStuck (PySem.W.mg_none_of X G zbValueError) vVValueError, bI_Stuck, g_Stuck⟩
  have g_Misfit := PySem.W.mg_of X G aCMisfit
  have ox_Misfit : Oxg K c_Misfit "ValueError.__new__" [.type "ValueError", .type "Exception", .type "BaseException", .type "object"] := ⟨⟨_, _, _, _, _, _, _, _, _, _, _, _, _, _, lCMisfit⟩, saMisfit, beMisfit, tcMisfit, kcMisfit⟩
  have FI_Misfit := fun_mk (st := s_iMisfit) lIMisfit cIMisfit kIMisfit
  have bI_Misfit := FI_Misfit.binds (ps := ["self", "place"]) fun _ _ _ _ _ _ us hl => match us, hl with | [_, _], _ => rfl
  have em_Misfit : ∀ base : Heap, ExcM l.prog w K mg base 1 "Misfit" "place" c_Misfit := fun base => ⟨"ValueError", "ValueError.__new__", "ValueError.__init__", [.type "ValueError", .type "Exception", .type "BaseException", .type "object"], fIMisfit, _, ["self", "place"], bas_VE, ox_Misfit, iCMisfit, tIMisfit, ini_Misfit FI_Misfit ox_Misfit flMisfit (PySem.W.mg_none_of X G zbValueError) vVValueError, bI_Misfit, g_Misfit⟩
  have g_NoInvitation := PySem.W.mg_of X G aCNoInvitation
  have ox_NoInvitation : Oxg K c_NoInvitation "ValueError.__new__" [.type "ValueError", .type "Exception", .type "BaseException", .type "object"] := ⟨⟨_, _, _, _, _, _, _, _, _, _, _, _, _, _, lCNoInvitation⟩, saNoInvitation, beNoInvitation, tcNoInvitation, kcNoInvitation⟩
  have FI_NoInvitation := fun_mk (st := s_iNoInvitation) lINoInvitation cINoInvitation kINoInvitation
  have bI_NoInvitation := FI_NoInvitation.binds (ps := ["self", "people"]) fun _ _ _ _ _ _ us hl => match us, hl with | [_, _], _ => rfl
  have em_NoInvitation : ∀ base : Heap, ExcM l.prog w K mg base 1 "NoInvitation" "people" c_NoInvitation := fun base => ⟨"ValueError", "ValueError.__new__", "ValueError.__init__", [.type "ValueError", .type "Exception", .type "BaseException", .type "object"], fINoInvitation, _, ["self", "people"], bas_VE, ox_NoInvitation, iCNoInvitation, tINoInvitation, ini_NoInvitation FI_NoInvitation ox_NoInvitation flNoInvitation (PySem.W.mg_none_of X G zbValueError) vVValueError, bI_NoInvitation, g_NoInvitation⟩
  have g_NoPerson := PySem.W.mg_of X G aCNoPerson
  have ox_NoPerson : Oxg K c_NoPerson "LookupError.__new__" [.type "LookupError", .type "Exception", .type "BaseException", .type "object"] := ⟨⟨_, _, _, _, _, _, _, _, _, _, _, _, _, _, lCNoPerson⟩, saNoPerson, beNoPerson, tcNoPerson, kcNoPerson⟩
  have FI_NoPerson := fun_mk (st := s_iNoPerson) lINoPerson cINoPerson kINoPerson
  have bI_NoPerson := FI_NoPerson.binds (ps := ["self", "person"]) fun _ _ _ _ _ _ us hl => match us, hl with | [_, _], _ => rfl
  have em_NoPerson : ∀ base : Heap, ExcM l.prog w K mg base 1 "NoPerson" "person" c_NoPerson := fun base => ⟨"LookupError", "LookupError.__new__", "LookupError.__init__", [.type "LookupError", .type "Exception", .type "BaseException", .type "object"], fINoPerson, _, ["self", "person"], bas_LE, ox_NoPerson, iCNoPerson, tINoPerson, ini_NoPerson FI_NoPerson ox_NoPerson flNoPerson (PySem.W.mg_none_of X G zbLookupError) vVLookupError, bI_NoPerson, g_NoPerson⟩
  have g_NoNumber := PySem.W.mg_of X G aCNoNumber
  have ox_NoNumber : Oxg K c_NoNumber "LookupError.__new__" [.type "LookupError", .type "Exception", .type "BaseException", .type "object"] := ⟨⟨_, _, _, _, _, _, _, _, _, _, _, _, _, _, lCNoNumber⟩, saNoNumber, beNoNumber, tcNoNumber, kcNoNumber⟩
  have FI_NoNumber := fun_mk (st := s_iNoNumber) lINoNumber cINoNumber kINoNumber
  have bI_NoNumber := FI_NoNumber.binds (ps := ["self", "number"]) fun _ _ _ _ _ _ us hl => match us, hl with | [_, _], _ => rfl
  have em_NoNumber : ∀ base : Heap, ExcM l.prog w K mg base 1 "NoNumber" "number" c_NoNumber := fun base => ⟨"LookupError", "LookupError.__new__", "LookupError.__init__", [.type "LookupError", .type "Exception", .type "BaseException", .type "object"], fINoNumber, _, ["self", "number"], bas_LE, ox_NoNumber, iCNoNumber, tINoNumber, ini_NoNumber FI_NoNumber ox_NoNumber flNoNumber (PySem.W.mg_none_of X G zbLookupError) vVLookupError, bI_NoNumber, g_NoNumber⟩
  have g_TooMany := PySem.W.mg_of X G aCTooMany
  have ox_TooMany : Oxg K c_TooMany "OverflowError.__new__" [.type "OverflowError", .type "ArithmeticError", .type "Exception", .type "BaseException", .type "object"] := ⟨⟨_, _, _, _, _, _, _, _, _, _, _, _, _, _, lCTooMany⟩, saTooMany, beTooMany, tcTooMany, kcTooMany⟩
  have FI_TooMany := fun_mk (st := s_iTooMany) lITooMany cITooMany kITooMany
  have bI_TooMany := FI_TooMany.binds (ps := ["self", "many"]) fun _ _ _ _ _ _ us hl => match us, hl with | [_, _], _ => rfl
  have em_TooMany : ∀ base : Heap, ExcM l.prog w K mg base 1 "TooMany" "many" c_TooMany := fun base => ⟨"OverflowError", "OverflowError.__new__", "OverflowError.__init__", [.type "OverflowError", .type "ArithmeticError", .type "Exception", .type "BaseException", .type "object"], fITooMany, _, ["self", "many"], bas_OE, ox_TooMany, iCTooMany, tITooMany, ini_TooMany FI_TooMany ox_TooMany flTooMany (PySem.W.mg_none_of X G zbOverflowError) vVOverflowError, bI_TooMany, g_TooMany⟩
  refine ⟨PySem.W.fnOf "law" "law" (defArgs s_law) (defBody s_law) (defScope s_law) .none kV59 dc59 pm59 an59 cd59 ct59, fun s v => .of_eq rfl, fun base _ _ => ?_⟩
  have O0 : FnG l.prog w K mg base CX0 1 f50 _ ["_law_script", "_law_k"] (spW K T_cell) := ok_cell_at_l F50 B
  have C1 : Cal l.prog w K mg base 1 "_law_cell_at" T_cell := cal_of O0 g50 F50.kp b50
  have O2 : FnG l.prog w K mg base CX0 2 f51 _ ["_law_script", "_law_k"] (spW K T_box) := ok_box_l F51 B C1
  have C3 : Cal l.prog w K mg base 2 "_law_box" T_box := cal_of O2 g51 F51.kp b51
  have O4 : FnG l.prog w K mg base CX0 1 f52 _ ["_law_box_here", "_law_below"] (spW K T_take) := ok_take_s F52 B
  have C5 : Cal l.prog w K mg base 1 "_law_take" T_take := cal_of O4 g52 F52.kp b52
  have O6 : FnG l.prog w K mg base CX0 1 f55 _ ["_law_crowd", "_law_soul", "_law_there"] (spW K T_can) := ok_comes_l F55 B
  have C7 : Cal l.prog w K mg base 1 "_law_comes" T_can := cal_of O6 g55 F55.kp b55
  have O8 : FnG l.prog w K mg base CX0 2 f56 _ ["_law_crowd", "_law_begun", "_law_barred"] (spW K T_closed) := ok_closed_l F56 B C7
  have C9 : Cal l.prog w K mg base 2 "_law_closed" T_closed := cal_of O8 g56 F56.kp b56
  have O10 : FnG l.prog w K mg base CX0 3 f54 _ ["_law_crowd"] (spW K T_eased) := ok_eased_l F54 B C9
  have C11 : Cal l.prog w K mg base 3 "_law_eased" T_eased := cal_of O10 g54 F54.kp b54
  have O12 : FnG l.prog w K mg base CX0 2 f53 _ ["_law_box_here", "_law_count"] (spW K T_crowd_of) := ok_crowd_of_l F53 B C5
  have C13 : Cal l.prog w K mg base 2 "_law_crowd_of" T_crowd_of := cal_of O12 g53 F53.kp b53
  have O14 : FnG l.prog w K mg base CX0 1 f4 _ ["company", "person", "there"] (spW K T_cnt) := ok_count_there F4 B
  have C15 : Cal l.prog w K mg base 1 "count_there" T_cnt := cal_of O14 g4 F4.kp b4
  have O16 : FnG l.prog w K mg base CX0 2 f5 _ ["company", "person", "there"] (spW K T_can) := ok_can_come F5 B C15
  have C17 : Cal l.prog w K mg base 2 "can_come" T_can := cal_of O16 g5 F5.kp b5
  have O18 : FnG l.prog w K mg base CX0 3 f6 _ ["company", "people"] (spW K T_next) := ok_next_people F6 B C17
  have C19 : Cal l.prog w K mg base 3 "next_people" T_next := cal_of O18 g6 F6.kp b6
  have O20 : FnG l.prog w K mg base CX0 4 f7 _ ["company", "begin", "barred"] (spW K T_rounds) := ok_all_rounds F7 B C19
  have C21 : Cal l.prog w K mg base 4 "all_rounds" T_rounds := cal_of O20 g7 F7.kp b7
  have O22 : FnG l.prog w K mg base CX0 5 f8 _ ["company", "begin", "barred"] (spW K T_closure) := ok_closure F8 B C21
  have C23 : Cal l.prog w K mg base 5 "closure" T_closure := cal_of O22 g8 F8.kp b8
  have O24 : FnG l.prog w K mg base CX0 6 f9 _ ["company"] (spW K T_great) := ok_greatest F9 B C23
  have C25 : Cal l.prog w K mg base 6 "greatest" T_great := cal_of O24 g9 F9.kp b9
  have O26 : FnG l.prog w K mg base CX0 7 f11 _ ["company"] (spW K T_never) := ok_never F11 B C25
  have C27 : Cal l.prog w K mg base 7 "never" T_never := cal_of O26 g11 F11.kp b11
  have O28 : FnG l.prog w K mg base CX0 8 f13 _ ["company"] (spW K T_lookw) := ok_look_whole F13 B C27
  have C29 : Cal l.prog w K mg base 8 "look_whole" T_lookw := cal_of O28 g13 F13.kp b13
  have O30 : FnG l.prog w K mg base CX0 9 f36 _ ["company"] (spW K T_looks) := ok_look_small F36 B C29 ⟨_, PySem.W.mg_of X G iKMOST_PEOPLE⟩
  have C31 : Cal l.prog w K mg base 9 "look_small" T_looks := cal_of O30 g36 F36.kp b36
  have O32 : FnG l.prog w K mg base CX0 4 f38 _ ["company", "some"] (spW K T_ends) := ok_endings F38 B C19
  have C33 : Cal l.prog w K mg base 4 "endings" T_ends := cal_of O32 g38 F38.kp b38
  have O34 : FnG l.prog w K mg base CX0 4 f37 _ ["company"] (spW K T_layers) := ok_layers F37 B C19
  have C35 : Cal l.prog w K mg base 4 "layers" T_layers := cal_of O34 g37 F37.kp b37
  have O36 : FnG l.prog w K mg base CX0 10 f39 _ ["company"] (spW K T_ways) := ok_ways_on F39 B C31 C33 C35
  have C37 : Cal l.prog w K mg base 10 "ways_on" T_ways := cal_of O36 g39 F39.kp b39
  have O38 : FnG l.prog w K mg base CX0 11 f40 _ ["company"] (spW K T_count) := ok_count_orders F40 B C37
  have C39 : Cal l.prog w K mg base 11 "count_orders" T_count := cal_of O38 g40 F40.kp b40
  have O40 : FnG l.prog w K mg base CX0 11 f41 _ ["company", "number"] (spW K T_orderat) := ok_order_at F41 B C37 C19
  have C41 : Cal l.prog w K mg base 11 "order_at" T_orderat := cal_of O40 g41 F41.kp b41
  have O42 : FnG l.prog w K mg base CX0 9 f17 _ ["company"] (spW K T_la) := ok_last_order F17 B C29 C19
  have C43 : Cal l.prog w K mg base 9 "last_order" T_la := cal_of O42 g17 F17.kp b17
  have O44 : FnG l.prog w K mg base CX0 3 f14 _ ["company", "row"] (spW K T_misfit) := ok_misfit F14 B C17
  have C45 : Cal l.prog w K mg base 3 "misfit" T_misfit := cal_of O44 g14 F14.kp b14
  have O46 : FnG l.prog w K mg base CX0 4 f15 _ ["company", "row"] (spW K T_looko) := ok_look_order F15 B C45
  have C47 : Cal l.prog w K mg base 4 "look_order" T_looko := cal_of O46 g15 F15.kp b15
  have O48 : FnG l.prog w K mg base CX0 11 f42 _ ["company", "order"] (spW K T_numof) := ok_number_of F42 B C37 C47 C19
  have C49 : Cal l.prog w K mg base 11 "number_of" T_numof := cal_of O48 g42 F42.kp b42
  have O50 : FnG l.prog w K mg base CX0 9 f16 _ ["company"] (spW K T_fo) := ok_first_order F16 B C29 C19
  have C51 : Cal l.prog w K mg base 9 "first_order" T_fo := cal_of O50 g16 F16.kp b16
  have O52 : FnG l.prog w K mg base CX0 6 f10 _ ["company", "people"] (spW K T_without) := ok_comes_without F10 B C23
  have C53 : Cal l.prog w K mg base 6 "comes_without" T_without := cal_of O52 g10 F10.kp b10
  have O54 : FnG l.prog w K mg base CX0 7 f25 _ ["company", "person"] (spW K T_behind) := ok_behind F25 B C53
  have C55 : Cal l.prog w K mg base 7 "behind" T_behind := cal_of O54 g25 F25.kp b25
  have O56 : FnG l.prog w K mg base CX0 9 f26 _ ["company"] (spW K T_mb) := ok_must_before F26 B C29 C55
  have C57 : Cal l.prog w K mg base 9 "must_before" T_mb := cal_of O56 g26 F26.kp b26
  have O58 : FnG l.prog w K mg base CX0 1 f22 _ ["size"] (spW K T_pairs) := ok_pairs_of F22 B
  have C59 : Cal l.prog w K mg base 1 "pairs_of" T_pairs := cal_of O58 g22 F22.kp b22
  have O60 : FnG l.prog w K mg base CX0 10 f27 _ ["company"] (spW K T_free) := ok_free_pairs F27 B C57 C59
  have C61 : Cal l.prog w K mg base 10 "free_pairs" T_free := cal_of O60 g27 F27.kp b27
  have O62 : FnG l.prog w K mg base CX0 5 f12 _ ["company"] (spW K T_rnds) := ok_rounds F12 B C21
  have C63 : Cal l.prog w K mg base 5 "rounds" T_rnds := cal_of O62 g12 F12.kp b12
  have O64 : FnG l.prog w K mg base CX0 1 f1 _ ["company", "person"] (spW K T_lookp) := ok_look_person F1 B
  have C65 : Cal l.prog w K mg base 1 "look_person" T_lookp := cal_of O64 g1 F1.kp b1
  have O66 : FnG l.prog w K mg base CX0 9 f28 _ ["company", "person"] (spW K T_earlier) := ok_earlier_people F28 B C29 C65 C55
  have C67 : Cal l.prog w K mg base 9 "earlier_people" T_earlier := cal_of O66 g28 F28.kp b28
  have O68 : FnG l.prog w K mg base CX0 9 f29 _ ["company", "person"] (spW K T_later) := ok_later_people F29 B C29 C65 C55
  have C69 : Cal l.prog w K mg base 9 "later_people" T_later := cal_of O68 g29 F29.kp b29
  have O70 : FnG l.prog w K mg base CX0 9 f30 _ ["company", "person"] (spW K T_latest) := ok_latest_place F30 B C29 C65 C53
  have C71 : Cal l.prog w K mg base 9 "latest_place" T_latest := cal_of O70 g30 F30.kp b30
  have O72 : FnG l.prog w K mg base CX0 1 f32 _ ["size", "many"] (spW K T_setsof) := ok_sets_of F32 B
  have C73 : Cal l.prog w K mg base 1 "sets_of" T_setsof := cal_of O72 g32 F32.kp b32
  have O74 : FnG l.prog w K mg base CX0 1 f0 _ ["company"] (spW K T_plain) := ok_plain F0 B
  have C75 : Cal l.prog w K mg base 1 "plain" T_plain := cal_of O74 g0 F0.kp b0
  have O76 : FnG l.prog w K mg base CX0 2 f2 _ ["company", "person", "need"] (spW K T_withn) := ok_with_need F2 B C65 C75
  have C77 : Cal l.prog w K mg base 2 "with_need" T_withn := cal_of O76 g2 F2.kp b2
  have O78 : FnG l.prog w K mg base CX0 3 f3 _ ["company", "people"] (spW K T_inv) := ok_invited F3 B C77 C75
  have C79 : Cal l.prog w K mg base 3 "invited" T_inv := cal_of O78 g3 F3.kp b3
  have O80 : FnG l.prog w K mg base CX0 8 f31 _ ["company", "people"] (spW K T_isinv) := ok_is_invitation F31 B C27 C79
  have C81 : Cal l.prog w K mg base 8 "is_invitation" T_isinv := cal_of O80 g31 F31.kp b31
  have O82 : FnG l.prog w K mg base CX0 9 f33 _ ["company"] (spW K T_fi) := ok_first_invitation F33 B ⟨_, PySem.W.mg_of X G iKMOST_PEOPLE⟩ C73 C81
  have C83 : Cal l.prog w K mg base 9 "first_invitation" T_fi := cal_of O82 g33 F33.kp b33
  have O84 : FnG l.prog w K mg base CX0 10 f34 _ ["company"] (spW K T_few) := ok_fewest_invited F34 B C83
  have C85 : Cal l.prog w K mg base 10 "fewest_invited" T_few := cal_of O84 g34 F34.kp b34
  have O86 : FnG l.prog w K mg base CX0 1 f18 _ ["order", "place"] (spW K T_swap) := ok_swapped F18 B
  have C87 : Cal l.prog w K mg base 1 "swapped" T_swap := cal_of O86 g18 F18.kp b18
  have O88 : FnG l.prog w K mg base CX0 4 f20 _ ["company", "order"] (spW K T_frp) := ok_free_places F20 B C45 C87
  have C89 : Cal l.prog w K mg base 4 "free_places" T_frp := cal_of O88 g20 F20.kp b20
  have O90 : FnG l.prog w K mg base CX0 9 f21 _ ["company", "order"] (spW K T_exs) := ok_exchanges F21 B C29 C47 C89
  have C91 : Cal l.prog w K mg base 9 "exchanges" T_exs := cal_of O90 g21 F21.kp b21
  have O92 : FnG l.prog w K mg base CX0 9 f19 _ ["company", "one", "other"] (spW K T_lookos) := ok_look_orders F19 B C29 C47
  have C93 : Cal l.prog w K mg base 9 "look_orders" T_lookos := cal_of O92 g19 F19.kp b19
  have O94 : FnG l.prog w K mg base CX0 10 f23 _ ["company", "one", "other"] (spW K T_cross) := ok_crossed F23 B C93 C59
  have C95 : Cal l.prog w K mg base 10 "crossed" T_cross := cal_of O94 g23 F23.kp b23
  have O96 : FnG l.prog w K mg base CX0 11 f24 _ ["company", "one", "other"] (spW K T_dist) := ok_distance F24 B C95
  have C97 : Cal l.prog w K mg base 11 "distance" T_dist := cal_of O96 g24 F24.kp b24
  have O98 : FnG l.prog w K mg base CX0 5 f46 _ ["company", "person"] (spW K T_ixw) := ok_index_ways F46 B C33 C35 C19
  have C99 : Cal l.prog w K mg base 5 "index_ways" T_ixw := cal_of O98 g46 F46.kp b46
  have O100 : FnG l.prog w K mg base CX0 1 f44 _ ["one", "other"] (spW K T_gcd) := ok_gcd F44 B
  have C101 : Cal l.prog w K mg base 1 "gcd" T_gcd := cal_of O100 g44 F44.kp b44
  have O102 : FnG l.prog w K mg base CX0 2 f45 _ ["numerator", "denominator"] (spW K T_red) := ok_reduced F45 B C101
  have C103 : Cal l.prog w K mg base 2 "reduced" T_red := cal_of O102 g45 F45.kp b45
  have O104 : FnG l.prog w K mg base CX0 10 f47 _ ["company", "person"] (spW K T_chances) := ok_chances_of F47 B C31 C65 C99 C103
  have C105 : Cal l.prog w K mg base 10 "chances_of" T_chances := cal_of O104 g47 F47.kp b47
  have O106 : FnG l.prog w K mg base CX0 10 f48 _ ["company", "person"] (spW K T_earliest) := ok_earliest_place F48 B C99 C31 C65
  have C107 : Cal l.prog w K mg base 10 "earliest_place" T_earliest := cal_of O106 g48 F48.kp b48
  have O108 : FnG l.prog w K mg base CX0 9 f35 _ ["company", "people"] (spW K T_spare) := ok_spare F35 B C27 C79 C81
  have C109 : Cal l.prog w K mg base 9 "spare" T_spare := cal_of O108 g35 F35.kp b35
  have O110 : FnG l.prog w K mg base CX0 12 f43 _ ["company"] (spW K T_allords) := ok_all_orders F43 B C31 C39 ⟨_, PySem.W.mg_of X G iKMOST⟩ C19
  have C111 : Cal l.prog w K mg base 12 "all_orders" T_allords := cal_of O110 g43 F43.kp b43
  have O112 : FnG l.prog w K mg base CX0 10 f49 _ ["company", "one", "other"] (spW K T_chb) := ok_chance_before F49 B C33 C35 C31 C65 C19 C103
  have C113 : Cal l.prog w K mg base 10 "chance_before" T_chb := cal_of O112 g49 F49.kp b49
  have O114 : FnG l.prog w K mg base CX0 13 f57 _ ["_law_crowd", "_law_picks"] (spW K T_qry) := ok_queries_l F57 B C39 C41 C43 C49 C51 C45 C57 C61 C63 C19 C67 C69 C71 C25 C53 C85 C83 C91 C95 C97 C105 C107 C109 C111 C113
  have C115 : Cal l.prog w K mg base 13 "_law_queries" T_qry := cal_of O114 g57 F57.kp b57
  have O116 : FnG l.prog w K mg base CX0 14 f58 _ ["_law_box_here"] (spW K (T_right 20000)) := ok_right_l F58 B C5 C11 C13 C115
  have C117 : Cal l.prog w K mg base 14 "_law_right" (T_right 20000) := cal_of O116 g58 F58.kp b58
  exact FnG.imp (ok_law F59 B C3 C117) fun vs H Q E h => law_end h
end Lw
open PySem PySem.W PyProof.Rows
set_option maxHeartbeats 0 in
theorem PySem.Challenge.cw_enoughcame_k28_queries_in_turn_holds : PySem.Challenge.rw_enoughcame_k28_queries_in_turn.Holds := by
  w_on; o_law; k_head; (case hw => w_witness2)
  k_fill
  refine Ec.walk_g (l := PySem.Challenge.rw_enoughcame_k28_queries_in_turn) (n := 63) (k := 15) (x := "_law_script") (sp := fun w => Lw.spLaw _) rfl (by decide) rfl ⟨rfl, by decide, by decide⟩ (fun w h Y => PySem.W.kIn_of Y) ?F (fun _ _ a ns hl _ hS => ⟨a, ns, rfl, hS, hl, fun _ => rfl⟩)
  case F =>
    intro w mg fa h KX G hmg
    refine' Lw.all_mk KX G hmg ?a0 ?l0 ?c0 ?k0 ?a1 ?l1 ?c1 ?k1 ?a2 ?l2 ?c2 ?k2 ?a3 ?l3 ?c3 ?k3 ?a4 ?l4 ?c4 ?k4 ?a5 ?l5 ?c5 ?k5 ?a6 ?l6 ?c6 ?k6 ?a7 ?l7 ?c7 ?k7 ?a8 ?l8 ?c8 ?k8 ?a9 ?l9 ?c9 ?k9 ?a10 ?l10 ?c10 ?k10 ?a11 ?l11 ?c11 ?k11 ?a12 ?l12 ?c12 ?k12 ?a13 ?l13 ?c13 ?k13 ?a14 ?l14 ?c14 ?k14 ?a15 ?l15 ?c15 ?k15 ?a16 ?l16 ?c16 ?k16 ?a17 ?l17 ?c17 ?k17 ?a18 ?l18 ?c18 ?k18 ?a19 ?l19 ?c19 ?k19 ?a20 ?l20 ?c20 ?k20 ?a21 ?l21 ?c21 ?k21 ?a22 ?l22 ?c22 ?k22 ?a23 ?l23 ?c23 ?k23 ?a24 ?l24 ?c24 ?k24 ?a25 ?l25 ?c25 ?k25 ?a26 ?l26 ?c26 ?k26 ?a27 ?l27 ?c27 ?k27 ?a28 ?l28 ?c28 ?k28 ?a29 ?l29 ?c29 ?k29 ?a30 ?l30 ?c30 ?k30 ?a31 ?l31 ?c31 ?k31 ?a32 ?l32 ?c32 ?k32 ?a33 ?l33 ?c33 ?k33 ?a34 ?l34 ?c34 ?k34 ?a35 ?l35 ?c35 ?k35 ?a36 ?l36 ?c36 ?k36 ?a37 ?l37 ?c37 ?k37 ?a38 ?l38 ?c38 ?k38 ?a39 ?l39 ?c39 ?k39 ?a40 ?l40 ?c40 ?k40 ?a41 ?l41 ?c41 ?k41 ?a42 ?l42 ?c42 ?k42 ?a43 ?l43 ?c43 ?k43 ?a44 ?l44 ?c44 ?k44 ?a45 ?l45 ?c45 ?k45 ?a46 ?l46 ?c46 ?k46 ?a47 ?l47 ?c47 ?k47 ?a48 ?l48 ?c48 ?k48 ?a49 ?l49 ?c49 ?k49 ?a50 ?l50 ?c50 ?k50 ?a51 ?l51 ?c51 ?k51 ?a52 ?l52 ?c52 ?k52 ?a53 ?l53 ?c53 ?k53 ?a54 ?l54 ?c54 ?k54 ?a55 ?l55 ?c55 ?k55 ?a56 ?l56 ?c56 ?k56 ?a57 ?l57 ?c57 ?k57 ?a58 ?l58 ?c58 ?k58 ?a59 ?l59 ?c59 ?k59 ?aCStuck ?lCStuck ?saStuck ?beStuck ?tcStuck ?kcStuck ?iCStuck ?tIStuck ?lIStuck ?cIStuck ?kIStuck ?flStuck ?aCMisfit ?lCMisfit ?saMisfit ?beMisfit ?tcMisfit ?kcMisfit ?iCMisfit ?tIMisfit ?lIMisfit ?cIMisfit ?kIMisfit ?flMisfit ?aCNoInvitation ?lCNoInvitation ?saNoInvitation ?beNoInvitation ?tcNoInvitation ?kcNoInvitation ?iCNoInvitation ?tINoInvitation ?lINoInvitation ?cINoInvitation ?kINoInvitation ?flNoInvitation ?aCNoPerson ?lCNoPerson ?saNoPerson ?beNoPerson ?tcNoPerson ?kcNoPerson ?iCNoPerson ?tINoPerson ?lINoPerson ?cINoPerson ?kINoPerson ?flNoPerson ?aCNoNumber ?lCNoNumber ?saNoNumber ?beNoNumber ?tcNoNumber ?kcNoNumber ?iCNoNumber ?tINoNumber ?lINoNumber ?cINoNumber ?kINoNumber ?flNoNumber ?aCTooMany ?lCTooMany ?saTooMany ?beTooMany ?tcTooMany ?kcTooMany ?iCTooMany ?tITooMany ?lITooMany ?cITooMany ?kITooMany ?flTooMany ?vVLookupError ?vVOverflowError ?vVValueError ?zbLookupError ?zbOverflowError ?zbValueError ?iKMOST ?iKMOST_PEOPLE ?z0 ?z1 ?z2 ?z3 ?z4 ?z5 ?z6 ?z7 ?z8 ?z9 ?z10 ?z11 ?z12 ?z13 ?z14 ?z15 ?z16 ?z17 ?z18 ?z19
    (case a0 => k_is)
    (case l0 => k_is)
    (case c0 => k_is)
    (case k0 => k_is)
    (case a1 => k_is)
    (case l1 => k_is)
    (case c1 => k_is)
    (case k1 => k_is)
    (case a2 => k_is)
    (case l2 => k_is)
    (case c2 => k_is)
    (case k2 => k_is)
    (case a3 => k_is)
    (case l3 => k_is)
    (case c3 => k_is)
    (case k3 => k_is)
    (case a4 => k_is)
    (case l4 => k_is)
    (case c4 => k_is)
    (case k4 => k_is)
    (case a5 => k_is)
    (case l5 => k_is)
    (case c5 => k_is)
    (case k5 => k_is)
    (case a6 => k_is)
    (case l6 => k_is)
    (case c6 => k_is)
    (case k6 => k_is)
    (case a7 => k_is)
    (case l7 => k_is)
    (case c7 => k_is)
    (case k7 => k_is)
    (case a8 => k_is)
    (case l8 => k_is)
    (case c8 => k_is)
    (case k8 => k_is)
    (case a9 => k_is)
    (case l9 => k_is)
    (case c9 => k_is)
    (case k9 => k_is)
    (case a10 => k_is)
    (case l10 => k_is)
    (case c10 => k_is)
    (case k10 => k_is)
    (case a11 => k_is)
    (case l11 => k_is)
    (case c11 => k_is)
    (case k11 => k_is)
    (case a12 => k_is)
    (case l12 => k_is)
    (case c12 => k_is)
    (case k12 => k_is)
    (case a13 => k_is)
    (case l13 => k_is)
    (case c13 => k_is)
    (case k13 => k_is)
    (case a14 => k_is)
    (case l14 => k_is)
    (case c14 => k_is)
    (case k14 => k_is)
    (case a15 => k_is)
    (case l15 => k_is)
    (case c15 => k_is)
    (case k15 => k_is)
    (case a16 => k_is)
    (case l16 => k_is)
    (case c16 => k_is)
    (case k16 => k_is)
    (case a17 => k_is)
    (case l17 => k_is)
    (case c17 => k_is)
    (case k17 => k_is)
    (case a18 => k_is)
    (case l18 => k_is)
    (case c18 => k_is)
    (case k18 => k_is)
    (case a19 => k_is)
    (case l19 => k_is)
    (case c19 => k_is)
    (case k19 => k_is)
    (case a20 => k_is)
    (case l20 => k_is)
    (case c20 => k_is)
    (case k20 => k_is)
    (case a21 => k_is)
    (case l21 => k_is)
    (case c21 => k_is)
    (case k21 => k_is)
    (case a22 => k_is)
    (case l22 => k_is)
    (case c22 => k_is)
    (case k22 => k_is)
    (case a23 => k_is)
    (case l23 => k_is)
    (case c23 => k_is)
    (case k23 => k_is)
    (case a24 => k_is)
    (case l24 => k_is)
    (case c24 => k_is)
    (case k24 => k_is)
    (case a25 => k_is)
    (case l25 => k_is)
    (case c25 => k_is)
    (case k25 => k_is)
    (case a26 => k_is)
    (case l26 => k_is)
    (case c26 => k_is)
    (case k26 => k_is)
    (case a27 => k_is)
    (case l27 => k_is)
    (case c27 => k_is)
    (case k27 => k_is)
    (case a28 => k_is)
    (case l28 => k_is)
    (case c28 => k_is)
    (case k28 => k_is)
    (case a29 => k_is)
    (case l29 => k_is)
    (case c29 => k_is)
    (case k29 => k_is)
    (case a30 => k_is)
    (case l30 => k_is)
    (case c30 => k_is)
    (case k30 => k_is)
    (case a31 => k_is)
    (case l31 => k_is)
    (case c31 => k_is)
    (case k31 => k_is)
    (case a32 => k_is)
    (case l32 => k_is)
    (case c32 => k_is)
    (case k32 => k_is)
    (case a33 => k_is)
    (case l33 => k_is)
    (case c33 => k_is)
    (case k33 => k_is)
    (case a34 => k_is)
    (case l34 => k_is)
    (case c34 => k_is)
    (case k34 => k_is)
    (case a35 => k_is)
    (case l35 => k_is)
    (case c35 => k_is)
    (case k35 => k_is)
    (case a36 => k_is)
    (case l36 => k_is)
    (case c36 => k_is)
    (case k36 => k_is)
    (case a37 => k_is)
    (case l37 => k_is)
    (case c37 => k_is)
    (case k37 => k_is)
    (case a38 => k_is)
    (case l38 => k_is)
    (case c38 => k_is)
    (case k38 => k_is)
    (case a39 => k_is)
    (case l39 => k_is)
    (case c39 => k_is)
    (case k39 => k_is)
    (case a40 => k_is)
    (case l40 => k_is)
    (case c40 => k_is)
    (case k40 => k_is)
    (case a41 => k_is)
    (case l41 => k_is)
    (case c41 => k_is)
    (case k41 => k_is)
    (case a42 => k_is)
    (case l42 => k_is)
    (case c42 => k_is)
    (case k42 => k_is)
    (case a43 => k_is)
    (case l43 => k_is)
    (case c43 => k_is)
    (case k43 => k_is)
    (case a44 => k_is)
    (case l44 => k_is)
    (case c44 => k_is)
    (case k44 => k_is)
    (case a45 => k_is)
    (case l45 => k_is)
    (case c45 => k_is)
    (case k45 => k_is)
    (case a46 => k_is)
    (case l46 => k_is)
    (case c46 => k_is)
    (case k46 => k_is)
    (case a47 => k_is)
    (case l47 => k_is)
    (case c47 => k_is)
    (case k47 => k_is)
    (case a48 => k_is)
    (case l48 => k_is)
    (case c48 => k_is)
    (case k48 => k_is)
    (case a49 => k_is)
    (case l49 => k_is)
    (case c49 => k_is)
    (case k49 => k_is)
    (case a50 => k_is)
    (case l50 => k_is)
    (case c50 => k_is)
    (case k50 => k_is)
    (case a51 => k_is)
    (case l51 => k_is)
    (case c51 => k_is)
    (case k51 => k_is)
    (case a52 => k_is)
    (case l52 => k_is)
    (case c52 => k_is)
    (case k52 => k_is)
    (case a53 => k_is)
    (case l53 => k_is)
    (case c53 => k_is)
    (case k53 => k_is)
    (case a54 => k_is)
    (case l54 => k_is)
    (case c54 => k_is)
    (case k54 => k_is)
    (case a55 => k_is)
    (case l55 => k_is)
    (case c55 => k_is)
    (case k55 => k_is)
    (case a56 => k_is)
    (case l56 => k_is)
    (case c56 => k_is)
    (case k56 => k_is)
    (case a57 => k_is)
    (case l57 => k_is)
    (case c57 => k_is)
    (case k57 => k_is)
    (case a58 => k_is)
    (case l58 => k_is)
    (case c58 => k_is)
    (case k58 => k_is)
    (case a59 => k_is)
    (case l59 => k_is)
    (case c59 => k_is)
    (case k59 => k_is)
    (case aCStuck => k_is)
    (case lCStuck => k_is)
    (case saStuck => k_is)
    (case beStuck => k_is)
    (case tcStuck => k_is)
    (case kcStuck => k_is)
    (case iCStuck => k_is)
    (case tIStuck => k_is)
    (case lIStuck => k_is)
    (case cIStuck => k_is)
    (case kIStuck => k_is)
    (case flStuck => k_is)
    (case aCMisfit => k_is)
    (case lCMisfit => k_is)
    (case saMisfit => k_is)
    (case beMisfit => k_is)
    (case tcMisfit => k_is)
    (case kcMisfit => k_is)
    (case iCMisfit => k_is)
    (case tIMisfit => k_is)
    (case lIMisfit => k_is)
    (case cIMisfit => k_is)
    (case kIMisfit => k_is)
    (case flMisfit => k_is)
    (case aCNoInvitation => k_is)
    (case lCNoInvitation => k_is)
    (case saNoInvitation => k_is)
    (case beNoInvitation => k_is)
    (case tcNoInvitation => k_is)
    (case kcNoInvitation => k_is)
    (case iCNoInvitation => k_is)
    (case tINoInvitation => k_is)
    (case lINoInvitation => k_is)
    (case cINoInvitation => k_is)
    (case kINoInvitation => k_is)
    (case flNoInvitation => k_is)
    (case aCNoPerson => k_is)
    (case lCNoPerson => k_is)
    (case saNoPerson => k_is)
    (case beNoPerson => k_is)
    (case tcNoPerson => k_is)
    (case kcNoPerson => k_is)
    (case iCNoPerson => k_is)
    (case tINoPerson => k_is)
    (case lINoPerson => k_is)
    (case cINoPerson => k_is)
    (case kINoPerson => k_is)
    (case flNoPerson => k_is)
    (case aCNoNumber => k_is)
    (case lCNoNumber => k_is)
    (case saNoNumber => k_is)
    (case beNoNumber => k_is)
    (case tcNoNumber => k_is)
    (case kcNoNumber => k_is)
    (case iCNoNumber => k_is)
    (case tINoNumber => k_is)
    (case lINoNumber => k_is)
    (case cINoNumber => k_is)
    (case kINoNumber => k_is)
    (case flNoNumber => k_is)
    (case aCTooMany => k_is)
    (case lCTooMany => k_is)
    (case saTooMany => k_is)
    (case beTooMany => k_is)
    (case tcTooMany => k_is)
    (case kcTooMany => k_is)
    (case iCTooMany => k_is)
    (case tITooMany => k_is)
    (case lITooMany => k_is)
    (case cITooMany => k_is)
    (case kITooMany => k_is)
    (case flTooMany => k_is)
    (case vVLookupError => k_is)
    (case vVOverflowError => k_is)
    (case vVValueError => k_is)
    (case zbLookupError => k_is)
    (case zbOverflowError => k_is)
    (case zbValueError => k_is)
    (case iKMOST => k_is)
    (case iKMOST_PEOPLE => k_is)
    (case z0 => k_is)
    (case z1 => k_is)
    (case z2 => k_is)
    (case z3 => k_is)
    (case z4 => k_is)
    (case z5 => k_is)
    (case z6 => k_is)
    (case z7 => k_is)
    (case z8 => k_is)
    (case z9 => k_is)
    (case z10 => k_is)
    (case z11 => k_is)
    (case z12 => k_is)
    (case z13 => k_is)
    (case z14 => k_is)
    (case z15 => k_is)
    (case z16 => k_is)
    (case z17 => k_is)
    (case z18 => k_is)
    (case z19 => k_is)
