import PyProof.Rows.All
import Wide.All
import OpenK.AllK
import Wide.FinOn
import HandS.ForMost
import HandS.Lambda
import HandS.EndTab
import HandS.ForExc
import HandS.ExcCtx
import KE.GoesEnum
import HandS.Wide
import HandS.TupAny
import HandS.TupMul
import HandS.Style
import HandS.IsInst
import HandS.Conv
import HandS.SortInts
import HandS.RaiseMore
import PyProof.ReprRoads
import KE.SortData
import KE.SortKeyHeap
import KE.DataMinMax
import HandS.DictComp
import HandS.SetFor
import HandS.Zip
import HandS.TupSets
import HandS.Deep
import HandS.Strs
import KE.IntBitsLaws
import HandS.Iter
import HandS.Small
import HandS.WideBits
import HandS.Rev
import HandS.RevTup
import HandS.IterVal
import HandS.Nested
import HandS.SortKw
import HandS.ExcValue
import HandS.WideMore
import HandS.MakeKwOnly
import HandS.ExcIs
import HandS.TryOnly
import KE.KExcIs
import HandS.Codes
import HandS.HotCalls
import HandS.ExcField
import HandS.FStr
import HandS.Text
import KE.GoesZip
import KE.GoesMore
import PyProof.StrOps2
import KE.KDictZip
import KE.KDictItemsList
import HandS.ListItems
import HandS.NoneIn
import HandS.ReplaceLit
import KE.KeyNested
import HandS.WordsDict
import KE.KIndexOf
import HandS.Comp
import HandS.ExcInit
import KE.KDictPairs
import PySem.Challenge.RW_pulltree_k38_patterns_many_days_before
set_option Elab.async false
set_option linter.all false
set_option maxRecDepth 100000
set_option maxHeartbeats 4000000
set_option autoImplicit false
namespace Pt
open PySem PySem.Spec L2
inductive O where
  | fz (f : PyData)
  | ol (xs : List O)
  | ot (xs : List O)
  | od (kvs : List (Key × O))
  | oi (cn : Str) (fs : List (Str × O))
  | scr (ns : List Int)
  | lf (ds : List PyData)
  | df (kvs : List (Key × PyData))
  | tn (ds : List PyData)
  | dl (kvs : List (Key × PyData))
  | dt (kvs : List (List Key × PyData))
  | dq (kvs : List (List Int × PyData))
  | dn (vt : Bool) (kvs : List (List Int × PyData))
  | dz (vt : Bool) (kvs : List (List Int × PyData))
  | exn (cn : Str) (fs : List (Str × PyData))
  | hid
def clsA (K : PySem.W.Frag) (cn : Str) (C : Addr) : Prop := PySem.W.nsIn K mainGlobals cn = some (some (.ref C))
def kD : Key → PyData
  | .inl i => .int i
  | .inr x => .str x
def mkL (bs : List Bool) (ds : List PyData) : PyData := .dict [(.none, .tuple [.list (bs.map PyData.bool), .list ds])]
section
variable (K : PySem.W.Frag)
def ND (B : Hp) (a : Addr) : Prop := (∃ o vs, B a = some (.frz o (.tup vs)) ∧ o.dict = none) ∨ ∃ o, K.lookup a = some o ∧ o.cls = .type "tuple" ∧ o.dict = none
def NDs (B : Hp) (bs : List Bool) (vs : List V) : Prop := ∀ i : Nat, bs[i]? = some true → ∃ b, vs[i]? = some (V.ref b) ∧ ND K B b
mutual
inductive RF (B : Hp) : V → PyData → Prop
  | non : RF B .non .none
  | bl (b : Bool) : RF B (.bl b) (.bool b)
  | int (i : Int) : RF B (.int i) (.int i)
  | str (x : Str) : RF B (.str x) (.str x)
  | lst {a : Addr} {vs : List V} {ds : List PyData} : B a = some (.lst vs) → RFs B vs ds → RF B (.ref a) (.list ds)
  | tup {a : Addr} {vs : List V} {ds : List PyData} : SqT K B a vs → RFs B vs ds → RF B (.ref a) (.tuple ds)
  | dic {a : Addr} {kvs : List (Key × V)} {ds : List (PyData × PyData)} : B a = some (.dK kvs) → RFd B kvs ds → RF B (.ref a) (.dict ds)
  | lm {a : Addr} {vs : List V} {bs : List Bool} {ds : List PyData} : B a = some (.lst vs) → NDs K B bs vs → RFs B vs ds → RF B (.ref a) (mkL bs ds)
inductive RFs (B : Hp) : List V → List PyData → Prop
  | nil : RFs B [] []
  | cons {v : V} {vs : List V} {d : PyData} {ds : List PyData} : RF B v d → RFs B vs ds → RFs B (v :: vs) (d :: ds)
inductive RFd (B : Hp) : List (Key × V) → List (PyData × PyData) → Prop
  | nil : RFd B [] []
  | cons {k : Key} {v : V} {kvs : List (Key × V)} {d : PyData} {ds : List (PyData × PyData)} : RF B v d → RFd B kvs ds → RFd B ((k, v) :: kvs) ((kD k, d) :: ds)
end
def XOk (B : Hp) (C : Addr) (fs : List (Str × PyData)) (oe : Obj) : Prop := oe.cls = .ref C ∧ (∃ vs, oe.data = .fields vs) ∧ ((fs = [] ∧ oe.dict = none) ∨ ∃ (dd : Addr) (vs : List (Str × V)), oe.dict = some dd ∧ B dd = some (.xd vs) ∧ vs.map (·.1) = fs.map (·.1) ∧ RFs K B (vs.map (·.2)) (fs.map (·.2)))
def hI (k : List Int) : Int := PySem.reduceHash (PySem.Builtin.Tuple.tupleHashOf (k.map PySem.hashInt))
def dqF (a : Addr) (xs : List (List Int × Addr × Value)) : Heap → Prop := fun h => (a == sysModules) = false ∧ ∃ o es ep, h.get? a = some o ∧ o.ExactDict ∧ o.data = Data.dict es ep ∧ es.toList = xs.map fun x => { hash := hI x.1, key := .ref x.2.1, val := x.2.2 }
inductive DqE (B : Hp) : List (List Int × Addr × Value) → List (List Int × PyData) → Prop
  | nil : DqE B [] []
  | cons {k : List Int} {q : Addr} {u : Value} {v : V} {d : PyData} {xs : List (List Int × Addr × Value)} {ds : List (List Int × PyData)} : SqT K B q (k.map V.int) → RelV v u → RF K B v d → DqE B xs ds → DqE B ((k, q, u) :: xs) ((k, d) :: ds)
def dqP (a : Addr) (ep : Nat) (xs : List (List Int × Addr × Value)) : Heap → Prop := fun h => (a == sysModules) = false ∧ ∃ o es, h.get? a = some o ∧ o.ExactDict ∧ o.data = Data.dict es ep ∧ es.toList = xs.map fun x => { hash := hI x.1, key := .ref x.2.1, val := x.2.2 }
def NdE (B : Hp) (vt : Bool) (xs : List (List Int × Addr × Value)) : Prop := ∀ x ∈ xs, ND K B x.2.1 ∧ (vt = true → ∃ b, x.2.2 = .ref b ∧ ND K B b)
mutual
inductive RO (B H : Hp) : V → O → List Addr → Prop
  | fz {v : V} {f : PyData} : RF K B v f → RO B H v (.fz f) []
  | hid {v : V} : RO B H v .hid []
  | tn {a : Addr} {vs : List V} {ds : List PyData} : SqT K B a vs → ND K B a → RFs K B vs ds → RO B H (.ref a) (.tn ds) []
  | dl {a : Addr} {o : Obj} {kvs : List (Key × V)} {ds : List (Key × PyData)} : B a = some (.frz o (.dK kvs)) → kvs.map (·.1) = ds.map (·.1) → RFs K B (kvs.map (·.2)) (ds.map (·.2)) → RO B H (.ref a) (.dl ds) []
  | scr {a : Addr} {ns : List Int} : SqL K B a (ns.map V.int) → RO B H (.ref a) (.scr ns) []
  | lf {a : Addr} {vs : List V} {ds : List PyData} : H a = some (.lst vs) → RFs K B vs ds → RO B H (.ref a) (.lf ds) [a]
  | df {a : Addr} {kvs : List (Key × V)} {ds : List (Key × PyData)} : H a = some (.dK kvs) → kvs.map (·.1) = ds.map (·.1) → RFs K B (kvs.map (·.2)) (ds.map (·.2)) → RO B H (.ref a) (.df ds) [a]
  | dt {a : Addr} {kvs : List (List Key × V)} {ds : List (List Key × PyData)} : H a = some (.dT kvs) → kvs.map (·.1) = ds.map (·.1) → RFs K B (kvs.map (·.2)) (ds.map (·.2)) → RO B H (.ref a) (.dt ds) [a]
  | dq {a : Addr} {xs : List (List Int × Addr × Value)} {ds : List (List Int × PyData)} : H a = some (.ext (dqF a xs)) → DqE K B xs ds → (ds.map (·.1)).Nodup → RO B H (.ref a) (.dq ds) [a]
  | dn {a : Addr} {ep : Nat} {xs : List (List Int × Addr × Value)} {vt : Bool} {ds : List (List Int × PyData)} : H a = some (.ext (dqP a ep xs)) → DqE K B xs ds → NdE K B vt xs → (ds.map (·.1)).Nodup → RO B H (.ref a) (.dn vt ds) [a]
  | dz {a : Addr} {ep : Nat} {xs : List (List Int × Addr × Value)} {vt : Bool} {ds : List (List Int × PyData)} : B a = some (.ext (dqP a ep xs)) → DqE K B xs ds → NdE K B vt xs → (ds.map (·.1)).Nodup → RO B H (.ref a) (.dz vt ds) []
  | ol {a : Addr} {vs : List V} {xs : List O} {fp : List Addr} : H a = some (.lst vs) → ROs B H vs xs fp → RO B H (.ref a) (.ol xs) (a :: fp)
  | ot {a : Addr} {vs : List V} {xs : List O} {fp : List Addr} : B a = some (.tup vs) → ROs B H vs xs fp → RO B H (.ref a) (.ot xs) fp
  | od {a : Addr} {kvs : List (Key × V)} {ds : List (Key × O)} {fp : List Addr} : H a = some (.dK kvs) → kvs.map (·.1) = ds.map (·.1) → ROs B H (kvs.map (·.2)) (ds.map (·.2)) fp → RO B H (.ref a) (.od ds) (a :: fp)
  | exn {a C : Addr} {oe : Obj} {cn : Str} {fs : List (Str × PyData)} : clsA K cn C → B a = some (.frz oe (.own a)) → XOk K B C fs oe → RO B H (.ref a) (.exn cn fs) []
  | oi {a C dx : Addr} {cn : Str} {fs : List (Str × V)} {gs : List (Str × O)} {fp : List Addr} : clsA K cn C → H a = some (.ins C dx fs) → fs.map (·.1) = gs.map (·.1) → ROs B H (fs.map (·.2)) (gs.map (·.2)) fp → RO B H (.ref a) (.oi cn gs) (a :: fp)
inductive ROs (B H : Hp) : List V → List O → List Addr → Prop
  | nil : ROs B H [] [] []
  | cons {v : V} {vs : List V} {x : O} {xs : List O} {f1 f2 : List Addr} : RO B H v x f1 → ROs B H vs xs f2 → ROs B H (v :: vs) (x :: xs) (f1 ++ f2)
end
end
def NT (o : HO) : Prop := ∀ ps, o ≠ .tbl ps
def q0 : Str := "word_table.<locals>.<lambda>"
def Pl (o : HO) : Prop := NT o ∧ ∀ c, o ≠ LamX.CodeO c q0
theorem pl_lst {vs : List V} : Pl (.lst vs) := ⟨(fun _ h => nomatch h), (fun _ h => by unfold LamX.CodeO at h; cases h)⟩
theorem pl_tup {vs : List V} : Pl (.tup vs) := ⟨(fun _ h => nomatch h), (fun _ h => by unfold LamX.CodeO at h; cases h)⟩
theorem pl_dK {kvs : List (Key × V)} : Pl (.dK kvs) := ⟨(fun _ h => nomatch h), (fun _ h => by unfold LamX.CodeO at h; cases h)⟩
theorem pl_dT {kvs : List (List Key × V)} : Pl (.dT kvs) := ⟨(fun _ h => nomatch h), (fun _ h => by unfold LamX.CodeO at h; cases h)⟩
theorem pl_frz {ob : Obj} {o : HO} : Pl (.frz ob o) := ⟨(fun _ h => nomatch h), (fun _ h => by unfold LamX.CodeO at h; cases h)⟩
theorem pl_ins {C dx : Addr} {fs : List (Str × V)} : Pl (.ins C dx fs) := ⟨(fun _ h => nomatch h), (fun _ h => by unfold LamX.CodeO at h; cases h)⟩
def cdF (c : Addr) (q : Str) : Heap → Prop := fun h => ∃ oc vs t, h.get? c = some oc ∧ oc.data = PySem.Data.fields vs ∧ vs[1]? = some (PySem.Value.str q t)
theorem pl_dq {a : Addr} {xs : List (List Int × Addr × Value)} : Pl (.ext (dqF a xs)) := ⟨(fun _ h => nomatch h), fun c h => by
  unfold LamX.CodeO at h
  have e : dqF a xs = cdF c q0 := by injection h
  have e2 := congrFun e ⟨(List.replicate (c + 1) { cls := .none, data := .fields #[.none, .str q0 default] }).toArray, {}⟩
  have h1 : cdF c q0 ⟨(List.replicate (c + 1) { cls := .none, data := .fields #[.none, .str q0 default] }).toArray, {}⟩ := by
    refine ⟨{ cls := .none, data := .fields #[.none, .str q0 default] }, #[.none, .str q0 default], default, ?_, rfl, rfl⟩
    simp [Heap.get?, List.getElem?_replicate]
  rw [← e2] at h1
  obtain ⟨_, o, es, ep, h2, _, h3, _⟩ := h1
  have h4 : ∀ o, (Heap.mk (List.replicate (c + 1) { cls := .none, data := .fields #[.none, .str q0 default] }).toArray {}).get? a = some o → o.data = .fields #[.none, .str q0 default] := by
    intro o ho
    unfold Heap.get? at ho
    split at ho
    · cases ho
    · simp [List.getElem?_replicate, Array.getElem?_replicate] at ho
      rw [← ho.2]
      rfl
  rw [h4 _ h2] at h3
  cases h3⟩
theorem pl_dqP {a : Addr} {ep : Nat} {xs : List (List Int × Addr × Value)} : Pl (.ext (dqP a ep xs)) := ⟨(fun _ h => nomatch h), fun c h => by
  unfold LamX.CodeO at h
  have e : dqP a ep xs = cdF c q0 := by injection h
  have e2 := congrFun e ⟨(List.replicate (c + 1) { cls := .none, data := .fields #[.none, .str q0 default] }).toArray, {}⟩
  have h1 : cdF c q0 ⟨(List.replicate (c + 1) { cls := .none, data := .fields #[.none, .str q0 default] }).toArray, {}⟩ := by
    refine ⟨{ cls := .none, data := .fields #[.none, .str q0 default] }, #[.none, .str q0 default], default, ?_, rfl, rfl⟩
    simp [Heap.get?, List.getElem?_replicate]
  rw [← e2] at h1
  obtain ⟨_, o, es, h2, _, h3, _⟩ := h1
  have h4 : ∀ o, (Heap.mk (List.replicate (c + 1) { cls := .none, data := .fields #[.none, .str q0 default] }).toArray {}).get? a = some o → o.data = .fields #[.none, .str q0 default] := by
    intro o ho
    unfold Heap.get? at ho
    split at ho
    · cases ho
    · simp [List.getElem?_replicate, Array.getElem?_replicate] at ho
      rw [← ho.2]
      rfl
  rw [h4 _ h2] at h3
  cases h3⟩
def NTB (B : Hp) : Prop := ∀ a o, B a = some o → NT o
def TbK (H H' : Hp) : Prop := ∀ P, LamX.TabS H P q0 → LamX.TabS H' P q0
def Sub (B B' : Hp) : Prop := ∀ a o, B a = some o → B' a = some o
theorem Sub.refl (B : Hp) : Sub B B := fun _ _ h => h
theorem Sub.trans {B B1 B2 : Hp} (a : Sub B B1) (b : Sub B1 B2) : Sub B B2 := fun x o h => b x o (a x o h)
section
variable {K : PySem.W.Frag} {B B' H H' : Hp}
theorem Sub.sqT (h : Sub B B') {a : Addr} {vs : List V} (x : SqT K B a vs) : SqT K B' a vs := by
  rcases x with (x | ⟨o, x⟩) | x
  · exact .inl (.inl (h _ _ x))
  · exact .inl (.inr ⟨o, h _ _ x⟩)
  · exact .inr x
theorem Sub.sqL (h : Sub B B') {a : Addr} {vs : List V} (x : SqL K B a vs) : SqL K B' a vs := by
  rcases x with (x | ⟨o, x⟩) | x
  · exact .inl (.inl (h _ _ x))
  · exact .inl (.inr ⟨o, h _ _ x⟩)
  · exact .inr x
theorem ND.mono (h : Sub B B') {a : Addr} (d : ND K B a) : ND K B' a := by
  rcases d with ⟨o, vs, e, z⟩ | z
  · exact .inl ⟨o, vs, h _ _ e, z⟩
  · exact .inr z
theorem NDs.mono (h : Sub B B') {bs : List Bool} {vs : List V} (d : NDs K B bs vs) : NDs K B' bs vs := fun i e => by
  obtain ⟨b, e1, e2⟩ := d i e
  exact ⟨b, e1, e2.mono h⟩
mutual
theorem RF.mono (h : Sub B B') : ∀ {d : PyData} {v : V}, RF K B v d → RF K B' v d
  | _, _, .non => .non
  | _, _, .bl b => .bl b
  | _, _, .int i => .int i
  | _, _, .str x => .str x
  | _, _, .lst e r => .lst (h _ _ e) (RFs.mono h r)
  | _, _, .tup e r => .tup (h.sqT e) (RFs.mono h r)
  | _, _, .dic e r => .dic (h _ _ e) (RFd.mono h r)
  | _, _, .lm e d r => .lm (h _ _ e) (d.mono h) (RFs.mono h r)
theorem RFs.mono (h : Sub B B') : ∀ {ds : List PyData} {vs : List V}, RFs K B vs ds → RFs K B' vs ds
  | _, _, .nil => .nil
  | _, _, .cons r s => .cons (RF.mono h r) (RFs.mono h s)
theorem RFd.mono (h : Sub B B') : ∀ {ds : List (PyData × PyData)} {vs : List (Key × V)}, RFd K B vs ds → RFd K B' vs ds
  | _, _, .nil => .nil
  | _, _, .cons r s => .cons (RF.mono h r) (RFd.mono h s)
end
theorem XOk.mono (h : Sub B B') {C : Addr} {fs : List (Str × PyData)} {oe : Obj} (x : XOk K B C fs oe) : XOk K B' C fs oe := by
  obtain ⟨h1, h2, h3⟩ := x
  refine ⟨h1, h2, ?_⟩
  rcases h3 with h3 | ⟨dd, vs, e1, e2, e3, e4⟩
  · exact .inl h3
  · exact .inr ⟨dd, vs, e1, h _ _ e2, e3, e4.mono h⟩
theorem DqE.mono (h : Sub B B') : ∀ {xs : List (List Int × Addr × Value)} {ds : List (List Int × PyData)}, DqE K B xs ds → DqE K B' xs ds
  | _, _, .nil => .nil
  | _, _, .cons e r f t => .cons (h.sqT e) r (f.mono h) (t.mono h)
theorem NdE.mono (h : Sub B B') {vt : Bool} {xs : List (List Int × Addr × Value)} (d : NdE K B vt xs) : NdE K B' vt xs := fun x hx => ⟨(d x hx).1.mono h, fun z => let ⟨b, e, n⟩ := (d x hx).2 z; ⟨b, e, n.mono h⟩⟩
mutual
theorem RO.next (h : Sub B B') : ∀ {x : O} {v : V} {fp : List Addr}, RO K B H v x fp → (∀ a ∈ fp, ∀ o, H a = some o → NT o → H' a = some o) → RO K B' H' v x fp
  | _, _, _, .fz r, _ => .fz (r.mono h)
  | _, _, _, .hid, _ => .hid
  | _, _, _, .tn e d r, _ => .tn (h.sqT e) (d.mono h) (r.mono h)
  | _, _, _, .dl e q r, _ => .dl (h _ _ e) q (r.mono h)
  | _, _, _, .scr e, _ => .scr (h.sqL e)
  | _, _, _, .lf e r, k => .lf (k _ (List.mem_cons_self ..) _ e pl_lst.1) (r.mono h)
  | _, _, _, .df e q r, k => .df (k _ (List.mem_cons_self ..) _ e pl_dK.1) q (r.mono h)
  | _, _, _, .dt e q r, k => .dt (k _ (List.mem_cons_self ..) _ e pl_dT.1) q (r.mono h)
  | _, _, _, .dq e q r, k => .dq (k _ (List.mem_cons_self ..) _ e pl_dq.1) (q.mono h) r
  | _, _, _, .dn e q d r, k => .dn (k _ (List.mem_cons_self ..) _ e pl_dqP.1) (q.mono h) (d.mono h) r
  | _, _, _, .dz e q d r, k => .dz (h _ _ e) (q.mono h) (d.mono h) r
  | _, _, _, .ol e r, k => .ol (k _ (List.mem_cons_self ..) _ e pl_lst.1) (ROs.next h r fun a ha => k a (List.mem_cons_of_mem _ ha))
  | _, _, _, .ot e r, k => .ot (h _ _ e) (ROs.next h r k)
  | _, _, _, .od e q r, k => .od (k _ (List.mem_cons_self ..) _ e pl_dK.1) q (ROs.next h r fun a ha => k a (List.mem_cons_of_mem _ ha))
  | _, _, _, .exn n e x, _ => .exn n (h _ _ e) (x.mono h)
  | _, _, _, .oi n e q r, k => .oi n (k _ (List.mem_cons_self ..) _ e pl_ins.1) q (ROs.next h r fun a ha => k a (List.mem_cons_of_mem _ ha))
theorem ROs.next (h : Sub B B') : ∀ {xs : List O} {vs : List V} {fp : List Addr}, ROs K B H vs xs fp → (∀ a ∈ fp, ∀ o, H a = some o → NT o → H' a = some o) → ROs K B' H' vs xs fp
  | _, _, _, .nil, _ => .nil
  | _, _, _, .cons r s, k => .cons (RO.next h r fun a ha => k a (List.mem_append_left _ ha)) (ROs.next h s fun a ha => k a (List.mem_append_right _ ha))
end
mutual
theorem RO.live : ∀ {x : O} {v : V} {fp : List Addr}, RO K B H v x fp → ∀ a ∈ fp, ∃ o, H a = some o
  | _, _, _, .fz _, a, ha => by cases ha
  | _, _, _, .hid, a, ha => by cases ha
  | _, _, _, .tn _ _ _, a, ha => by cases ha
  | _, _, _, .dl _ _ _, a, ha => by cases ha
  | _, _, _, .scr _, a, ha => by cases ha
  | _, _, _, .lf e _, a, ha => by rw [List.mem_singleton.mp ha]; exact ⟨_, e⟩
  | _, _, _, .df e _ _, a, ha => by rw [List.mem_singleton.mp ha]; exact ⟨_, e⟩
  | _, _, _, .dt e _ _, a, ha => by rw [List.mem_singleton.mp ha]; exact ⟨_, e⟩
  | _, _, _, .dq e _ _, a, ha => by rw [List.mem_singleton.mp ha]; exact ⟨_, e⟩
  | _, _, _, .dn e _ _ _, a, ha => by rw [List.mem_singleton.mp ha]; exact ⟨_, e⟩
  | _, _, _, .dz _ _ _ _, a, ha => by cases ha
  | _, _, _, .ol e r, a, ha => by
    rcases List.mem_cons.mp ha with rfl | ha
    · exact ⟨_, e⟩
    · exact ROs.live r a ha
  | _, _, _, .ot e r, a, ha => ROs.live r a ha
  | _, _, _, .od e q r, a, ha => by
    rcases List.mem_cons.mp ha with rfl | ha
    · exact ⟨_, e⟩
    · exact ROs.live r a ha
  | _, _, _, .exn _ _ _, a, ha => by cases ha
  | _, _, _, .oi n e q r, a, ha => by
    rcases List.mem_cons.mp ha with rfl | ha
    · exact ⟨_, e⟩
    · exact ROs.live r a ha
theorem ROs.live : ∀ {xs : List O} {vs : List V} {fp : List Addr}, ROs K B H vs xs fp → ∀ a ∈ fp, ∃ o, H a = some o
  | _, _, _, .nil, a, ha => by cases ha
  | _, _, _, .cons r s, a, ha => by
    rcases List.mem_append.mp ha with ha | ha
    · exact RO.live r a ha
    · exact ROs.live s a ha
end
mutual
theorem RO.liveP : ∀ {x : O} {v : V} {fp : List Addr}, RO K B H v x fp → ∀ a ∈ fp, ∃ o, H a = some o ∧ Pl o
  | _, _, _, .fz _, a, ha => by cases ha
  | _, _, _, .hid, a, ha => by cases ha
  | _, _, _, .tn _ _ _, a, ha => by cases ha
  | _, _, _, .dl _ _ _, a, ha => by cases ha
  | _, _, _, .scr _, a, ha => by cases ha
  | _, _, _, .lf e _, a, ha => by rw [List.mem_singleton.mp ha]; exact ⟨_, e, pl_lst⟩
  | _, _, _, .df e _ _, a, ha => by rw [List.mem_singleton.mp ha]; exact ⟨_, e, pl_dK⟩
  | _, _, _, .dt e _ _, a, ha => by rw [List.mem_singleton.mp ha]; exact ⟨_, e, pl_dT⟩
  | _, _, _, .dq e _ _, a, ha => by rw [List.mem_singleton.mp ha]; exact ⟨_, e, pl_dq⟩
  | _, _, _, .dn e _ _ _, a, ha => by rw [List.mem_singleton.mp ha]; exact ⟨_, e, pl_dqP⟩
  | _, _, _, .dz _ _ _ _, a, ha => by cases ha
  | _, _, _, .ol e r, a, ha => by
    rcases List.mem_cons.mp ha with rfl | ha
    · exact ⟨_, e, pl_lst⟩
    · exact ROs.liveP r a ha
  | _, _, _, .ot e r, a, ha => ROs.liveP r a ha
  | _, _, _, .od e q r, a, ha => by
    rcases List.mem_cons.mp ha with rfl | ha
    · exact ⟨_, e, pl_dK⟩
    · exact ROs.liveP r a ha
  | _, _, _, .exn _ _ _, a, ha => by cases ha
  | _, _, _, .oi n e q r, a, ha => by
    rcases List.mem_cons.mp ha with rfl | ha
    · exact ⟨_, e, pl_ins⟩
    · exact ROs.liveP r a ha
theorem ROs.liveP : ∀ {xs : List O} {vs : List V} {fp : List Addr}, ROs K B H vs xs fp → ∀ a ∈ fp, ∃ o, H a = some o ∧ Pl o
  | _, _, _, .nil, a, ha => by cases ha
  | _, _, _, .cons r s, a, ha => by
    rcases List.mem_append.mp ha with ha | ha
    · exact RO.liveP r a ha
    · exact ROs.liveP s a ha
end
theorem RFs.length : ∀ {ds : List PyData} {vs : List V}, RFs K B vs ds → vs.length = ds.length
  | _, _, .nil => rfl
  | _, _, .cons _ s => congrArg (· + 1) s.length
theorem RFs.append : ∀ {ds es : List PyData} {vs us : List V}, RFs K B vs ds → RFs K B us es → RFs K B (vs ++ us) (ds ++ es)
  | _, _, _, _, .nil, s => s
  | _, _, _, _, .cons r t, s => .cons r (t.append s)
theorem RFs.get : ∀ {ds : List PyData} {vs : List V} {i : Nat} {d : PyData}, RFs K B vs ds → ds[i]? = some d → ∃ v, vs[i]? = some v ∧ RF K B v d
  | _, _, _, _, .nil, e => by simp at e
  | _, _, 0, _, .cons r _, e => by simp at e; subst e; exact ⟨_, rfl, r⟩
  | _, _, i + 1, d, .cons _ t, e => by
    obtain ⟨v, h1, h2⟩ := RFs.get (i := i) (d := d) t (by simpa using e)
    exact ⟨v, by simpa using h1, h2⟩
theorem RFs.take : ∀ {ds : List PyData} {vs : List V} (n : Nat), RFs K B vs ds → RFs K B (vs.take n) (ds.take n)
  | _, _, 0, _ => .nil
  | _, _, _ + 1, .nil => .nil
  | _, _, n + 1, .cons r t => .cons r (t.take n)
theorem RFs.drop : ∀ {ds : List PyData} {vs : List V} (n : Nat), RFs K B vs ds → RFs K B (vs.drop n) (ds.drop n)
  | _, _, 0, r => r
  | _, _, _ + 1, .nil => .nil
  | _, _, n + 1, .cons r t => t.drop n
theorem RFs.reverse : ∀ {ds : List PyData} {vs : List V}, RFs K B vs ds → RFs K B vs.reverse ds.reverse
  | _, _, .nil => .nil
  | _, _, .cons r t => by
    rw [List.reverse_cons, List.reverse_cons]
    exact t.reverse.append (.cons r .nil)
theorem ROs.length : ∀ {xs : List O} {vs : List V} {fp : List Addr}, ROs K B H vs xs fp → vs.length = xs.length
  | _, _, _, .nil => rfl
  | _, _, _, .cons _ s => congrArg (· + 1) s.length
theorem ROs.append : ∀ {xs ys : List O} {vs us : List V} {f g : List Addr}, ROs K B H vs xs f → ROs K B H us ys g → ROs K B H (vs ++ us) (xs ++ ys) (f ++ g)
  | _, _, _, _, _, _, .nil, s => s
  | _, _, _, _, _, _, .cons r t, s => by
    rw [List.append_assoc]
    exact .cons r (t.append s)
theorem ROs.split_append : ∀ {xs ys : List O} {vs us : List V} {f : List Addr}, ROs K B H (vs ++ us) (xs ++ ys) f → vs.length = xs.length → ∃ f1 f2, f = f1 ++ f2 ∧ ROs K B H vs xs f1 ∧ ROs K B H us ys f2
  | [], _, [], _, f, r, _ => ⟨[], f, rfl, .nil, r⟩
  | [], _, _ :: _, _, _, _, e => by cases e
  | _ :: _, _, [], _, _, _, e => by cases e
  | x :: xs, ys, v :: vs, us, f, r, e => by
    cases r with
    | cons r s =>
      obtain ⟨f1, f2, rfl, a, b⟩ := ROs.split_append s (Nat.succ.inj e)
      exact ⟨_, f2, (List.append_assoc _ _ _).symm, .cons r a, b⟩
theorem ROs.fzs : ∀ {ds : List PyData} {vs : List V}, RFs K B vs ds → ROs K B H vs (ds.map O.fz) []
  | _, _, .nil => .nil
  | _, _, .cons r s => by
    have := ROs.cons (H := H) (RO.fz r) (ROs.fzs s)
    exact this
theorem ROs.unfz : ∀ {ds : List PyData} {vs : List V} {fp : List Addr}, ROs K B H vs (ds.map O.fz) fp → RFs K B vs ds ∧ fp = []
  | [], _, _, .nil => ⟨.nil, rfl⟩
  | d :: ds, _, _, .cons (.fz r) s => by
    obtain ⟨a, e⟩ := ROs.unfz (ds := ds) s
    subst e
    exact ⟨.cons r a, rfl⟩
theorem ROs.split : ∀ {xs : List O} {vs : List V} {fp : List Addr} {i : Nat} {x : O}, ROs K B H vs xs fp → xs[i]? = some x →
    ∃ v f1 f2, vs[i]? = some v ∧ RO K B H v x f1 ∧ ROs K B H vs (xs.set i .hid) f2 ∧ fp.Perm (f1 ++ f2)
  | _, _, _, _, _, .nil, e => by simp at e
  | x :: xs, v :: vs, _, 0, y, .cons (f1 := f1) (f2 := f2) r s, e => by
    have e' : x = y := by simpa using e
    subst e'
    exact ⟨v, f1, f2, rfl, r, .cons (f1 := []) .hid s, List.Perm.refl _⟩
  | x :: xs, v :: vs, _, i + 1, y, .cons (f1 := f1) (f2 := f2) r s, e => by
    obtain ⟨w, g1, g2, h1, h2, h3, h4⟩ := ROs.split (i := i) (x := y) s (by simpa using e)
    refine ⟨w, g1, f1 ++ g2, by simpa using h1, h2, .cons r h3, ?_⟩
    refine (List.Perm.append_left f1 h4).trans ?_
    rw [← List.append_assoc, ← List.append_assoc]
    exact List.Perm.append_right _ List.perm_append_comm
theorem ROs.put : ∀ {xs : List O} {vs : List V} {f2 : List Addr} {i : Nat} {x : O} {v : V} {f1 : List Addr}, ROs K B H vs xs f2 → xs[i]? = some O.hid → RO K B H v x f1 →
    ∃ fp, ROs K B H (vs.set i v) (xs.set i x) fp ∧ fp.Perm (f1 ++ f2)
  | _, _, _, _, _, _, _, .nil, e, _ => by simp at e
  | y :: xs, w :: vs, _, 0, x, v, f1, .cons (f1 := g1) (f2 := g2) r s, e, q => by
    have e' : y = .hid := by simpa using e
    subst e'
    cases r
    exact ⟨f1 ++ g2, .cons q s, List.Perm.refl _⟩
  | y :: xs, w :: vs, _, i + 1, x, v, f1, .cons (f1 := g1) (f2 := g2) r s, e, q => by
    obtain ⟨fp, h1, h2⟩ := ROs.put (i := i) s (by simpa using e) q
    refine ⟨g1 ++ fp, .cons r h1, ?_⟩
    refine (List.Perm.append_left g1 h2).trans ?_
    rw [← List.append_assoc, ← List.append_assoc]
    exact List.Perm.append_right _ List.perm_append_comm
theorem ROs.forget {xs : List O} {vs : List V} {fp : List Addr} (r : ROs K B H vs xs fp) (i : Nat) : ∃ f2, ROs K B H vs (xs.set i .hid) f2 ∧ (∀ a ∈ f2, a ∈ fp) ∧ (fp.Nodup → f2.Nodup) := by
  cases e : xs[i]? with
  | none =>
    have : xs.set i .hid = xs := List.set_eq_of_length_le (List.getElem?_eq_none_iff.mp e)
    rw [this]
    exact ⟨fp, r, fun _ h => h, fun h => h⟩
  | some x =>
    obtain ⟨v, f1, f2, _, _, h3, h4⟩ := r.split e
    refine ⟨f2, h3, fun a ha => h4.symm.subset (List.mem_append_right _ ha), fun h => ?_⟩
    exact ((List.nodup_append.mp (h4.nodup h)).2).1
theorem ROs.any : ∀ {xs : List O} {vs : List V} {fp : List Addr} {i : Nat} (v : V), ROs K B H vs xs fp → xs[i]? = some O.hid → ROs K B H (vs.set i v) xs fp
  | _, _, _, _, _, .nil, e => by simp at e
  | x :: xs, w :: vs, _, 0, v, .cons r s, e => by
    have e' : x = .hid := by simpa using e
    subst e'
    cases r
    exact .cons .hid s
  | x :: xs, w :: vs, _, i + 1, v, .cons r s, e => .cons r (ROs.any (i := i) v s (by simpa using e))
end
theorem TbK.refl (H : Hp) : TbK H H := fun _ h => h
theorem TbK.trans {H H1 H2 : Hp} (a : TbK H H1) (b : TbK H1 H2) : TbK H H2 := fun P h => b P (a P h)
theorem TbK.ext {H H' : Hp} (e : ∀ a o, H a = some o → H' a = some o) : TbK H H' := fun _ h => h.ext e
theorem TbK.upd {H : Hp} {p : Addr} {o' : HO} (h : ∀ o, H p = some o → Pl o) : TbK H (L2.upd H p o') := fun P hP => by
  obtain ⟨ps, h1, h2, h3⟩ := hP
  refine ⟨ps, ?_, h2, fun pos cv hc => ?_⟩
  · rw [upd_ne (fun z => by rw [z] at h1; exact (h _ h1).1 ps rfl)]
    exact h1
  · obtain ⟨c, e1, e2⟩ := h3 pos cv hc
    refine ⟨c, e1, ?_⟩
    rw [upd_ne (fun z => by rw [z] at e2; exact (h _ e2).2 _ rfl)]
    exact e2
structure Ex where
  cn : Str
  fs : List (Str × PyData)
def RX (K : PySem.W.Frag) (_ : Str → Option Value) (B : Hp) (cls : Value) (d : Option Addr) (x : Ex) : Prop :=
  ∃ C : Addr, cls = .ref C ∧ clsA K x.cn C ∧ ((x.fs = [] ∧ d = none) ∨ ∃ (dd : Addr) (vs : List (Str × V)), d = some dd ∧ B dd = some (.xd vs) ∧ vs.map (·.1) = x.fs.map (·.1) ∧ RFs K B (vs.map (·.2)) (x.fs.map (·.2)))
structure Ent where
  B : Hp
  H : Hp
  fp : List Addr
  T : List Addr
  tb : ∀ P ∈ T, LamX.TabS H P q0
  nt : NTB B
  W : WX := fun _ _ _ _ => False
  mg : Str → Option Value := fun _ => none
structure Nxt (B H : Hp) (fp : List Addr) (B' H' : Hp) (fp' : List Addr) : Prop where
  bsub : Sub B B'
  keep : ∀ a o, H a = some o → a ∉ fp → NT o → H' a = some o
  newB : ∀ a, B' a ≠ none → B a ≠ none ∨ H a = none ∨ a ∈ fp
  newF : ∀ a ∈ fp', a ∈ fp ∨ H a = none
  live : ∀ a, H' a = none → H a = none
  tabs : TbK H H'
  ntb : NTB B → NTB B'
theorem Nxt.refl (B H : Hp) (fp : List Addr) : Nxt B H fp B H fp := ⟨Sub.refl B, fun _ _ h _ _ => h, fun _ h => .inl h, fun _ h => .inl h, fun _ h => h, TbK.refl H, fun h => h⟩
theorem Nxt.less {B H B' H' : Hp} {fp f1 f2 : List Addr} (n : Nxt B H fp B' H' f1) (h : ∀ a ∈ f2, a ∈ f1) : Nxt B H fp B' H' f2 := ⟨n.bsub, n.keep, n.newB, fun a ha => n.newF a (h a ha), n.live, n.tabs, n.ntb⟩
theorem Nxt.self {B H : Hp} {fp fp' : List Addr} (h : ∀ a ∈ fp', a ∈ fp) : Nxt B H fp B H fp' := (Nxt.refl B H fp).less h
theorem Nxt.more {B H B' H' : Hp} {f1 f2 f : List Addr} (n : Nxt B H f1 B' H' f) (h : ∀ a ∈ f1, a ∈ f2) : Nxt B H f2 B' H' f :=
  ⟨n.bsub, fun a o e m => n.keep a o e fun z => m (h a z), fun a e => (n.newB a e).imp_right (·.imp_right (h a)), fun a ha => (n.newF a ha).imp_left (h a), n.live, n.tabs, n.ntb⟩
theorem Nxt.trans {B H B1 H1 B2 H2 : Hp} {fp f1 f2 : List Addr} (a : Nxt B H fp B1 H1 f1) (b : Nxt B1 H1 f1 B2 H2 f2) : Nxt B H fp B2 H2 f2 where
  bsub := a.bsub.trans b.bsub
  keep := fun x o e m t => b.keep x o (a.keep x o e m t) (fun z => by
    rcases a.newF x z with q | q
    · exact m q
    · rw [e] at q; cases q) t
  newB := fun x e => by
    rcases b.newB x e with q | q | q
    · exact a.newB x q
    · exact .inr (.inl (a.live x q))
    · rcases a.newF x q with q | q
      · exact .inr (.inr q)
      · exact .inr (.inl q)
  newF := fun x e => by
    rcases b.newF x e with q | q
    · exact a.newF x q
    · exact .inr (a.live x q)
  live := fun x e => a.live x (b.live x e)
  tabs := a.tabs.trans b.tabs
  ntb := fun h => b.ntb (a.ntb h)
def valsOf (σ : St) : List V := σ.map fun o => o.getD .non
structure Ok (K : PySem.W.Frag) (Z : Ent) (B H : Hp) (σ : St) (ρ : List O) (fp : List Addr) : Prop where
  sub : Sub B H
  un : ∀ i : Nat, σ[i]? = some none → ρ[i]? = some O.hid
  rs : ROs K B H (valsOf σ) ρ fp
  nd : fp.Nodup
  out : ∀ a ∈ fp, B a = none
  nx : Nxt Z.B Z.H Z.fp B H fp
section
variable {K : PySem.W.Frag} {Z : Ent} {B B1 H H1 : Hp} {σ τ : St} {ρ ρ' xs : List O} {fp f1 : List Addr} {v : V} {x : O}
theorem Ok.len (k : Ok K Z B H σ ρ fp) : σ.length = ρ.length := by
  have := k.rs.length
  unfold valsOf at this
  rwa [List.length_map] at this
theorem Ok.lives (k : Ok K Z B H σ ρ fp) : ∀ a ∈ fp, H a ≠ none := fun a ha e => by
  obtain ⟨o, h⟩ := k.rs.live a ha
  rw [h] at e; cases e
theorem valsOf_cons (v : V) (σ : St) : valsOf (some v :: σ) = v :: valsOf σ := rfl
theorem valsOf_append (σ τ : St) : valsOf (σ ++ τ) = valsOf σ ++ valsOf τ := List.map_append ..
theorem valsOf_get {i : Nat} : (valsOf σ)[i]? = (σ[i]?).map fun o => o.getD .non := List.getElem?_map ..
theorem Ok.part {f2 : List Addr} (k : Ok K Z B H σ ρ fp) (un : ∀ i : Nat, τ[i]? = some none → ρ'[i]? = some O.hid) (r : ROs K B H (valsOf τ) ρ' f2) (nd : f2.Nodup) (h : ∀ a ∈ f2, a ∈ fp) : Ok K Z B H τ ρ' f2 :=
  ⟨k.sub, un, r, nd, fun a ha => k.out a (h a ha), k.nx.less h⟩
theorem Ok.frame (k : Ok K Z B H (τ ++ σ) (xs ++ ρ) fp) (hl : τ.length = xs.length) : ∃ f1 f2, fp = f1 ++ f2 ∧ ROs K B H (valsOf τ) xs f1 ∧ Ok K Z B H σ ρ f2 ∧
    ∀ {B' H' : Hp} {σ' : St} {ρ' : List O} {g : List Addr}, Nxt B H f2 B' H' g → Ok K Z B' H' σ' ρ' g → Ok K Z B' H' (τ ++ σ') (xs ++ ρ') (f1 ++ g) ∧ Nxt B H fp B' H' (f1 ++ g) := by
  obtain ⟨sub, un, rs, nd, out, nx⟩ := k
  rw [valsOf_append] at rs
  obtain ⟨f1, f2, rfl, a, b⟩ := rs.split_append (by unfold valsOf; rw [List.length_map]; exact hl)
  obtain ⟨n1, n2, n3⟩ := List.nodup_append.mp nd
  have ok2 : Ok K Z B H σ ρ f2 := ⟨sub, fun i e => by
    have e2 := un (τ.length + i) (by rw [List.getElem?_append_right (Nat.le_add_right _ _), Nat.add_sub_cancel_left]; exact e)
    rwa [hl, List.getElem?_append_right (Nat.le_add_right _ _), Nat.add_sub_cancel_left] at e2, b, n2, fun a ha => out a (List.mem_append_right _ ha), nx.less fun a ha => List.mem_append_right _ ha⟩
  refine ⟨f1, f2, rfl, a, ok2, fun {B' H' σ' ρ' g} n k' => ?_⟩
  have dis : ∀ a ∈ f1, a ∉ f2 := fun a h h' => n3 a h a h' rfl
  have hk : ∀ a ∈ f1, ∀ o, H a = some o → NT o → H' a = some o := fun a ha o e => n.keep a o e (dis a ha)
  have fg : ∀ a ∈ f1, a ∉ g := fun x hx hg => by
    rcases n.newF x hg with q | q
    · exact dis x hx q
    · obtain ⟨o, e⟩ := a.live x hx
      rw [e] at q; cases q
  have nn : Nxt B H (f1 ++ f2) B' H' (f1 ++ g) := ⟨n.bsub, fun a o e m => n.keep a o e fun z => m (List.mem_append_right _ z), fun a e => (n.newB a e).imp_right (·.imp_right fun z => List.mem_append_right _ z), fun a ha => by
    rcases List.mem_append.mp ha with q | q
    · exact .inl (List.mem_append_left _ q)
    · exact (n.newF a q).imp_left fun z => List.mem_append_right _ z, n.live, n.tabs, n.ntb⟩
  refine ⟨⟨k'.sub, fun i e => ?_, ?_, ?_, fun x hx => ?_, nx.trans nn⟩, nn⟩
  · by_cases hi : i < τ.length
    · rw [List.getElem?_append_left hi] at e
      have := un i (by rw [List.getElem?_append_left hi]; exact e)
      rw [List.getElem?_append_left (by omega)] at this
      rw [List.getElem?_append_left (by omega)]
      exact this
    · rw [List.getElem?_append_right (by omega)] at e
      have := k'.un _ e
      rw [List.getElem?_append_right (by omega), ← hl]
      exact this
  · rw [valsOf_append]
    exact (a.next n.bsub hk).append k'.rs
  · exact List.nodup_append.mpr ⟨n1, k'.nd, fun a ha b hb e => fg a ha (e ▸ hb)⟩
  · rcases List.mem_append.mp hx with q | q
    · cases z : B' x with
      | none => rfl
      | some o =>
        rcases n.newB x (by rw [z]; exact fun h => nomatch h) with h | h | h
        · exact absurd (out x (List.mem_append_left _ q)) h
        · obtain ⟨o, e⟩ := a.live x q
          rw [e] at h; cases h
        · exact absurd h (dis x q)
    · exact k'.out x q
theorem Ok.drop (k : Ok K Z B H (τ ++ σ) (xs ++ ρ) fp) (hl : τ.length = xs.length) : ∃ f2, Ok K Z B H σ ρ f2 ∧ (∀ a ∈ f2, a ∈ fp) := by
  obtain ⟨f1, f2, rfl, _, h, _⟩ := k.frame hl
  exact ⟨f2, h, fun a ha => List.mem_append_right _ ha⟩
theorem Ok.drop1 (k : Ok K Z B H (some v :: σ) (x :: ρ) fp) : ∃ f2, Ok K Z B H σ ρ f2 ∧ (∀ a ∈ f2, a ∈ fp) := Ok.drop (τ := [some v]) (xs := [x]) k rfl
theorem Ok.addF {f : PyData} (k : Ok K Z B H σ ρ fp) (r : RF K B v f) : Ok K Z B H (some v :: σ) (.fz f :: ρ) fp :=
  ⟨k.sub, fun i e => by
    cases i with
    | zero => cases e
    | succ i => exact k.un i e, .cons (f1 := []) (.fz r) k.rs, k.nd, k.out, k.nx⟩
theorem Ok.addH (k : Ok K Z B H σ ρ fp) : Ok K Z B H (some v :: σ) (.hid :: ρ) fp :=
  ⟨k.sub, fun i e => by
    cases i with
    | zero => cases e
    | succ i => exact k.un i e, .cons (f1 := []) .hid k.rs, k.nd, k.out, k.nx⟩
theorem Ok.head (k : Ok K Z B H (some v :: σ) (x :: ρ) fp) : ∃ f, RO K B H v x f ∧ f.Nodup ∧ ∀ a ∈ f, a ∈ fp := by
  obtain ⟨_, _, rs, nd, _, _⟩ := k
  cases rs with
  | cons r s => exact ⟨_, r, (List.nodup_append.mp nd).1, fun a ha => List.mem_append_left _ ha⟩
theorem Ok.headF {f : PyData} (k : Ok K Z B H (some v :: σ) (.fz f :: ρ) fp) : RF K B v f := by
  obtain ⟨g, r, _⟩ := k.head
  cases r with
  | fz r => exact r
end
end Pt
namespace Pt
open PySem PySem.Spec L2
abbrev En := List O
abbrev WE := En → (O → En → Prop) → Prop
abbrev WT := En → (Bool → En → Prop) → Prop
structure DE where
  nx : En → Prop
  rt : O → En → Prop
  bk : En → Prop := fun _ => False
  ct : En → Prop := fun _ => False
  xc : Ex → En → Prop := fun _ _ => False
abbrev WS := DE → En → Prop
def nth : En → Nat → O
  | [], _ => .hid
  | x :: _, 0 => x
  | _ :: r, n + 1 => nth r n
theorem nth_eq : ∀ (ρ : En) (i : Nat), nth ρ i = (ρ[i]?).getD .hid
  | [], _ => by simp [nth]
  | x :: _, 0 => by simp [nth]
  | _ :: r, n + 1 => by simp [nth, nth_eq r n]
theorem nth_some {ρ : En} {i : Nat} {x : O} (h : nth ρ i = x) (hx : x ≠ .hid) : ρ[i]? = some x := by
  rw [nth_eq] at h
  cases e : ρ[i]? with
  | none => rw [e] at h; exact absurd h.symm hx
  | some y => rw [e] at h; exact congrArg some h
def asF : O → (PyData → Prop) → Prop
  | .fz f, k => k f
  | _, _ => False
def notHid : O → Prop → Prop
  | .hid, _ => False
  | _, p => p
theorem notHid_iff {x : O} {p : Prop} (h : notHid x p) : x ≠ .hid ∧ p := by
  cases x with
  | hid => exact False.elim h
  | _ => exact ⟨(fun e => nomatch e), h⟩
section
variable (K : PySem.W.Frag) (Z : Ent)
def tE (w : WE) : TE := fun σ H Q => ∃ B ρ fp R, Ok K Z B H σ ρ fp ∧ w ρ R ∧ ∀ d ρ', R d ρ' → ∀ v H' B' fp', Nxt B H fp B' H' fp' → Ok K Z B' H' (some v :: σ) (d :: ρ') fp' → Q v H'
def tT (w : WT) : TT := fun σ H Q => ∃ B ρ fp R, Ok K Z B H σ ρ fp ∧ w ρ R ∧ ∀ b ρ', R b ρ' → ∀ H' B' fp', Nxt B H fp B' H' fp' → Ok K Z B' H' σ ρ' fp' → Q b H'
inductive AD where
  | ex (w : WE)
  | nm (i : Nat)
def tAD : AD → TE
  | .ex w => tE K Z w
  | .nm i => tVar i
def tADs : List AD → TA
  | [] => tNil
  | a :: r => tCons (tAD K Z a) (tADs r)
end
def wADs : List AD → En → (List (Option O) → En → Prop) → Prop
  | [], ρ, R => R [] ρ
  | .ex w :: r, ρ, R => w ρ fun d ρ1 => wADs r ρ1 fun ds ρ2 => R (some d :: ds) ρ2
  | .nm i :: r, ρ, R => notHid (nth ρ i) (wADs r ρ fun ds ρ2 => R (none :: ds) ρ2)
def fillA : List AD → List (Option O) → En → List O
  | .ex _ :: r, some d :: ds, ρ => d :: fillA r ds ρ
  | .nm i :: r, _ :: ds, ρ => nth ρ i :: fillA r ds ρ
  | _, _, _ => []
inductive Got (σ : St) : List AD → List V → List (Option O) → St → List O → Prop
  | nil : Got σ [] [] [] [] []
  | ex {w : WE} {r : List AD} {v : V} {vs : List V} {d : O} {ds : List (Option O)} {τ : St} {xs : List O} : Got σ r vs ds τ xs → Got σ (.ex w :: r) (v :: vs) (some d :: ds) (some v :: τ) (d :: xs)
  | nm {i : Nat} {r : List AD} {v : V} {vs : List V} {ds : List (Option O)} {τ : St} {xs : List O} : (σ[i]? : Option (Option V)) = some (some v) → Got σ r vs ds τ xs → Got σ (.nm i :: r) (v :: vs) (none :: ds) τ xs
section
variable {K : PySem.W.Frag} {Z : Ent} {B H : Hp} {σ : St} {ρ : En} {fp : List Addr}
theorem Got.len {as : List AD} {vs : List V} {ds : List (Option O)} {τ : St} {xs : List O} (g : Got σ as vs ds τ xs) : τ.length = xs.length := by
  induction g with
  | nil => rfl
  | ex _ ih => exact congrArg (· + 1) ih
  | nm _ _ ih => exact ih
theorem Ok.slot (k : Ok K Z B H σ ρ fp) {i : Nat} {x : O} (h : nth ρ i = x) (hx : x ≠ .hid) : ∃ v f, (σ[i]? : Option (Option V)) = some (some v) ∧ RO K B H v x f ∧ ∀ a ∈ f, a ∈ fp := by
  have e := nth_some h hx
  obtain ⟨v, f1, f2, h1, h2, _, h4⟩ := k.rs.split e
  rw [valsOf_get] at h1
  cases q : (σ[i]? : Option (Option V)) with
  | none => rw [q] at h1; cases h1
  | some o =>
    cases o with
    | none => have := k.un i q; rw [e] at this; exact absurd (Option.some.inj this) hx
    | some u =>
      rw [q] at h1
      have e1 : u = v := Option.some.inj h1
      subst e1
      exact ⟨u, f1, rfl, h2, fun a ha => h4.symm.subset (List.mem_append_left _ ha)⟩
theorem args_ok : ∀ (as : List AD) {B H : Hp} {ρ : En} {fp : List Addr} {R : List (Option O) → En → Prop} {Q : List V → Hp → Prop}, Ok K Z B H σ ρ fp → wADs as ρ R →
    (∀ ds ρ', R ds ρ' → ∀ vs τ xs H' B' fp', Got σ as vs ds τ xs → Nxt B H fp B' H' fp' → Ok K Z B' H' (τ ++ σ) (xs ++ ρ') fp' → Q vs H') → tADs K Z as σ H Q
  | [], B, H, ρ, fp, R, Q, k, h, q => q [] ρ h [] [] [] H B fp .nil (Nxt.refl _ _ _) k
  | .ex w :: r, B, H, ρ, fp, R, Q, k, h, q => by
    refine ⟨B, ρ, fp, _, k, h, fun d ρ1 h1 v H1 B1 fp1 n1 k1 => ?_⟩
    obtain ⟨f1, f2, rfl, _, k1', fr⟩ := Ok.frame (τ := [some v]) (xs := [d]) k1 rfl
    refine args_ok r k1' h1 fun ds ρ2 h2 vs τ xs H2 B2 fp2 g n2 k2 => ?_
    obtain ⟨τ1, xs1, e1, e2⟩ : ∃ (τ1 : St) (xs1 : List O), some v :: τ = τ1 ∧ d :: xs = xs1 := ⟨_, _, rfl, rfl⟩
    obtain ⟨a, b⟩ := fr n2 k2
    exact q (some d :: ds) ρ2 h2 (v :: vs) (some v :: τ) (d :: xs) H2 B2 _ (.ex g) (n1.trans b) a
  | .nm i :: r, B, H, ρ, fp, R, Q, k, h, q => by
    obtain ⟨hx, h⟩ := notHid_iff h
    obtain ⟨v, f, e, _, _⟩ := k.slot rfl hx
    refine ⟨v, e, args_ok r k h fun ds ρ2 h2 vs τ xs H2 B2 fp2 g n2 k2 => ?_⟩
    exact q (none :: ds) ρ2 h2 (v :: vs) τ xs H2 B2 fp2 (.nm e g) n2 k2
theorem Got.reads {as : List AD} {vs : List V} {ds : List (Option O)} {τ : St} {xs : List O} (g : Got σ as vs ds τ xs) : ∀ {f : List Addr}, ROs K B H (valsOf τ) xs f → Ok K Z B H σ ρ fp → ∃ f', ROs K B H vs (fillA as ds ρ) f' := by
  induction g with
  | nil => exact fun _ _ => ⟨_, .nil⟩
  | ex g ih =>
    intro f r k
    rw [valsOf_cons] at r
    cases r with
    | cons r s =>
      obtain ⟨f', h⟩ := ih s k
      exact ⟨_, .cons r h⟩
  | @nm i r v vs ds τ xs e g ih =>
    intro f r k
    obtain ⟨f', h⟩ := ih r k
    cases q : nth ρ i with
    | hid => exact ⟨_, by unfold fillA; rw [q]; exact .cons .hid h⟩
    | _ =>
      obtain ⟨v', f1, e', h2, _⟩ := k.slot q (fun z => nomatch z)
      rw [e] at e'
      have e2 : v = v' := Option.some.inj (Option.some.inj e')
      subst e2
      exact ⟨_, by unfold fillA; rw [q]; exact .cons h2 h⟩
end
def Out (K : PySem.W.Frag) (B H : Hp) (u : V) (z : O) (B' H' : Hp) : Prop := ∃ g, Nxt B H [] B' H' g ∧ RO K B' H' u z g ∧ g.Nodup ∧ (∀ a ∈ g, B' a = none) ∧ Sub B' H'
section
variable {K : PySem.W.Frag} {Z : Ent} {B H B' H' : Hp} {σ : St} {ρ : En} {fp : List Addr} {u : V} {z : O}
theorem Out.here {f : PyData} (r : RF K B u f) (s : Sub B H) : Out K B H u (.fz f) B H := ⟨[], Nxt.refl _ _ _, .fz r, List.nodup_nil, fun _ h => (List.not_mem_nil h).elim, s⟩
theorem Out.ok (k : Ok K Z B H σ ρ fp) (o : Out K B H u z B' H') : ∃ g, Ok K Z B' H' (some u :: σ) (z :: ρ) g ∧ Nxt B H fp B' H' g := by
  obtain ⟨g, n, r, nd, out, sub⟩ := o
  have fresh : ∀ a ∈ g, H a = none := fun a ha => (n.newF a ha).resolve_left fun h => (List.not_mem_nil h).elim
  have nn : Nxt B H fp B' H' (g ++ fp) := ⟨n.bsub, fun a o e _ => n.keep a o e fun z => (List.not_mem_nil z).elim, fun a e => (n.newB a e).imp_right (·.imp_right fun z => (List.not_mem_nil z).elim), fun a ha => by
    rcases List.mem_append.mp ha with h | h
    · exact .inr (fresh a h)
    · exact .inl h, n.live, n.tabs, n.ntb⟩
  refine ⟨g ++ fp, ⟨sub, fun i e => ?_, ?_, ?_, fun a ha => ?_, k.nx.trans nn⟩, nn⟩
  · cases i with
    | zero => cases e
    | succ i => exact k.un i e
  · rw [valsOf_cons]
    exact .cons r (k.rs.next n.bsub fun a _ o e => n.keep a o e fun z => (List.not_mem_nil z).elim)
  · refine List.nodup_append.mpr ⟨nd, k.nd, fun a ha b hb e => ?_⟩
    subst e
    exact k.lives a hb (fresh a ha)
  · rcases List.mem_append.mp ha with h | h
    · exact out a h
    · cases q : B' a with
      | none => rfl
      | some o =>
        rcases n.newB a (by rw [q]; exact fun h => nomatch h) with h1 | h1 | h1
        · exact absurd (k.out a h) h1
        · exact absurd h1 (k.lives a h)
        · exact (List.not_mem_nil h1).elim
theorem Nxt.alloc {p : Addr} {o : HO} (hp : H p = none) : Nxt B H [] B (upd H p o) [p] := ⟨Sub.refl B, fun a o e _ _ => by rw [upd_ne (ne_of_none e hp)]; exact e, fun a e => .inl e, fun a ha => .inr (by rw [List.mem_singleton.mp ha]; exact hp), fun a e => by
  by_cases h : a = p
  · rw [h]; exact hp
  · rwa [upd_ne h] at e, TbK.upd fun o z => (by rw [hp] at z; cases z), fun h => h⟩
theorem Nxt.allocB {p : Addr} {o : HO} (hp : H p = none) (hB : B p = none) (ho : Pl o) : Nxt B H [] (upd B p o) (upd H p o) [] := ⟨fun a o e => by rw [upd_ne (ne_of_none e hB)]; exact e, fun a o e _ _ => by rw [upd_ne (ne_of_none e hp)]; exact e, fun a e => by
  by_cases h : a = p
  · rw [h]; exact .inr (.inl hp)
  · rw [upd_ne h] at e; exact .inl e, fun a ha => (List.not_mem_nil ha).elim, fun a e => by
  by_cases h : a = p
  · rw [h]; exact hp
  · rwa [upd_ne h] at e, TbK.upd fun o z => (by rw [hp] at z; cases z), fun n a u e => by
  by_cases h : a = p
  · rw [h, upd_same] at e; cases e; exact ho.1
  · rw [upd_ne h] at e; exact n a u e⟩
theorem Sub.free (s : Sub B H) {p : Addr} (hp : H p = none) : B p = none := by
  cases q : B p with
  | none => rfl
  | some o => rw [s p o q] at hp; cases hp
theorem Sub.upd (s : Sub B H) {p : Addr} {o : HO} : Sub (upd B p o) (upd H p o) := fun a u e => by
  by_cases h : a = p
  · subst h; rw [upd_same] at e ⊢; exact e
  · rw [upd_ne h] at e ⊢; exact s a u e
theorem Sub.updR (s : Sub B H) {p : Addr} {o : HO} (hp : B p = none) : Sub B (L2.upd H p o) := fun a u e => by rw [upd_ne (ne_of_none e hp)]; exact s a u e
theorem Out.lstO {vs : List V} {ds : List PyData} {p : Addr} (r : RFs K B vs ds) (s : Sub B H) (hp : H p = none) : Out K B H (.ref p) (.ol (ds.map O.fz)) B (upd H p (.lst vs)) :=
  ⟨[p], Nxt.alloc hp, .ol (fp := []) upd_same (ROs.fzs r), List.nodup_cons.mpr ⟨List.not_mem_nil, List.nodup_nil⟩, fun a ha => by rw [List.mem_singleton.mp ha]; exact s.free hp, s.updR (s.free hp)⟩
theorem Out.lst {vs : List V} {ds : List PyData} {p : Addr} (r : RFs K B vs ds) (s : Sub B H) (hp : H p = none) : Out K B H (.ref p) (.lf ds) B (upd H p (.lst vs)) :=
  ⟨[p], Nxt.alloc hp, .lf upd_same r, List.nodup_cons.mpr ⟨List.not_mem_nil, List.nodup_nil⟩, fun a ha => by rw [List.mem_singleton.mp ha]; exact s.free hp, s.updR (s.free hp)⟩
theorem Out.tup {vs : List V} {ds : List PyData} {p : Addr} (r : RFs K B vs ds) (s : Sub B H) (hp : H p = none) : Out K B H (.ref p) (.fz (.tuple ds)) (upd B p (.tup vs)) (upd H p (.tup vs)) := by
  have sb : Sub B (upd B p (.tup vs)) := fun a o e => by rw [upd_ne (ne_of_none e (s.free hp))]; exact e
  exact ⟨[], Nxt.allocB hp (s.free hp) pl_tup, .fz (.tup (SqT.of upd_same) (r.mono sb)), List.nodup_nil, fun _ h => (List.not_mem_nil h).elim, s.upd⟩
end
def Rd (K : PySem.W.Frag) (r : List V → Hp → VK → Prop) (op : List O → (O → Prop) → Prop) : Prop :=
  ∀ (B H : Hp) (vs : List V) (xs : List O) (f : List Addr) (R : O → Prop) (Q : VK), Sub B H → ROs K B H vs xs f → op xs R → (∀ z, R z → ∀ u B' H', Out K B H u z B' H' → Q u H') → r vs H Q
def wRd (as : List AD) (op : List O → (O → Prop) → Prop) : WE := fun ρ R => wADs as ρ fun ds ρ1 => op (fillA as ds ρ1) fun z => R z ρ1
section
variable {K : PySem.W.Frag} {Z : Ent} {H : Hp} {σ : St}
theorem rd_glue {as : List AD} {op : List O → (O → Prop) → Prop} {r : List V → Hp → VK → Prop} {Q : VK} (hr : Rd K r op) (h : tE K Z (wRd as op) σ H Q) : tADs K Z as σ H fun vs H1 => r vs H1 Q := by
  obtain ⟨B, ρ, fp, R, k, h, q⟩ := h
  refine args_ok as k h fun ds ρ1 h1 vs τ xs H1 B1 fp1 g n1 k1 => ?_
  obtain ⟨f1, f2, rfl, r1, k2, _⟩ := k1.frame g.len
  obtain ⟨f', rr⟩ := g.reads r1 k2
  refine hr B1 H1 vs _ f' _ Q k1.sub rr h1 fun z hz u B' H' o => ?_
  obtain ⟨g', k3, n3⟩ := o.ok k2
  exact q z ρ1 hz u H' B' g' (n1.trans ((Nxt.self fun a ha => List.mem_append_right _ ha).trans n3)) k3
end
def r2L (r : R2) : List V → Hp → VK → Prop
  | [x, y] => r x y
  | _ => fun _ _ => False
def r1L (r : V → Hp → VK → Prop) : List V → Hp → VK → Prop
  | [x] => r x
  | _ => fun _ _ => False
section
variable {X : Cx} {Z : Ent} {e a b : Expr} {t t' : TE} {pos : Pos}
theorem pe_to (h : PE X e t) (i : ∀ σ H Q, t' σ H Q → t σ H Q) : PE X e t' := ⟨fun pins s σ H Q I q => h.run pins s σ H Q I (i σ H Q q)⟩
theorem pt_to {t t' : TT} (h : PT X e t) (i : ∀ σ H Q, t' σ H Q → t σ H Q) : PT X e t' := ⟨fun pins s σ H Q I q => h.run pins s σ H Q I (i σ H Q q)⟩
theorem pw_to {t t' : TT} (h : PW X e t) (i : ∀ σ H Q, t' σ H Q → t σ H Q) : PW X e t' := ⟨fun whole pins s σ H Q I q => h.run whole pins s σ H Q I (i σ H Q q)⟩
theorem ps_to {st : Stmt} {t t' : TS} (h : PS X st t) (i : ∀ D σ H, t' D σ H → t D σ H) : PS X st t' := ⟨fun pins s σ H D I q => h.run pins s σ H D I (i D σ H q)⟩
theorem pss_to {st : List Stmt} {t t' : TS} (h : PSs X st t) (i : ∀ D σ H, t' D σ H → t D σ H) : PSs X st t' := ⟨fun pins s σ H D I q => h.run pins s σ H D I (i D σ H q)⟩
theorem ad_ex {w : WE} (h : PE X e (tE X.K Z w)) : PE X e (tAD X.K Z (.ex w)) := h
theorem ad_nm (i : Nat) {x : Str} {pos : Pos} (hN : X.N[i]? = some x := by rfl) (hv : Vis X.env.scope x := by first | exact Or.inl rfl | exact Or.inr (Or.inl rfl) | exact Or.inr (Or.inr rfl)) (hd : (x == ("__debug__" : Str)) = false := by decide)
    (hcd : (x == ("__classdict__" : Str)) = false := by decide) : PE X (.Name x pos) (tAD X.K Z (.nm i)) := pe_var hN hv hd hcd
def wC (f : PyData) : WE := fun ρ R => R (.fz f) ρ
theorem tE_const {K : PySem.W.Frag} {v : V} {f : PyData} (r : ∀ B, RF K B v f) : ∀ σ H Q, tE K Z (wC f) σ H Q → tC v σ H Q := fun σ H Q h => by
  obtain ⟨B, ρ, fp, R, k, h, q⟩ := h
  exact q _ ρ h v H B fp (Nxt.refl _ _ _) (k.addF (r B))
theorem e_int {i j pos} : PE X (.Constant (.int i) j pos) (tE X.K Z (wC (.int i))) := pe_to pe_int (tE_const fun _ => .int i)
theorem e_bl {b j pos} : PE X (.Constant (.bool b) j pos) (tE X.K Z (wC (.bool b))) := pe_to pe_bl (tE_const fun _ => .bl b)
theorem e_non {j pos} : PE X (.Constant .none j pos) (tE X.K Z (wC .none)) := pe_to pe_non (tE_const fun _ => .non)
theorem e_gint {x : Str} {i : Int} {u : Value} {pos : Pos} (hg : Gl X x) (hm : X.mg x = some u) (r : RelV (.int i) u) (hd : (x == ("__debug__" : Str)) = false := by decide) : PE X (.Name x pos) (tE X.K Z (wC (.int i))) :=
  pe_to (pe_glob hg hm r hd) (tE_const fun _ => .int i)
def wV (i : Nat) : WE := fun ρ R => asF (nth ρ i) fun f => R (.fz f) ρ
theorem asF_iff {x : O} {k : PyData → Prop} (h : asF x k) : ∃ f, x = .fz f ∧ k f := by
  cases x with
  | fz f => exact ⟨f, rfl, h⟩
  | _ => exact False.elim h
theorem e_var (i : Nat) {x : Str} {pos : Pos} (hN : X.N[i]? = some x := by rfl) (hv : Vis X.env.scope x := by first | exact Or.inl rfl | exact Or.inr (Or.inl rfl) | exact Or.inr (Or.inr rfl)) (hd : (x == ("__debug__" : Str)) = false := by decide)
    (hcd : (x == ("__classdict__" : Str)) = false := by decide) : PE X (.Name x pos) (tE X.K Z (wV i)) := pe_to (pe_var hN hv hd hcd) fun σ H Q h => by
  obtain ⟨B, ρ, fp, R, k, h, q⟩ := h
  obtain ⟨f, e, h⟩ := asF_iff h
  obtain ⟨v, f1, e1, r, _⟩ := k.slot e (fun z => nomatch z)
  cases r with
  | fz r => exact ⟨v, e1, q _ ρ h v H B fp (Nxt.refl _ _ _) (k.addF r)⟩
def wM (i : Nat) : WE := fun ρ R => notHid (nth ρ i) (R (nth ρ i) (ρ.set i .hid))
theorem e_mov (i : Nat) {x : Str} {pos : Pos} (hN : X.N[i]? = some x := by rfl) (hv : Vis X.env.scope x := by first | exact Or.inl rfl | exact Or.inr (Or.inl rfl) | exact Or.inr (Or.inr rfl)) (hd : (x == ("__debug__" : Str)) = false := by decide)
    (hcd : (x == ("__classdict__" : Str)) = false := by decide) : PE X (.Name x pos) (tE X.K Z (wM i)) := pe_to (pe_var hN hv hd hcd) fun σ H Q h => by
  obtain ⟨B, ρ, fp, R, k, h, q⟩ := h
  obtain ⟨hx, h⟩ := notHid_iff h
  have e := nth_some rfl hx
  obtain ⟨v, f1, f2, h1, h2, h3, h4⟩ := k.rs.split e
  obtain ⟨v', f', e1, _, _⟩ := k.slot rfl hx
  rw [valsOf_get, e1] at h1
  have e2 : v' = v := Option.some.inj h1
  subst e2
  refine ⟨v', e1, q _ _ h v' H B (f1 ++ f2) (Nxt.self fun a ha => h4.symm.subset ha) ⟨k.sub, fun j z => ?_, ?_, h4.nodup k.nd, fun a ha => k.out a (h4.symm.subset ha), k.nx.less fun a ha => h4.symm.subset ha⟩⟩
  · cases j with
    | zero => cases z
    | succ j =>
      have := k.un j z
      show (ρ.set i .hid)[j]? = some O.hid
      rw [List.getElem?_set]
      split
      · rename_i hh
        have hj : i < ρ.length := (List.getElem?_eq_some_iff.mp e).1
        rw [if_pos hj]
      · exact this
  · rw [valsOf_cons]
    exact .cons h2 h3
theorem e_bin {op : Operator} {r : R2} {od : List O → (O → Prop) → Prop} {a1 a2 : AD} (ho : OpR X (binaryOp op) r) (hr : Rd X.K (r2L r) od) (ha : PE X a (tAD X.K Z a1)) (hb : PE X b (tAD X.K Z a2)) : PE X (.BinOp a op b pos) (tE X.K Z (wRd [a1, a2] od)) :=
  pe_to (pe_op ho ha hb) fun σ H Q h => rd_glue hr h
theorem e_cmp {op : CmpOp} {r : R2} {od : List O → (O → Prop) → Prop} {a1 a2 : AD} (ho : OpR X (compareOp op) r) (hr : Rd X.K (r2L r) od) (ha : PE X a (tAD X.K Z a1)) (hb : PE X b (tAD X.K Z a2)) (hm : behindInMarks op b = false) : PE X (.Compare a [op] [b] pos) (tE X.K Z (wRd [a1, a2] od)) :=
  pe_to (pe_cmpR ho ha hb hm) fun σ H Q h => rd_glue hr h
theorem e_un {op : UnaryOp} {r : V → Hp → VK → Prop} {od : List O → (O → Prop) → Prop} {a1 : AD} (ho : UnR X (unaryOp op) r) (hr : Rd X.K (r1L r) od) (ha : PE X a (tAD X.K Z a1)) : PE X (.UnaryOp op a pos) (tE X.K Z (wRd [a1] od)) :=
  pe_to (pe_un ho ha) fun σ H Q h => rd_glue hr h
theorem e_ix {r : R2} {od : List O → (O → Prop) → Prop} {a1 a2 : AD} (ho : IxR X r) (hr : Rd X.K (r2L r) od) (ha : PE X a (tAD X.K Z a1)) (hb : PE X b (tAD X.K Z a2)) (hs : PlainIx b) : PE X (.Subscript a b pos) (tE X.K Z (wRd [a1, a2] od)) :=
  pe_to (pe_ix ho ha hb hs) fun σ H Q h => rd_glue hr h
theorem e_callB {x : Str} {p : Pos} {es : List Expr} {as : List AD} {id : String} {r : List V → Hp → VK → Prop} {od : List O → (O → Prop) → Prop} (hc : CallR X (.builtin id) r) (hr : Rd X.K r od) (hg : Gl X x) (hm : X.mg x = none) (hv : bootBuiltins x = some (.builtin id)) (ha : PA X (e :: es) (tADs X.K Z as))
    (hn : x ≠ "__name__" := by decide) (hdb : (x == ("__debug__" : Str)) = false := by decide) (he : starEach (e :: es) X.env = (false, eval e X.env) :: starEach es X.env := by rfl) (hpl : (backTo pos (starEach es X.env)).any (·.1) = false := by rfl) : PE X (.Call (.Name x p) (e :: es) [] pos) (tE X.K Z (wRd as od)) :=
  pe_to (pe_callB hc hg hm hv ha hn hdb he hpl) fun σ H Q h => rd_glue hr h
theorem e_callT {x : Str} {p : Pos} {es : List Expr} {as : List AD} {T : String} {r : List V → Hp → VK → Prop} {od : List O → (O → Prop) → Prop} (hc : CallR X (.type T) r) (hr : Rd X.K r od) (hg : Gl X x) (hm : X.mg x = none) (hv : bootBuiltins x = some (.type T)) (ha : PA X (e :: es) (tADs X.K Z as))
    (hn : x ≠ "__name__" := by decide) (hdb : (x == ("__debug__" : Str)) = false := by decide) (he : starEach (e :: es) X.env = (false, eval e X.env) :: starEach es X.env := by rfl) (hpl : (backTo pos (starEach es X.env)).any (·.1) = false := by rfl) : PE X (.Call (.Name x p) (e :: es) [] pos) (tE X.K Z (wRd as od)) :=
  pe_to (pe_callTy hc hg hm hv ha hn hdb he hpl) fun σ H Q h => rd_glue hr h
end
end Pt
namespace Pt
open PySem PySem.Spec L2
def br (b : Bool) (P Q : Prop) : Prop := match b with
  | true => P
  | false => Q
theorem br_iff {b : Bool} {P Q : Prop} : br b P Q ↔ (b = true → P) ∧ (b = false → Q) := by
  cases b with
  | true => exact ⟨fun h => ⟨fun _ => h, (fun e => nomatch e)⟩, fun h => h.1 rfl⟩
  | false => exact ⟨fun h => ⟨(fun e => nomatch e), fun _ => h⟩, fun h => h.2 rfl⟩
theorem br_mk {b : Bool} {P Q : Prop} (h1 : b = true → P) (h2 : b = false → Q) : br b P Q := br_iff.mpr ⟨h1, h2⟩
def asB : O → (Bool → Prop) → Prop
  | .fz (.bool b), k => k b
  | _, _ => False
theorem asB_iff {x : O} {k : Bool → Prop} (h : asB x k) : ∃ b, x = .fz (.bool b) ∧ k b := by
  cases x with
  | fz f =>
    cases f with
    | bool b => exact ⟨b, rfl, h⟩
    | _ => exact False.elim h
  | _ => exact False.elim h
def asI : O → (Int → Prop) → Prop
  | .fz (.int i), k => k i
  | _, _ => False
theorem asI_iff {x : O} {k : Int → Prop} (h : asI x k) : ∃ b, x = .fz (.int b) ∧ k b := by
  cases x with
  | fz f =>
    cases f with
    | int b => exact ⟨b, rfl, h⟩
    | _ => exact False.elim h
  | _ => exact False.elim h
mutual
def frO : O → Option PyData
  | .fz f => some f
  | .ol xs => (frOs xs).map PyData.list
  | .ot xs => (frOs xs).map PyData.tuple
  | .od kvs => (frKs kvs).map PyData.dict
  | .oi _ _ => none
  | .exn _ _ => none
  | .scr _ => none
  | .lf ds => some (.list ds)
  | .df kvs => some (.dict (kvs.map fun p => (kD p.1, p.2)))
  | .tn ds => some (.tuple ds)
  | .dl _ => none
  | .dt _ => none
  | .dq _ => none
  | .dn _ _ => none
  | .dz _ _ => none
  | .hid => none
def frOs : List O → Option (List PyData)
  | [] => some []
  | x :: xs => (frO x).bind fun d => (frOs xs).map (d :: ·)
def frKs : List (Key × O) → Option (List (PyData × PyData))
  | [] => some []
  | (k, x) :: xs => (frO x).bind fun d => (frKs xs).map ((kD k, d) :: ·)
end
section
variable {K : PySem.W.Frag} {B B' H : Hp}
theorem RFd.of : ∀ {kvs : List (Key × V)} {ds : List (Key × PyData)}, kvs.map (·.1) = ds.map (·.1) → RFs K B (kvs.map (·.2)) (ds.map (·.2)) → RFd K B kvs (ds.map fun p => (kD p.1, p.2))
  | [], [], _, _ => .nil
  | [], _ :: _, e, _ => by cases e
  | _ :: _, [], e, _ => by cases e
  | (k, v) :: kvs, (k2, d) :: ds, e, r => by
    have e1 : k = k2 := (List.cons.inj e).1
    have e2 := (List.cons.inj e).2
    subst e1
    cases r with
    | cons a b => exact .cons a (RFd.of e2 b)
mutual
theorem RO.freeze (s : Sub B B') : ∀ {x : O} {v : V} {fp : List Addr} {f : PyData}, RO K B H v x fp → frO x = some f → (∀ a ∈ fp, ∀ o, H a = some o → B' a = some o) → RF K B' v f
  | .fz _, _, _, _, .fz r, e, _ => by
    cases e
    exact r.mono s
  | .ol xs, _, _, f, .ol h r, e, k => by
    simp only [frO] at e
    cases q : frOs xs with
    | none => rw [q] at e; cases e
    | some ds =>
      rw [q] at e
      cases e
      exact .lst (k _ (List.mem_cons_self ..) _ h) (ROs.freeze s r q fun a ha => k a (List.mem_cons_of_mem _ ha))
  | .ot xs, _, _, f, .ot h r, e, k => by
    simp only [frO] at e
    cases q : frOs xs with
    | none => rw [q] at e; cases e
    | some ds =>
      rw [q] at e
      cases e
      exact .tup (SqT.of (s _ _ h)) (ROs.freeze s r q k)
  | .od kvs, _, _, f, .od (kvs := ks) h e1 r, e, k => by
    simp only [frO] at e
    cases q : frKs kvs with
    | none => rw [q] at e; cases e
    | some ds =>
      rw [q] at e
      cases e
      exact .dic (k _ (List.mem_cons_self ..) _ h) (ROs.freezeK s e1 r q fun a ha => k a (List.mem_cons_of_mem _ ha))
  | .oi _ _, _, _, _, _, e, _ => nomatch e
  | .exn _ _, _, _, _, _, e, _ => nomatch e
  | .scr _, _, _, _, _, e, _ => nomatch e
  | .lf _, _, _, _, .lf h r, e, k => by
    cases e
    exact .lst (k _ (List.mem_cons_self ..) _ h) (r.mono s)
  | .df _, _, _, _, .df h q r, e, k => by
    cases e
    exact .dic (k _ (List.mem_cons_self ..) _ h) (RFd.mono s (RFd.of q r))
  | .tn ds, _, _, _, .tn e1 _ r, e, _ => by
    cases e
    exact .tup (s.sqT e1) (r.mono s)
  | .hid, _, _, _, _, e, _ => nomatch e
  | .dl _, _, _, _, _, e, _ => nomatch e
  | .dt _, _, _, _, _, e, _ => nomatch e
  | .dq _, _, _, _, _, e, _ => nomatch e
  | .dn _ _, _, _, _, _, e, _ => nomatch e
  | .dz _ _, _, _, _, _, e, _ => nomatch e
theorem ROs.freeze (s : Sub B B') : ∀ {xs : List O} {vs : List V} {fp : List Addr} {ds : List PyData}, ROs K B H vs xs fp → frOs xs = some ds → (∀ a ∈ fp, ∀ o, H a = some o → B' a = some o) → RFs K B' vs ds
  | [], _, _, _, .nil, e, _ => by
    cases e
    exact .nil
  | x :: xs, _, _, ds, .cons r t, e, k => by
    simp only [frOs] at e
    cases q : frO x with
    | none => rw [q] at e; cases e
    | some d =>
      rw [q] at e
      cases q2 : frOs xs with
      | none => rw [q2] at e; cases e
      | some es =>
        rw [q2] at e
        cases e
        exact .cons (RO.freeze s r q fun a ha => k a (List.mem_append_left _ ha)) (ROs.freeze s t q2 fun a ha => k a (List.mem_append_right _ ha))
theorem ROs.freezeK (s : Sub B B') : ∀ {kvs : List (Key × O)} {ks : List (Key × V)} {fp : List Addr} {ds : List (PyData × PyData)}, ks.map (·.1) = kvs.map (·.1) → ROs K B H (ks.map (·.2)) (kvs.map (·.2)) fp → frKs kvs = some ds → (∀ a ∈ fp, ∀ o, H a = some o → B' a = some o) → RFd K B' ks ds
  | [], [], _, _, _, _, e, _ => by
    cases e
    exact .nil
  | [], _ :: _, _, _, e1, _, _, _ => by cases e1
  | _ :: _, [], _, _, e1, _, _, _ => by cases e1
  | (k0, x) :: kvs, (k1, v) :: ks, _, ds, e1, r, e, k => by
    have e2 : k1 = k0 := (List.cons.inj e1).1
    have e3 := (List.cons.inj e1).2
    subst e2
    simp only [frKs] at e
    cases q : frO x with
    | none => rw [q] at e; cases e
    | some d =>
      rw [q] at e
      cases q2 : frKs kvs with
      | none => rw [q2] at e; cases e
      | some es =>
        rw [q2] at e
        cases e
        cases r with
        | cons r t => exact .cons (RO.freeze s r q fun a ha => k a (List.mem_append_left _ ha)) (ROs.freezeK s e3 t q2 fun a ha => k a (List.mem_append_right _ ha))
end
end
def addB (B H : Hp) (fp : List Addr) : Hp := fun a => if a ∈ fp then H a else B a
section
variable {K : PySem.W.Frag} {Z : Ent} {B H : Hp} {σ τ : St} {ρ xs : En} {fp f1 f2 : List Addr} {v : V} {x : O} {f : PyData}
theorem Sub.addB (s : Sub B H) (fp : List Addr) : Sub B (addB B H fp) := fun a o e => by
  unfold Pt.addB
  split
  · exact s a o e
  · exact e
theorem Nxt.addB (s : Sub B H) (hn : ∀ a ∈ f1, ∃ o, H a = some o ∧ Pl o) (h : ∀ a ∈ f1, a ∈ fp) (h2 : ∀ a ∈ f2, a ∈ fp) : Nxt B H fp (addB B H f1) H f2 := ⟨s.addB f1, fun _ _ e _ _ => e, fun a e => by
  unfold Pt.addB at e
  split at e
  · rename_i m; exact .inr (.inr (h a m))
  · exact .inl e, fun a ha => .inl (h2 a ha), fun _ e => e, TbK.refl H, fun n a o e => by
  unfold Pt.addB at e
  split at e
  · rename_i m
    obtain ⟨o', e', p⟩ := hn a m
    rw [e'] at e; cases e; exact p.1
  · exact n a o e⟩
theorem Ok.fr1 (k : Ok K Z B H (some v :: σ) (x :: ρ) fp) (e : frO x = some f) : ∃ B' f2, Nxt B H fp B' H f2 ∧ Ok K Z B' H (some v :: σ) (.fz f :: ρ) f2 := by
  obtain ⟨f1, f2, rfl, r, k2, fr⟩ := Ok.frame (τ := [some v]) (xs := [x]) k rfl
  obtain ⟨n1, n2, n3⟩ := List.nodup_append.mp k.nd
  rw [show valsOf [some v] = [v] from rfl] at r
  cases r with
  | @cons _ _ _ _ g1 g2 r t =>
    cases t
    rw [List.append_nil] at *
    have n : Nxt B H (g1 ++ f2) (addB B H g1) H f2 := Nxt.addB k.sub r.liveP (fun a ha => List.mem_append_left _ ha) (fun a ha => List.mem_append_right _ ha)
    refine ⟨addB B H g1, f2, n, ?_⟩
    have k3 : Ok K Z (addB B H g1) H σ ρ f2 := ⟨fun a o e => ?_, k2.un, k2.rs.next (k.sub.addB g1) fun _ _ _ e _ => e, k2.nd, fun a ha => ?_, k.nx.trans n⟩
    · refine k3.addF (r.freeze (k.sub.addB g1) e fun a ha o q => ?_)
      unfold addB
      rw [if_pos ha]
      exact q
    · unfold addB at e
      split at e
      · exact e
      · exact k.sub a o e
    · unfold addB
      rw [if_neg fun h => n3 a h a ha rfl]
      exact k2.out a ha
theorem Ok.frS (k : Ok K Z B H σ ρ fp) {i : Nat} (h : frO (nth ρ i) = some f) : ∃ B' f2, Nxt B H fp B' H f2 ∧ Ok K Z B' H σ (ρ.set i (.fz f)) f2 := by
  have hx : nth ρ i ≠ .hid := fun e => by rw [e] at h; cases h
  have e := nth_some rfl hx
  obtain ⟨v, g1, g2, h1, r, t, p⟩ := k.rs.split e
  have m1 : ∀ a ∈ g1, a ∈ fp := fun a ha => p.symm.subset (List.mem_append_left _ ha)
  have m2 : ∀ a ∈ g2, a ∈ fp := fun a ha => p.symm.subset (List.mem_append_right _ ha)
  obtain ⟨n1, n2, n3⟩ := List.nodup_append.mp (p.nodup k.nd)
  have n : Nxt B H fp (addB B H g1) H g2 := Nxt.addB k.sub r.liveP m1 m2
  have hi : i < ρ.length := (List.getElem?_eq_some_iff.mp e).1
  have rf : RF K (addB B H g1) v f := r.freeze (k.sub.addB g1) h fun a ha o q => by
    unfold addB
    rw [if_pos ha]
    exact q
  have t2 := t.next (B' := addB B H g1) (H' := H) (k.sub.addB g1) fun _ _ _ e _ => e
  obtain ⟨g3, w1, w2⟩ := ROs.put (i := i) t2 (by rw [List.getElem?_set_self hi]) (RO.fz (H := H) rf)
  rw [List.nil_append] at w2
  rw [List.set_set] at w1
  have ev : (valsOf σ).set i v = valsOf σ := by
    obtain ⟨hl, hg⟩ := List.getElem?_eq_some_iff.mp h1
    rw [← hg]
    exact List.set_getElem_self hl
  rw [ev] at w1
  refine ⟨addB B H g1, g3, n.less fun a ha => w2.subset ha, ⟨fun a o e => ?_, fun j z => ?_, w1, w2.symm.nodup n2, fun a ha => ?_, k.nx.trans (n.less fun a ha => w2.subset ha)⟩⟩
  · unfold addB at e
    split at e
    · exact e
    · exact k.sub a o e
  · have q := k.un j z
    by_cases hj : i = j
    · subst hj
      rw [e] at q
      exact absurd (Option.some.inj q) hx
    · rw [List.getElem?_set_ne hj]
      exact q
  · have ha' := w2.subset ha
    unfold addB
    rw [if_neg fun h => n3 a h a ha' rfl]
    exact k.out a (m2 a ha')
theorem Ok.store (k : Ok K Z B H (some v :: σ) (x :: ρ) fp) (i : Nat) : ∃ f2, Ok K Z B H (σ.set i (some v)) (ρ.set i x) f2 ∧ ∀ a ∈ f2, a ∈ fp := by
  by_cases hi : i < ρ.length
  · obtain ⟨f1, f2, rfl, r, k2, _⟩ := Ok.frame (τ := [some v]) (xs := [x]) k rfl
    obtain ⟨n1, n2, n3⟩ := List.nodup_append.mp k.nd
    rw [show valsOf [some v] = [v] from rfl] at r
    cases r with
    | @cons _ _ _ _ g1 g2 r t =>
      cases t
      rw [List.append_nil] at *
      obtain ⟨f3, t1, t2, t3⟩ := k2.rs.forget i
      obtain ⟨f4, w1, w2⟩ := ROs.put (i := i) t1 (by rw [List.getElem?_set_self hi]) r
      rw [List.set_set] at w1
      have hl := k2.len
      have ev : (valsOf σ).set i v = valsOf (σ.set i (some v)) := by
        unfold valsOf
        rw [List.map_set]
        rfl
      rw [ev] at w1
      have hm : ∀ a ∈ f4, a ∈ g1 ++ f2 := fun a ha => by
        rcases List.mem_append.mp (w2.subset ha) with h | h
        · exact List.mem_append_left _ h
        · exact List.mem_append_right _ (t2 a h)
      refine ⟨f4, k.part (fun j z => ?_) w1 (w2.symm.nodup (List.nodup_append.mpr ⟨n1, t3 n2, fun a ha b hb e => n3 a ha b (t2 b hb) e⟩)) hm, hm⟩
      by_cases hj : i = j
      · subst hj
        rw [List.getElem?_set_self (by omega)] at z
        cases z
      · rw [List.getElem?_set_ne hj] at z
        rw [List.getElem?_set_ne hj]
        exact k2.un j z
  · obtain ⟨f2, k2, h⟩ := k.drop1
    have hl := k2.len
    have hl' : σ.length = ρ.length := hl
    rw [List.set_eq_of_length_le (by omega), List.set_eq_of_length_le (by omega)]
    exact ⟨f2, k2, h⟩
end
def Pin (ps : List Nat) (σ σ' : St) : Prop := ∀ k ∈ ps, (σ'[k]? : Option (Option V)) = σ[k]?
theorem Pin.refl (ps : List Nat) (σ : St) : Pin ps σ σ := fun _ _ => rfl
theorem Pin.trans {ps : List Nat} {σ σ1 σ2 : St} (a : Pin ps σ σ1) (b : Pin ps σ1 σ2) : Pin ps σ σ2 := fun k h => (b k h).trans (a k h)
theorem Pin.set {ps : List Nat} {σ : St} {i : Nat} {v : Option V} (h : ps.contains i = false) : Pin ps σ (σ.set i v) := fun k hk => by
  have hne : i ≠ k := fun e => by
    subst e
    have : ps.contains i = true := List.elem_eq_true_of_mem hk
    rw [h] at this; cases this
  exact List.getElem?_set_ne hne
structure Post (K : PySem.W.Frag) (Z : Ent) (ps : List Nat) (B H : Hp) (fp : List Addr) (σ : St) (E : DE) (D : Ends) : Prop where
  nx : ∀ ρ', E.nx ρ' → ∀ σ' H' B' fp', Nxt B H fp B' H' fp' → Ok K Z B' H' σ' ρ' fp' → Pin ps σ σ' → D.nx σ' H'
  rt : ∀ d ρ', E.rt d ρ' → ∀ v σ' H' B' fp', Nxt B H fp B' H' fp' → Ok K Z B' H' (some v :: σ') (d :: ρ') fp' → Pin ps σ σ' → D.rt v H'
  bk : ∀ ρ', E.bk ρ' → ∀ σ' H' B' fp', Nxt B H fp B' H' fp' → Ok K Z B' H' σ' ρ' fp' → Pin ps σ σ' → D.bk σ' H'
  ct : ∀ ρ', E.ct ρ' → ∀ σ' H' B' fp', Nxt B H fp B' H' fp' → Ok K Z B' H' σ' ρ' fp' → Pin ps σ σ' → D.ct σ' H'
  xc : ∀ x ρ', E.xc x ρ' → ∀ cls d σ' H' B' fp', Nxt B H fp B' H' fp' → Ok K Z B' H' σ' ρ' fp' → Pin ps σ σ' → RX K Z.mg B' cls d x → Z.W cls d σ' H'
section
variable {K : PySem.W.Frag} {Z : Ent} {ps : List Nat} {B H B1 H1 : Hp} {fp f1 : List Addr} {σ σ1 : St} {E : DE} {D : Ends}
theorem Post.step (p : Post K Z ps B H fp σ E D) (n : Nxt B H fp B1 H1 f1) (q : Pin ps σ σ1) : Post K Z ps B1 H1 f1 σ1 E D :=
  ⟨fun ρ' h σ' H' B' fp' n' k' q' => p.nx ρ' h σ' H' B' fp' (n.trans n') k' (q.trans q'), fun d ρ' h v σ' H' B' fp' n' k' q' => p.rt d ρ' h v σ' H' B' fp' (n.trans n') k' (q.trans q'),
    fun ρ' h σ' H' B' fp' n' k' q' => p.bk ρ' h σ' H' B' fp' (n.trans n') k' (q.trans q'), fun ρ' h σ' H' B' fp' n' k' q' => p.ct ρ' h σ' H' B' fp' (n.trans n') k' (q.trans q'),
    fun x ρ' h cls d σ' H' B' fp' n' k' q' => p.xc x ρ' h cls d σ' H' B' fp' (n.trans n') k' (q.trans q')⟩
end
def tS (K : PySem.W.Frag) (Z : Ent) (ps : List Nat) (w : WS) : TS := fun D σ H => ∃ B ρ fp E, Ok K Z B H σ ρ fp ∧ w E ρ ∧ Post K Z ps B H fp σ E D
section
variable {X : Cx} {Z : Ent} {ps : List Nat} {e a b : Expr} {pos : Pos} {w : WE} {st : Stmt} {sts sts2 : List Stmt} {s s2 : WS} {wt wt2 : WT}
def wTb (w : WE) : WT := fun ρ R => w ρ fun d ρ1 => asB d fun b => R b ρ1
theorem tT_tE {K : PySem.W.Frag} {σ : St} {H : Hp} {Q : Bool → Hp → Prop} (h : tT K Z (wTb w) σ H Q) : tE K Z w σ H fun x H' => ∃ k, x = .bl k ∧ Q k H' := by
  obtain ⟨B, ρ, fp, R, k, h, q⟩ := h
  refine ⟨B, ρ, fp, _, k, h, fun d ρ' h1 v H' B' fp' n k1 => ?_⟩
  obtain ⟨b, rfl, h2⟩ := asB_iff h1
  have r := k1.headF
  obtain ⟨f2, k2, hs⟩ := k1.drop1
  cases r
  exact ⟨b, rfl, q b ρ' h2 H' B' f2 (n.less hs) k2⟩
theorem t_val (h : PE X e (tE X.K Z w)) (he : ∀ whole, isTrue e X.env whole = (do let v ← whole; standAt e.pos; holding [v] (truthy v)) := by intro _; rfl) : PT X e (tT X.K Z (wTb w)) :=
  pt_to (pt_val h he) fun σ H Q q => tT_tE q
theorem t_cmp {op : CmpOp} {r : R2} {od : List O → (O → Prop) → Prop} {a1 a2 : AD} (ho : OpR X (compareOp op) r) (hr : Rd X.K (r2L r) od) (ha : PE X a (tAD X.K Z a1)) (hb : PE X b (tAD X.K Z a2)) (hm : behindInMarks op b = false) : PT X (.Compare a [op] [b] pos) (tT X.K Z (wTb (wRd [a1, a2] od))) :=
  pt_to (pt_cmpR ho ha hb hm) fun σ H Q q => rd_glue hr (tT_tE q)
def wTnot (w : WT) : WT := fun ρ R => w ρ fun b ρ1 => R (!b) ρ1
theorem t_not (h : PT X a (tT X.K Z wt)) : PT X (.UnaryOp .Not a pos) (tT X.K Z (wTnot wt)) := pt_to (pt_not h) fun σ H Q q => by
  obtain ⟨B, ρ, fp, R, k, h, q⟩ := q
  exact ⟨B, ρ, fp, _, k, h, fun b ρ' h1 H' B' fp' n k1 => q (!b) ρ' h1 H' B' fp' n k1⟩
def wTand (w w2 : WT) : WT := fun ρ R => w ρ fun b ρ1 => br b (w2 ρ1 R) (R false ρ1)
def wTor (w w2 : WT) : WT := fun ρ R => w ρ fun b ρ1 => br b (R true ρ1) (w2 ρ1 R)
theorem tT_or {K : PySem.W.Frag} {σ : St} {H : Hp} {Q : Bool → Hp → Prop} (h : tT K Z (wTor wt wt2) σ H Q) : tOr (tT K Z wt) (tT K Z wt2) σ H Q := by
  obtain ⟨B, ρ, fp, R, k, h, q⟩ := h
  refine ⟨B, ρ, fp, _, k, h, fun b ρ' h1 H' B' fp' n k1 => ?_⟩
  cases b with
  | false =>
    rw [if_neg Bool.false_ne_true]
    exact ⟨B', ρ', fp', R, k1, h1, fun b ρ2 h2 H2 B2 fp2 n2 k2 => q b ρ2 h2 H2 B2 fp2 (n.trans n2) k2⟩
  | true =>
    rw [if_pos rfl]
    exact q true ρ' h1 H' B' fp' n k1
variable {rest : List Expr}
theorem tw_or1 (ha : PT X a (tT X.K Z wt)) : PW X (.BoolOp .Or [a] pos) (tT X.K Z wt) := pw_or1 ha
theorem tw_or (ha : PT X a (tT X.K Z wt)) (hb : PW X (.BoolOp .Or (b :: rest) pos) (tT X.K Z wt2)) : PW X (.BoolOp .Or (a :: b :: rest) pos) (tT X.K Z (wTor wt wt2)) := pw_to (pw_or ha hb) fun _ _ _ q => tT_or q
def wAndV (w w2 : WE) : WE := fun ρ R => w ρ fun d ρ1 => asB d fun b => br b (w2 ρ1 R) (R (.fz (.bool false)) ρ1)
def wOrV (w w2 : WE) : WE := fun ρ R => w ρ fun d ρ1 => asB d fun b => br b (R (.fz (.bool true)) ρ1) (w2 ρ1 R)
def wNotV (w : WE) : WE := fun ρ R => w ρ fun d ρ1 => asB d fun b => R (.fz (.bool (!b))) ρ1
variable {w2 : WE}
theorem e_one {op} (h : PE X a (tE X.K Z w)) : PE X (.BoolOp op [a] pos) (tE X.K Z w) := pe_one h
theorem e_and (ha : PE X a (tE X.K Z w)) (hb : PE X (.BoolOp .And (b :: rest) pos) (tE X.K Z w2)) : PE X (.BoolOp .And (a :: b :: rest) pos) (tE X.K Z (wAndV w w2)) := pe_to (pe_and ha hb) fun σ H Q q => by
  obtain ⟨B, ρ, fp, R, k, h, q⟩ := q
  refine ⟨B, ρ, fp, _, k, h, fun d ρ' h1 v H' B' fp' n k1 => ?_⟩
  obtain ⟨c, rfl, h2⟩ := asB_iff h1
  have r := k1.headF
  obtain ⟨f2, k2, hs⟩ := k1.drop1
  cases r
  refine ⟨c, rfl, ?_⟩
  cases c with
  | true =>
    rw [if_pos rfl]
    exact ⟨B', ρ', f2, R, k2, h2, fun d ρ2 h3 v H2 B2 fp2 n2 k3 => q d ρ2 h3 v H2 B2 fp2 ((n.less hs).trans n2) k3⟩
  | false =>
    rw [if_neg Bool.false_ne_true]
    exact q _ ρ' h2 _ H' B' f2 (n.less hs) (k2.addF (.bl false))
theorem e_not (ha : PE X a (tE X.K Z w)) : PE X (.UnaryOp .Not a pos) (tE X.K Z (wNotV w)) := pe_to (pe_not ha) fun σ H Q q => by
  obtain ⟨B, ρ, fp, R, k, h, q⟩ := q
  refine ⟨B, ρ, fp, _, k, h, fun d ρ' h1 v H' B' fp' n k1 => ?_⟩
  obtain ⟨c, rfl, h2⟩ := asB_iff h1
  have r := k1.headF
  obtain ⟨f2, k2, hs⟩ := k1.drop1
  cases r
  exact ⟨c, rfl, q _ ρ' h2 _ H' B' f2 (n.less hs) (k2.addF (.bl _))⟩
def wIf (wt : WT) (w w2 : WE) : WE := fun ρ R => wt ρ fun b ρ1 => br b (w ρ1 R) (w2 ρ1 R)
def sNext : WS := fun E ρ => E.nx ρ
def sSeq (s s2 : WS) : WS := fun E ρ => s { E with nx := s2 E } ρ
theorem ss_nil : PSs X [] (tS X.K Z ps sNext) := pss_to pss_nil fun D σ H h => by
  obtain ⟨B, ρ, fp, E, k, h, p⟩ := h
  exact p.nx ρ h σ H B fp (Nxt.refl _ _ _) k (Pin.refl _ _)
theorem ss_one (h : PS X st (tS X.K Z ps s)) : PSs X [st] (tS X.K Z ps s) := pss_one h
theorem ss_cons (h : PS X st (tS X.K Z ps s)) (h2 : PSs X sts (tS X.K Z ps s2)) : PSs X (st :: sts) (tS X.K Z ps (sSeq s s2)) := pss_to (pss_cons h h2) fun D σ H q => by
  obtain ⟨B, ρ, fp, E, k, q, p⟩ := q
  exact ⟨B, ρ, fp, _, k, q, ⟨fun ρ' h σ' H' B' fp' n k' pn => ⟨B', ρ', fp', E, k', h, p.step n pn⟩, p.rt, p.bk, p.ct, p.xc⟩⟩
def sBreak : WS := fun E ρ => E.bk ρ
def sCont : WS := fun E ρ => E.ct ρ
def sNever : WS := fun _ _ => False
theorem s_never : PS X st (tS X.K Z ps sNever) := ps_to ps_never fun D σ H h => by
  obtain ⟨B, ρ, fp, E, k, h, p⟩ := h
  exact h
def sDrop (w : WE) : WS := fun E ρ => w ρ fun _ ρ1 => E.nx ρ1
theorem s_expr (h : PE X e (tE X.K Z w)) (hs : swapsWith e none pos.line X.env = pure false := by rfl) : PS X (.Expr e pos) (tS X.K Z ps (sDrop w)) := ps_to (ps_expr h hs) fun D σ H q => by
  obtain ⟨B, ρ, fp, E, k, q, p⟩ := q
  refine ⟨B, ρ, fp, _, k, q, fun d ρ' h1 v H' B' fp' n k1 => ?_⟩
  obtain ⟨f2, k2, hs⟩ := k1.drop1
  exact p.nx ρ' h1 σ H' B' f2 (n.less hs) k2 (Pin.refl _ _)
def sRet (w : WE) : WS := fun E ρ => w ρ fun d ρ1 => E.rt d ρ1
theorem s_ret (h : PE X e (tE X.K Z w)) : PS X (.Return (some e) pos) (tS X.K Z ps (sRet w)) := ps_to (ps_ret h) fun D σ H q => by
  obtain ⟨B, ρ, fp, E, k, q, p⟩ := q
  exact ⟨B, ρ, fp, _, k, q, fun d ρ' h1 v H' B' fp' n k1 => p.rt d ρ' h1 v σ H' B' fp' n k1 (Pin.refl _ _)⟩
def sRetN : WS := fun E ρ => E.rt (.fz .none) ρ
def sIf (wt : WT) (s s2 : WS) : WS := fun E ρ => wt ρ fun b ρ1 => br b (s E ρ1) (s2 E ρ1)
theorem s_if {c : Expr} (hc : PT X c (tT X.K Z wt)) (ha : PSs X sts (tS X.K Z ps s)) (hb : PSs X sts2 (tS X.K Z ps s2)) : PS X (.If c sts sts2 pos) (tS X.K Z ps (sIf wt s s2)) := ps_to (ps_if hc ha hb) fun D σ H q => by
  obtain ⟨B, ρ, fp, E, k, q, p⟩ := q
  refine ⟨B, ρ, fp, _, k, q, fun c ρ' h1 H' B' fp' n k1 => ?_⟩
  cases c with
  | true =>
    rw [if_pos rfl]
    exact ⟨B', ρ', fp', E, k1, h1, p.step n (Pin.refl _ _)⟩
  | false =>
    rw [if_neg Bool.false_ne_true]
    exact ⟨B', ρ', fp', E, k1, h1, p.step n (Pin.refl _ _)⟩
def sStore (i : Nat) (w : WE) : WS := fun E ρ => w ρ fun d ρ1 => E.nx (ρ1.set i d)
theorem sStore_ok {K : PySem.W.Frag} {i : Nat} {D : Ends} {σ : St} {H : Hp} (hp : ps.contains i = false) (q : tS K Z ps (sStore i w) D σ H) : tE K Z w σ H fun v H1 => D.nx (σ.set i (some v)) H1 := by
  obtain ⟨B, ρ, fp, E, k, q, p⟩ := q
  refine ⟨B, ρ, fp, _, k, q, fun d ρ' h1 v H' B' fp' n k1 => ?_⟩
  obtain ⟨f2, k2, hs⟩ := k1.store i
  exact p.nx _ h1 _ H' B' f2 (n.less hs) k2 (Pin.set hp)
theorem s_set {i : Nat} {x : Str} {pos' : Pos} (hN : X.N.Nodup) (hi : X.N[i]? = some x) (hx : Loc X.env.scope x) (hp : ps.contains i = false) (he : PE X e (tE X.K Z w)) (hs : swapsWith e (some (.Name x pos')) pos.line X.env = pure false := by rfl)
    (hf : X.fn x = true ∨ X.env.scope.names.lookup x = some .local := by first | exact .inl rfl | exact .inr rfl | assumption)
    (hw : swappedStores [.Name x pos'] e X.env = pure none := by rfl) : PS X (.Assign [.Name x pos'] e pos) (tS X.K Z ps (sStore i w)) :=
  ps_to (ps_asg he (pg_name hN hi hx hf) hs hw) fun D σ H q => sStore_ok hp q
def wFz (w : WE) : WE := fun ρ R => w ρ fun d ρ1 => ∃ f, frO d = some f ∧ R (.fz f) ρ1
theorem e_fz (h : PE X e (tE X.K Z w)) : PE X e (tE X.K Z (wFz w)) := pe_to h fun σ H Q q => by
  obtain ⟨B, ρ, fp, R, k, h, q⟩ := q
  refine ⟨B, ρ, fp, _, k, h, fun d ρ' h1 v H' B' fp' n k1 => ?_⟩
  obtain ⟨f, e, h2⟩ := h1
  obtain ⟨B2, f2, n2, k2⟩ := k1.fr1 e
  exact q _ ρ' h2 v H' B2 f2 (n.trans n2) k2
def sGf (i : Nat) (s : WS) : WS := fun E ρ => ∃ f, frO (nth ρ i) = some f ∧ s E (ρ.set i (.fz f))
theorem tS_gf {K : PySem.W.Frag} {i : Nat} {D : Ends} {σ : St} {H : Hp} (q : tS K Z ps (sGf i s) D σ H) : tS K Z ps s D σ H := by
  obtain ⟨B, ρ, fp, E, k, q, p⟩ := q
  obtain ⟨f, e, h⟩ := q
  obtain ⟨B2, f2, n2, k2⟩ := k.frS e
  exact ⟨B2, _, f2, E, k2, h, p.step n2 (Pin.refl _ _)⟩
theorem s_gf (i : Nat) (h : PS X st (tS X.K Z ps s)) : PS X st (tS X.K Z ps (sGf i s)) := ps_to h fun _ _ _ q => tS_gf q
def whileN (wt : WT) (s : WS) (E : DE) : Nat → En → Prop
  | 0, _ => False
  | n + 1, ρ => wt ρ fun b ρ1 => br b (s { E with nx := whileN wt s E n, ct := whileN wt s E n, bk := E.nx } ρ1) (E.nx ρ1)
def sWhile (wt : WT) (s : WS) : WS := fun E ρ => ∃ n, whileN wt s E n ρ
theorem s_while {c : Expr} (hp : PassesOwn (model X.prog X.w) X.A X.env X.xe) (hc : PT X c (tT X.K Z wt)) (hb : PSs X sts (tS X.K Z ps s)) : PS X (.While c sts [] pos) (tS X.K Z ps (sWhile wt s)) := ps_to (ps_while hp hc hb) fun D σ H q => by
  obtain ⟨B, ρ, fp, E, k, ⟨m, q⟩, p⟩ := q
  refine ⟨fun m σ' H' => ∃ B' ρ' fp', Nxt B H fp B' H' fp' ∧ Ok X.K Z B' H' σ' ρ' fp' ∧ Pin ps σ σ' ∧ whileN wt s E m ρ', ⟨m, B, ρ, fp, Nxt.refl _ _ _, k, Pin.refl _ _, q⟩, fun m σ' H' hW => ?_⟩
  obtain ⟨B1, ρ1, f1, n1, k1, pn, h⟩ := hW
  cases m with
  | zero => exact False.elim h
  | succ m =>
    refine ⟨B1, ρ1, f1, _, k1, h, fun b ρ2 h2 H2 B2 f2 n2 k2 => ?_⟩
    cases b with
    | true =>
      rw [if_pos rfl]
      refine ⟨fun σ' H' => ∃ B' ρ' fp', Nxt B H fp B' H' fp' ∧ Ok X.K Z B' H' σ' ρ' fp' ∧ Pin ps σ σ' ∧ whileN wt s E m ρ', fun σ3 H3 h3 => ⟨m, Nat.lt_succ_self m, h3⟩, ?_⟩
      have go : ∀ ρ', whileN wt s E m ρ' → ∀ σ' H' B' fp', Nxt B2 H2 f2 B' H' fp' → Ok X.K Z B' H' σ' ρ' fp' → Pin ps σ' σ' → Pin ps σ σ' → ∃ B' ρ' fp', Nxt B H fp B' H' fp' ∧ Ok X.K Z B' H' σ' ρ' fp' ∧ Pin ps σ σ' ∧ whileN wt s E m ρ' :=
        fun ρ' h' σ' H' B' fp' n' k' _ p' => ⟨B', ρ', fp', (n1.trans n2).trans n', k', p', h'⟩
      have p2 := p.step (n1.trans n2) pn
      refine ⟨B2, ρ2, f2, _, k2, h2, ⟨fun ρ' h' σ3 H' B' fp' n' k' q' => ⟨B', ρ', fp', (n1.trans n2).trans n', k', pn.trans q', h'⟩, p2.rt, p2.nx, fun ρ' h' σ3 H' B' fp' n' k' q' => ⟨B', ρ', fp', (n1.trans n2).trans n', k', pn.trans q', h'⟩, p2.xc⟩⟩
    | false =>
      rw [if_neg Bool.false_ne_true]
      exact p.nx ρ2 h2 σ' H2 B2 f2 (n1.trans n2) k2 pn
end
end Pt
namespace Pt
open PySem PySem.Spec L2
open PyProof.Rows (envOfC IntsAre AllBare)
structure FnG (P : Program) (w : World) (K : PySem.W.Frag) (mg : Str → Option Value) (base : Heap) (CX : CXT) (k : Nat) (f : Addr) (fd : FuncData) (ps : List Str) (sp : Sp) : Prop where
  len : ∀ vs H Q E, sp vs H Q E → vs.length = ps.length
  run : ∀ (A : Around) (outer : List Env) (s : Shared) (H : Hp) (args : Args) (us : List Value) (vs : List V) (Q : VK) (E : XK), A.guards = some [] → Room k A → Env0 P w K mg base A outer s H →
    BindsTo s fd args (ps.zip us) → Vals vs us → sp vs H Q E → codeAny (model P w) A (.call (.ref f) args) (CR CX outer P w H s Q E) s
section
variable {P : Program} {w : World} {K : PySem.W.Frag} {mg : Str → Option Value} {base : Heap} {CX : CXT} {k j : Nat} {f : Addr} {fd : FuncData} {ps : List Str} {sp sp' : Sp}
theorem FnG.mono (F : FnG P w K mg base CX j f fd ps sp) (h : j ≤ k) : FnG P w K mg base CX k f fd ps sp :=
  ⟨F.len, fun A outer s H args us vs Q E g r e b v q => F.run A outer s H args us vs Q E g (r.mono h) e b v q⟩
theorem FnG.imp (F : FnG P w K mg base CX k f fd ps sp) (h : ∀ vs H Q E, sp' vs H Q E → sp vs H Q E) : FnG P w K mg base CX k f fd ps sp' :=
  ⟨fun vs H Q E q => F.len vs H Q E (h vs H Q E q), fun A outer s H args us vs Q E g r e b v q => F.run A outer s H args us vs Q E g r e b v (h vs H Q E q)⟩
theorem FnG.of {x qual : Str} {st : Stmt} {N qs : List Str} (F : Fun K x qual st f fd) (S : FnScope N qs (defScope st)) (len : ∀ vs H Q E, sp vs H Q E → vs.length = qs.length)
    (hb : ∀ (cdv : Value) (A : Around) (outer : List Env) (s : Shared) (H : Hp) (vs : List V) (Q : VK) (E : XK), fd.code = cdv → A.guards = some [] → Room k (A.deeper (envOfC qual (defScope st) s.heap.objs.size f cdv)) → sp vs H Q E →
      ∃ t, PSs (cxOf CX P w K mg base N qual (defScope st) f cdv A outer s H E) (defBody st) t ∧ t { nx := fun _ H' => Q .non H', rt := Q } (L2.start N vs) H) : FnG P w K mg base CX (k + 1) f fd qs sp := by
  obtain ⟨oc, od, kV, doc, pm, an, cdv, ct, osl, rfl, lk, hcd⟩ := F.ex
  refine ⟨len, fun A outer s H args us vs Q E hgd hr e0 hbi r hsp => ?_⟩
  have n1 := len _ _ _ _ hsp
  have inK : K.In s.heap := e0.mod.kin.keeps fun b o e => (e0.bs b o e).1
  have nolim : s.heap.NoLimit := e0.mod.nolimit.keeps fun b o e => (e0.bs b o e).1
  have kinds : ∀ y ∈ qs.zip us, (defScope st).names.lookup y.1 = some .local ∨ ((defScope st).names.lookup y.1 = some .cell ∧ ((cellsFrom (s.heap.objs.size + 1) (defScope st).names []).lookup y.1).isSome = true) := fun ⟨n, v⟩ hy => by
    have hm := S.par n (List.of_mem_zip hy).1
    cases hm with
    | inl q => exact Or.inl q
    | inr q => exact Or.inr ⟨q, PySem.W.cellsFrom_some _ _ _ (Or.inl q)⟩
  refine codeAny_call_function hr.depth (inK _ _ lk) rfl S.co S.gen rfl (PySem.W.codeRec_of inK hcd) (hbi _ _ _ _ ?_)
  refine wpAny_newFunctionEnv_cells S.kind kinds fun env eq s1 cells => ?_
  subst eq
  refine ⟨nolim.keeps cells.toInCall.keep, codeAny_func ?_⟩
  obtain ⟨t, ht, hq⟩ := hb cdv A outer s H vs Q E rfl hgd (hr.deeper _) hsp
  have J0 : L2.Inv (cxOf CX P w K mg base N qual (defScope st) f cdv A outer s H E) [] (L2.start N vs) H s1 := inv_start S hr.hd e0 n1 r cells
  refine wpAny_mono (ht.run [] s1 (L2.start N vs) H _ J0 hq) (fun fl s' hs => ?_) fun e s' hs => hs
  have close : ∀ {σ' : L2.St} {H' : Hp} {v : V} {u : Value}, L2.Inv (cxOf CX P w K mg base N qual (defScope st) f cdv A outer s H E) [] σ' H' s' → RelV v u → Q v H' → CE outer P w H s Q u s' :=
    fun {σ' H' v u} J rv q => ⟨v, H', J.os, J.bare, J.base, J.hok, rv, q⟩
  cases fl with
  | ret u => obtain ⟨v, σ', H', J, rv, q⟩ := hs; exact close J rv q
  | next => obtain ⟨σ', H', J, q⟩ := hs; exact close (v := V.non) (u := Value.none) J rfl q
  | brk => obtain ⟨_, _, _, q⟩ := hs; exact q.elim
  | cont => obtain ⟨_, _, _, q⟩ := hs; exact q.elim
end
section
variable {X : Cx} {CX : CXT} {k : Nat} {f C : Addr} {fd : FuncData} {ps : List Str} {sp : Sp} {dvs : List V} {ds : List Value} {E : XK} {x m : Str} {p pos apos : Pos} {e o : Expr} {es : List Expr} {ta : TE} {t : TA}
theorem g_run {pins : List (Addr × Obj)} {σ : L2.St} {H : Hp} {s : Shared} {Q : VK} {us : List Value} {vs : List V} (F : FnG X.prog X.w X.K X.mg X.base CX k f fd ps sp) (gd : X.A.guards = some []) (hr : Room k X.A) (hb : Binds X.K fd ps ds) (hd : Vals dvs ds)
    (hx : Passes CX X E) (I : L2.Inv X pins σ H s) (r : Vals vs us) (h : sp (vs ++ dvs) H Q E) : wpAny (model X.prog X.w) X.A (call (.ref f) us) (EP X pins σ Q) X.xe s := by
  have rr : Vals (vs ++ dvs) (us ++ ds) := r.append hd
  have n1 : (us ++ ds).length = ps.length := by rw [← rr.length]; exact F.len _ _ _ _ h
  refine wpAny_call (codeAny_mono (F.run X.A X.stack s H ⟨us, []⟩ (us ++ ds) (vs ++ dvs) Q E gd hr I.env0 (hb s us I.kIn n1) rr h) fun r s' hq => ?_)
  cases r with
  | error e => exact hx pins σ H s e s' I hq
  | ok fl =>
    cases fl with
    | ret u => exact I.after hq
    | next => exact hq.elim
    | brk => exact hq.elim
    | cont => exact hq.elim
theorem g_call (F : FnG X.prog X.w X.K X.mg X.base CX k f fd ps sp) (gd : X.A.guards = some []) (hr : Room k X.A) (hg : Gl X x) (hm : X.mg x = some (.ref f)) (hk : PySem.W.keepIn X.K (.ref f) = true) (hb : Binds X.K fd ps ds) (hd : Vals dvs ds) (hx : Passes CX X E)
    (ha : PA X (e :: es) t) (hdb : (x == ("__debug__" : Str)) = false := by decide) (he : starEach (e :: es) X.env = (false, eval e X.env) :: starEach es X.env := by rfl) (hpl : (backTo pos (starEach es X.env)).any (·.1) = false := by rfl) : PE X (.Call (.Name x p) (e :: es) [] pos) (tCall sp dvs E t) :=
  ⟨fun pins s σ H Q I h => wpAny_Call_Name_kw (ld_glob I hg hm (PySem.W.callWith_K (h₀ := X.base) I.ok.mod.kin hk (thn (ha.run pos pins s σ H _ I h) fun us s1 ⟨vs, H1, I1, r, q⟩ => ⟨I1.kIn, g_run F gd hr hb hd hx I1 r q⟩) he hpl) hdb)⟩
end
section
variable {P : Program} {w : World} {K : PySem.W.Frag} {mg mb : Str → Option Value} {CX : CXT} {k : Nat} {fa a : Addr} {fd : FuncData} {x : Str} {sp : Sp} {s1 : Shared} {vs : List Value} {ns : List Int}
end
end Pt
namespace Pt
open PySem PySem.Spec L2
abbrev WF := List O → (O → En → Prop) → Prop
def keepP (ps : List Nat) : Nat → Nat → List O → List O
  | _, 0, _ => []
  | i, n + 1, [] => .hid :: keepP ps (i + 1) n []
  | i, n + 1, x :: r => (if ps.contains i then x else .hid) :: keepP ps (i + 1) n r
def hd0 : List O → O
  | [] => .hid
  | x :: _ => x
theorem keepP_cons (ps : List Nat) (i n : Nat) (r : List O) : keepP ps i (n + 1) r = (if ps.contains i then hd0 r else .hid) :: keepP ps (i + 1) n r.tail := by
  cases r with
  | nil =>
    show O.hid :: keepP ps (i + 1) n [] = _
    split <;> rfl
  | cons x r => rfl
section
variable {K : PySem.W.Frag} {B H : Hp}
theorem keepP_ok {ps : List Nat} : ∀ {n i : Nat} {vs us : List V} {r : List O} {fp : List Addr}, ROs K B H us r fp → vs.length = n → (∀ j, j < n → ps.contains (i + j) = true → us[j]? = vs[j]?) →
    ∃ f2, ROs K B H vs (keepP ps i n r) f2 ∧ (∀ a ∈ f2, a ∈ fp) ∧ (fp.Nodup → f2.Nodup)
  | 0, i, [], us, r, fp, _, _, _ => ⟨[], .nil, fun _ h => (List.not_mem_nil h).elim, fun _ => List.nodup_nil⟩
  | 0, i, _ :: _, us, r, fp, _, e, _ => by cases e
  | n + 1, i, [], us, r, fp, _, e, _ => by cases e
  | n + 1, i, v :: vs, [], [], _, .nil, e, h => by
    obtain ⟨f2, h1, h2, h3⟩ := keepP_ok (n := n) (i := i + 1) (vs := vs) (us := []) (r := []) (ROs.nil (K := K) (B := B) (H := H)) (Nat.succ.inj e) fun j hj hc => by
      have := h (j + 1) (by omega) (by rw [← hc]; congr 1; omega)
      simpa using this
    exact ⟨[] ++ f2, .cons .hid h1, h2, h3⟩
  | n + 1, i, v :: vs, u :: us, x :: r, _, .cons (f1 := g1) (f2 := g2) a b, e, h => by
    obtain ⟨f2, h1, h2, h3⟩ := keepP_ok (n := n) (i := i + 1) b (Nat.succ.inj e) fun j hj hc => by
      have := h (j + 1) (by omega) (by rw [← hc]; congr 1; omega)
      simpa using this
    by_cases hc : ps.contains i = true
    · have e0 := h 0 (by omega) hc
      have e1 : u = v := by simpa using e0
      subst e1
      refine ⟨g1 ++ f2, by unfold keepP; rw [if_pos hc]; exact .cons a h1, fun y hy => ?_, fun nd => ?_⟩
      · rcases List.mem_append.mp hy with q | q
        · exact List.mem_append_left _ q
        · exact List.mem_append_right _ (h2 y q)
      · obtain ⟨n1, n2, n3⟩ := List.nodup_append.mp nd
        exact List.nodup_append.mpr ⟨n1, h3 n2, fun a ha b hb e => n3 a ha b (h2 b hb) e⟩
    · refine ⟨[] ++ f2, by unfold keepP; rw [if_neg hc]; exact .cons .hid h1, fun y hy => List.mem_append_right _ (h2 y hy), fun nd => h3 (List.nodup_append.mp nd).2.1⟩
end
abbrev ent0 (T : List Addr) (B H : Hp) (fp : List Addr) (tb : ∀ P ∈ T, LamX.TabS H P q0) (nt : NTB B) (W : WX) (mg : Str → Option Value) : Ent := ⟨B, H, fp, T, tb, nt, W, mg⟩
theorem passLN {X : Cx} : Passes (L2N.CX X.prog X.w) X E0 := fun _ _ _ _ _ _ _ c => by
  obtain ⟨_, _, _, _, _, _, _, _, _, _, _, _, h⟩ := c
  exact h.elim
abbrev WFX := List O → (Ex → En → Prop) → (O → En → Prop) → Prop
def spAt (K : PySem.W.Frag) (T : List Addr) (mg : Str → Option Value) (n : Nat) (ps : List Nat) (g : WFX) (B : Hp) : Sp := fun vs H Q E => ∃ ds fp R Rx, ∃ (tb : ∀ P ∈ T, LamX.TabS H P q0) (nt : NTB B), Ok K (ent0 T B H fp tb nt (fun c d _ H => E c d H) mg) B H (vs.map some) ds fp ∧ g ds Rx R ∧
  (∀ d ρ, R d ρ → ∀ v H' B' fp', Nxt B H fp B' H' fp' → Ok K (ent0 T B H fp tb nt (fun c d _ H => E c d H) mg) B' H' (some v :: vs.map some) (d :: keepP ps 0 n ρ) fp' → Q v H') ∧
  ∀ x ρ, Rx x ρ → ∀ cls d H' B' fp', Nxt B H fp B' H' fp' → Ok K (ent0 T B H fp tb nt (fun c d _ H => E c d H) mg) B' H' (vs.map some) (keepP ps 0 n ρ) fp' → RX K mg B' cls d x → E cls d H'
def spX (K : PySem.W.Frag) (T : List Addr) (mg : Str → Option Value) (n : Nat) (ps : List Nat) (g : WFX) : Sp := fun vs H Q E => vs.length = n ∧ ∃ B, spAt K T mg n ps g B vs H Q E
def noX (g : WF) : WFX := fun ds _ R => g ds R
abbrev spD (K : PySem.W.Frag) (T : List Addr) (mg : Str → Option Value) (n : Nat) (ps : List Nat) (g : WF) : Sp := spX K T mg n ps (noX g)
theorem valsOf_some (vs : List V) : valsOf (vs.map some) = vs := by
  unfold valsOf
  rw [List.map_map]
  exact List.map_id'' (fun _ => rfl) vs
section
variable {K : PySem.W.Frag} {Z : Ent} {B H : Hp} {n : Nat} {ps : List Nat} {vs : List V} {N : List Str}
theorem keep_fin {σ' : St} {ρ' : En} {f2 : List Addr} (hl : vs.length = n) (hn : n ≤ N.length) (hps : ∀ i ∈ ps, i < n) (k2 : Ok K Z B H σ' ρ' f2) (pn : Pin ps (L2.start N vs) σ') : ∃ f3, Ok K Z B H (vs.map some) (keepP ps 0 n ρ') f3 ∧ ∀ a ∈ f3, a ∈ f2 := by
  obtain ⟨f3, h1, h2, h3⟩ := keepP_ok (ps := ps) (n := n) (i := 0) (vs := vs) k2.rs hl fun j hj hc => by
    rw [Nat.zero_add] at hc
    have hm : j ∈ ps := List.contains_iff_mem.mp hc
    have e := pn j hm
    rw [valsOf_get, e]
    unfold L2.start
    rw [List.getElem?_append_left (by rw [List.length_map]; omega), List.getElem?_map]
    cases vs[j]? <;> rfl
  refine ⟨f3, k2.part (fun j z => ?_) (by rw [valsOf_some]; exact h1) (h3 k2.nd) h2, h2⟩
  exfalso
  have z' : ((vs.map some)[j]? : Option (Option V)) = some none := z
  rw [List.getElem?_map] at z'
  cases q : vs[j]? with
  | none => rw [q] at z'; cases z'
  | some y => rw [q] at z'; cases z'
end
theorem fn_fin_at {K : PySem.W.Frag} {T : List Addr} {mg : Str → Option Value} {N : List Str} {n : Nat} {ps : List Nat} {g : WFX} {s : WS} {vs : List V} {H B : Hp} {Q : VK} {E : XK} (hn : n ≤ N.length) (hps : ∀ i ∈ ps, i < n) (hl : vs.length = n) (h : spAt K T mg n ps g B vs H Q E)
    (hg : ∀ ds Rx R, ds.length = n → g ds Rx R → ∃ Rx', (∀ x ρ, Rx' x ρ → Rx x ρ) ∧ s ⟨fun ρ => R (.fz .none) ρ, R, fun _ => False, fun _ => False, Rx'⟩ (ds ++ List.replicate (N.length - n) .hid)) :
    ∃ Z : Ent, Z.B = B ∧ (Z.W = fun c d _ H => E c d H) ∧ Z.mg = mg ∧ Z.T = T ∧ tS K Z ps s { nx := fun _ H' => Q .non H', rt := Q } (L2.start N vs) H := by
  obtain ⟨ds, fp, R, Rx, tb, nt, k, hgd, q, qx⟩ := h
  have hds : ds.length = n := by
    have := k.len
    rw [List.length_map] at this
    omega
  obtain ⟨Rx', hRx, hgs⟩ := hg ds Rx R hds hgd
  refine ⟨ent0 T B H fp tb nt (fun c d _ H => E c d H) mg, rfl, rfl, rfl, rfl, B, ds ++ List.replicate (N.length - n) .hid, fp, _, ?_, hgs, ?_⟩
  · obtain ⟨sub, un, rs, nd, out, nx⟩ := k
    refine ⟨sub, fun i e => ?_, ?_, nd, out, nx⟩
    · unfold L2.start at e
      rw [hl] at e
      by_cases hi : i < n
      · rw [List.getElem?_append_left (by rw [List.length_map]; omega)] at e
        have := un i e
        rw [List.getElem?_append_left (by omega)]
        exact this
      · rw [List.getElem?_append_right (by omega)]
        rw [List.getElem?_append_right (by rw [List.length_map]; omega), List.length_map] at e
        have hj := (List.getElem?_eq_some_iff.mp e).1
        rw [List.length_replicate] at hj
        rw [List.getElem?_replicate, if_pos (by omega)]
    · unfold L2.start
      rw [valsOf_append, hl]
      have e : ∀ m, ROs K B H (valsOf (List.replicate m none)) (List.replicate m O.hid) [] := fun m => by
        induction m with
        | zero => exact .nil
        | succ m ih => exact .cons (f1 := []) .hid ih
      have := rs.append (e (N.length - n))
      rwa [List.append_nil] at this
  · have fin : ∀ d ρ', R d ρ' → ∀ v σ' H' B' fp', Nxt B H fp B' H' fp' → Ok K (ent0 T B H fp tb nt (fun c d _ H => E c d H) mg) B' H' (some v :: σ') (d :: ρ') fp' → Pin ps (L2.start N vs) σ' → Q v H' := fun d ρ' hr v σ' H' B' fp' n' k' pn => by
      obtain ⟨f1, f2, rfl, r, k2, _⟩ := Ok.frame (τ := [some v]) (xs := [d]) k' rfl
      obtain ⟨n1, n2, n3⟩ := List.nodup_append.mp k'.nd
      obtain ⟨f3, h1, h2, h3⟩ := keepP_ok (ps := ps) (n := n) (i := 0) (vs := vs) k2.rs hl fun j hj hc => by
        rw [Nat.zero_add] at hc
        have hm : j ∈ ps := List.contains_iff_mem.mp hc
        have e := pn j hm
        rw [valsOf_get, e]
        unfold L2.start
        rw [List.getElem?_append_left (by rw [List.length_map]; omega), List.getElem?_map]
        cases vs[j]? <;> rfl
      have hsub : ∀ a ∈ f1 ++ f3, a ∈ f1 ++ f2 := fun a ha => by
        rcases List.mem_append.mp ha with z | z
        · exact List.mem_append_left _ z
        · exact List.mem_append_right _ (h2 a z)
      refine q d ρ' hr v H' B' (f1 ++ f3) (n'.less hsub) (k'.part (fun j z => ?_) ?_ (List.nodup_append.mpr ⟨n1, h3 n2, fun a ha b hb e => n3 a ha b (h2 b hb) e⟩) hsub)
      · cases j with
        | zero => cases z
        | succ j =>
          exfalso
          have z' : ((vs.map some)[j]? : Option (Option V)) = some none := z
          rw [List.getElem?_map] at z'
          cases q : vs[j]? with
          | none => rw [q] at z'; cases z'
          | some y => rw [q] at z'; cases z'
      · rw [valsOf_cons, valsOf_some]
        exact r.append h1
    exact ⟨fun ρ' h σ' H' B' fp' n' k' pn => fin _ ρ' h .non σ' H' B' fp' n' (k'.addF .non) pn, fin, fun _ h => h.elim, fun _ h => h.elim,
      fun x ρ' hx cls d σ' H' B' fp' n' k' pn rx => by
        obtain ⟨f3, k3, h3⟩ := keep_fin (N := N) hl hn hps k' pn
        exact qx x ρ' (hRx x ρ' hx) cls d H' B' f3 (n'.less h3) k3 rx⟩
theorem fn_finX {K : PySem.W.Frag} {T : List Addr} {mg : Str → Option Value} {N : List Str} {n : Nat} {ps : List Nat} {g : WFX} {s : WS} {vs : List V} {H : Hp} {Q : VK} {E : XK} (hn : n ≤ N.length) (hps : ∀ i ∈ ps, i < n) (h : spX K T mg n ps g vs H Q E)
    (hg : ∀ ds Rx R, ds.length = n → g ds Rx R → ∃ Rx', (∀ x ρ, Rx' x ρ → Rx x ρ) ∧ s ⟨fun ρ => R (.fz .none) ρ, R, fun _ => False, fun _ => False, Rx'⟩ (ds ++ List.replicate (N.length - n) .hid)) :
    ∃ Z : Ent, (Z.W = fun c d _ H => E c d H) ∧ Z.mg = mg ∧ Z.T = T ∧ tS K Z ps s { nx := fun _ H' => Q .non H', rt := Q } (L2.start N vs) H := by
  obtain ⟨hl, B, h⟩ := h
  obtain ⟨Z, _, h⟩ := fn_fin_at hn hps hl h hg
  exact ⟨Z, h⟩
def posNm : Nat → List AD → List Nat
  | _, [] => []
  | i, .ex _ :: r => posNm (i + 1) r
  | i, .nm _ :: r => i :: posNm (i + 1) r
def callA : List AD → List (Option O) → En → (List O → En → Prop) → Prop
  | .ex _ :: r, some d :: ds, ρ, k => callA r ds ρ fun xs ρ' => k (d :: xs) ρ'
  | .nm i :: r, _ :: ds, ρ, k => notHid (nth ρ i) (callA r ds (ρ.set i .hid) fun xs ρ' => k (nth ρ i :: xs) ρ')
  | [], _, ρ, k => k [] ρ
  | .ex _ :: _, _, _, _ => False
  | .nm _ :: _, [], _, _ => False
def backA : List AD → List O → En → En
  | [], _, ρ => ρ
  | .ex _ :: r, xs, ρ => backA r xs.tail ρ
  | .nm i :: r, xs, ρ => backA r xs.tail (ρ.set i (hd0 xs))
def wCall (as : List AD) (g : WF) : WE := fun ρ R => wADs as ρ fun ds ρ1 => callA as ds ρ1 fun xs ρ2 => g xs fun d ρf => R d (backA as ρf ρ2)
section
variable {K : PySem.W.Frag} {Z : Ent} {B H : Hp} {σ : St}
theorem call_split {as : List AD} {vs : List V} {ds : List (Option O)} {τ : St} {xs : List O} (g : Got σ as vs ds τ xs) : ∀ {ρ : En} {f1 f2 : List Addr} {k : List O → En → Prop}, ROs K B H (valsOf τ) xs f1 → ROs K B H (valsOf σ) ρ f2 → (∀ i : Nat, σ[i]? = some none → ρ[i]? = some O.hid) →
    callA as ds ρ k → ∃ args ρr fc fr, k args ρr ∧ args.length = vs.length ∧ ROs K B H vs args fc ∧ ROs K B H (valsOf σ) ρr fr ∧ (f1 ++ f2).Perm (fc ++ fr) ∧ (∀ i : Nat, σ[i]? = some none → ρr[i]? = some O.hid) ∧ (∀ i : Nat, AD.nm i ∈ as → ρr[i]? = some O.hid) ∧ (∀ i : Nat, ρ[i]? = some O.hid → ρr[i]? = some O.hid) := by
  induction g with
  | nil =>
    intro ρ f1 f2 k r1 r2 un h
    cases r1
    exact ⟨[], ρ, [], f2, h, rfl, .nil, r2, List.Perm.refl _, un, fun i z => (List.not_mem_nil z).elim, fun _ z => z⟩
  | @ex w r v vs d ds τ xs g ih =>
    intro ρ f1 f2 k r1 r2 un h
    rw [valsOf_cons] at r1
    cases r1 with
    | @cons _ _ _ _ g1 g2 a b =>
      obtain ⟨args, ρr, fc, fr, h1, h2, h3, h4, h5, h6, h7, h8⟩ := ih b r2 un h
      refine ⟨d :: args, ρr, g1 ++ fc, fr, h1, congrArg (· + 1) h2, .cons a h3, h4, ?_, h6, fun i z => ?_, h8⟩
      · rw [List.append_assoc, List.append_assoc]
        exact List.Perm.append_left g1 h5
      · rcases List.mem_cons.mp z with z | z
        · cases z
        · exact h7 i z
  | @nm i r v vs ds τ xs e g ih =>
    intro ρ f1 f2 k r1 r2 un h
    obtain ⟨hx, h⟩ := notHid_iff h
    have e0 := nth_some rfl hx
    obtain ⟨u, a1, a2, u1, u2, u3, u4⟩ := r2.split e0
    rw [valsOf_get, e] at u1
    have eu : v = u := Option.some.inj u1
    subst eu
    have hi : i < ρ.length := (List.getElem?_eq_some_iff.mp e0).1
    obtain ⟨args, ρr, fc, fr, h1, h2, h3, h4, h5, h6, h7, h8⟩ := ih r1 u3 (fun j z => by
      by_cases hj : i = j
      · subst hj; rw [List.getElem?_set_self hi]
      · rw [List.getElem?_set_ne hj]; exact un j z) h
    refine ⟨nth ρ i :: args, ρr, a1 ++ fc, fr, h1, congrArg (· + 1) h2, .cons u2 h3, h4, ?_, h6, fun j z => ?_, fun j z => h8 j ?_⟩
    · refine (List.Perm.append_left f1 u4).trans ?_
      rw [List.append_assoc]
      refine List.Perm.trans ?_ (List.Perm.append_left a1 h5)
      rw [← List.append_assoc, ← List.append_assoc]
      exact List.Perm.append_right _ List.perm_append_comm
    · rcases List.mem_cons.mp z with z | z
      · cases z
        exact h8 i (by rw [List.getElem?_set_self hi])
      · exact h7 j z
    · by_cases hj : i = j
      · subst hj; rw [List.getElem?_set_self hi]
      · rw [List.getElem?_set_ne hj]; exact z
theorem perm3 {a b c : List Addr} : (a ++ (b ++ c)).Perm (b ++ (a ++ c)) := by
  rw [← List.append_assoc, ← List.append_assoc]
  exact List.Perm.append_right _ List.perm_append_comm
theorem call_join {as : List AD} {vs : List V} {ds : List (Option O)} {τ : St} {xs : List O} (g : Got σ as vs ds τ xs) : ∀ {ρ : En} {i0 : Nat} {ρf : List O} {fc fr : List Addr}, ROs K B H vs (keepP (posNm i0 as) i0 vs.length ρf) fc → ROs K B H (valsOf σ) ρ fr → (fc ++ fr).Nodup → (∀ i : Nat, AD.nm i ∈ as → ρ[i]? = some O.hid) → (∀ i : Nat, σ[i]? = some none → ρ[i]? = some O.hid) → (as.filterMap fun | .nm i => some i | _ => none).Nodup →
    ∃ f, ROs K B H (valsOf σ) (backA as ρf ρ) f ∧ f.Nodup ∧ (∀ a ∈ f, a ∈ fc ++ fr) ∧ (∀ i : Nat, σ[i]? = some none → (backA as ρf ρ)[i]? = some O.hid) := by
  have shift : ∀ (ps : List Nat) (p : Nat) (m n : Nat) (r : List O), p < m → keepP (p :: ps) m n r = keepP ps m n r := by
    intro ps p m n
    induction n generalizing m with
    | zero => intro r _; rfl
    | succ n ih =>
      intro r hp
      have hc : (p :: ps).contains m = ps.contains m := by
        rw [List.contains_cons]
        rw [beq_eq_false_iff_ne.mpr (by omega : m ≠ p), Bool.false_or]
      cases r with
      | nil => unfold keepP; rw [ih (m + 1) [] (by omega)]
      | cons x r => unfold keepP; rw [ih (m + 1) r (by omega), hc]
  have tl : ∀ (ps : List Nat) (m n : Nat) (r : List O), ∃ x, keepP ps m (n + 1) r = x :: keepP ps (m + 1) n r.tail := by
    intro ps m n r
    cases r with
    | nil => exact ⟨_, rfl⟩
    | cons x r => exact ⟨_, rfl⟩
  induction g with
  | nil =>
    intro ρ i0 ρf fc fr r1 r2 nd hh un _
    exact ⟨fr, r2, (List.nodup_append.mp nd).2.1, fun a ha => List.mem_append_right _ ha, un⟩
  | @ex w r v vs d ds τ xs g ih =>
    intro ρ i0 ρf fc fr r1 r2 nd hh un nn
    obtain ⟨x, e⟩ := tl (posNm i0 (.ex w :: r)) i0 vs.length ρf
    rw [List.length_cons, e] at r1
    cases r1 with
    | @cons _ _ _ _ g1 g2 a b =>
      rw [List.append_assoc] at nd
      obtain ⟨_, nd2, _⟩ := List.nodup_append.mp nd
      obtain ⟨f, h1, h2, h3, h4⟩ := ih (i0 := i0 + 1) b r2 nd2 (fun i z => hh i (List.mem_cons_of_mem _ z)) un nn
      exact ⟨f, h1, h2, fun y hy => by rw [List.append_assoc]; exact List.mem_append_right _ (h3 y hy), h4⟩
  | @nm i r v vs ds τ xs e g ih =>
    intro ρ i0 ρf fc fr r1 r2 nd hh un nn
    obtain ⟨nn1, nn2⟩ := List.nodup_cons.mp (show (i :: r.filterMap fun | .nm i => some i | _ => none).Nodup from nn)
    have e1 : keepP (posNm i0 (.nm i :: r)) i0 (vs.length + 1) ρf = hd0 ρf :: keepP (posNm (i0 + 1) r) (i0 + 1) vs.length ρf.tail := by
      show keepP (i0 :: posNm (i0 + 1) r) i0 (vs.length + 1) ρf = _
      rw [keepP_cons, shift _ _ _ _ _ (Nat.lt_succ_self i0), if_pos (by rw [List.contains_cons, beq_self_eq_true, Bool.true_or])]
    rw [List.length_cons, e1] at r1
    cases r1 with
    | @cons _ _ _ _ g1 g2 a b =>
      have hρ := hh i (List.mem_cons_self ..)
      have hi : i < ρ.length := (List.getElem?_eq_some_iff.mp hρ).1
      obtain ⟨f4, p1, p2⟩ := r2.put hρ a
      have ev : (valsOf σ).set i v = valsOf σ := by
        have q : (valsOf σ)[i]? = some v := by rw [valsOf_get, e]; rfl
        obtain ⟨hl, hg⟩ := List.getElem?_eq_some_iff.mp q
        rw [← hg]
        exact List.set_getElem_self hl
      rw [ev] at p1
      have pm : (g1 ++ g2 ++ fr).Perm (g2 ++ f4) := by
        rw [List.append_assoc]
        exact perm3.trans (List.Perm.append_left g2 p2.symm)
      obtain ⟨f, h1, h2, h3, h4⟩ := ih (i0 := i0 + 1) (ρ := ρ.set i (hd0 ρf)) b p1 (pm.nodup nd) (fun j z => by
        have hne : i ≠ j := fun q => by
          subst q
          exact nn1 (List.mem_filterMap.mpr ⟨_, z, rfl⟩)
        rw [List.getElem?_set_ne hne]
        exact hh j (List.mem_cons_of_mem _ z)) (fun j z => by
        have hne : i ≠ j := fun q => by
          subst q
          rw [e] at z
          cases z
        rw [List.getElem?_set_ne hne]
        exact un j z) nn2
      exact ⟨f, h1, h2, fun y hy => pm.symm.subset (h3 y hy), h4⟩
end
structure FdX (P : Program) (w : World) (K : PySem.W.Frag) (mg : Str → Option Value) (base : Heap) (T : List Addr) (A : Around) (x : Str) (n : Nat) (ps : List Nat) (g : WFX) : Prop where
  ex : ∃ (k : Nat) (f : Addr) (fd : FuncData) (qs : List Str), FnG P w K mg base (L2N.CX P w) k f fd qs (spX K T mg n ps g) ∧ A.guards = some [] ∧ Room k A ∧ mg x = some (.ref f) ∧ PySem.W.keepIn K (.ref f) = true ∧ Binds K fd qs []
structure FgX (P : Program) (w : World) (K : PySem.W.Frag) (mg : Str → Option Value) (base : Heap) (T : List Addr) (k : Nat) (x : Str) (n : Nat) (ps : List Nat) (g : WFX) : Prop where
  ex : ∃ (f : Addr) (fd : FuncData) (qs : List Str), FnG P w K mg base (L2N.CX P w) k f fd qs (spX K T mg n ps g) ∧ mg x = some (.ref f) ∧ PySem.W.keepIn K (.ref f) = true ∧ Binds K fd qs []
abbrev Fd (P : Program) (w : World) (K : PySem.W.Frag) (mg : Str → Option Value) (base : Heap) (T : List Addr) (A : Around) (x : Str) (n : Nat) (ps : List Nat) (g : WF) : Prop := FdX P w K mg base T A x n ps (noX g)
abbrev Fg (P : Program) (w : World) (K : PySem.W.Frag) (mg : Str → Option Value) (base : Heap) (T : List Addr) (k : Nat) (x : Str) (n : Nat) (ps : List Nat) (g : WF) : Prop := FgX P w K mg base T k x n ps (noX g)
section
variable {P : Program} {w : World} {K : PySem.W.Frag} {mg : Str → Option Value} {base : Heap} {T : List Addr} {k j : Nat} {A : Around} {x : Str} {n : Nat} {ps : List Nat}
theorem FgX.to {g : WFX} (F : FgX P w K mg base T k x n ps g) (hgd : A.guards = some []) (hr : Room j A) (h : k ≤ j) : FdX P w K mg base T A x n ps g := by
  obtain ⟨f, fd, qs, a, b, c, d⟩ := F.ex
  exact ⟨k, f, fd, qs, a, hgd, hr.mono h, b, c, d⟩
theorem FgX.impX {g g' : WFX} (F : FgX P w K mg base T k x n ps g) (h : ∀ ds Rx R, g' ds Rx R → g ds Rx R) : FgX P w K mg base T k x n ps g' := by
  obtain ⟨f, fd, qs, a, b, c, d⟩ := F.ex
  refine ⟨f, fd, qs, a.imp fun vs H Q E q => ?_, b, c, d⟩
  obtain ⟨hl, B, ds, fp, R, Rx, tb, nt, k, hg, q⟩ := q
  exact ⟨hl, B, ds, fp, R, Rx, tb, nt, k, h ds Rx R hg, q⟩
theorem FgX.imp {g g' : WF} (F : Fg P w K mg base T k x n ps g) (h : ∀ ds R, g' ds R → g ds R) : Fg P w K mg base T k x n ps g' := F.impX fun ds _ R => h ds R
end
section
variable {X : Cx} {Z : Ent} {x : Str} {p pos : Pos} {e : Expr} {es : List Expr} {as : List AD} {g : WF} {n : Nat}
def wCallX (as : List AD) (g : WFX) (xc : Ex → En → Prop) : WE := fun ρ R => wADs as ρ fun ds ρ1 => callA as ds ρ1 fun xs ρ2 => g xs (fun x ρf => xc x (backA as ρf ρ2)) fun d ρf => R d (backA as ρf ρ2)
theorem tADs_mono {K : PySem.W.Frag} : ∀ {as : List AD} {σ : St} {H : Hp} {P Q : List V → Hp → Prop}, tADs K Z as σ H P → (∀ vs H1, P vs H1 → Q vs H1) → tADs K Z as σ H Q
  | [], _, _, _, _, h, i => i _ _ h
  | .ex w :: r, _, _, _, _, h, i => by
    obtain ⟨B, ρ, fp, R, k, h, q⟩ := h
    exact ⟨B, ρ, fp, R, k, h, fun d ρ' h1 v H' B' fp' n k1 => tADs_mono (as := r) (q d ρ' h1 v H' B' fp' n k1) fun vs H1 z => i _ _ z⟩
  | .nm j :: r, _, _, _, _, h, i => by
    obtain ⟨v, e, h⟩ := h
    exact ⟨v, e, tADs_mono (as := r) h fun vs H1 z => i _ _ z⟩
theorem call_glueB {K : PySem.W.Frag} {E : XK} {mg : Str → Option Value} {g : WFX} {σ : St} {B H : Hp} {ρ : En} {fp : List Addr} {R : O → En → Prop} {xc : Ex → En → Prop} {Q : VK} (hn : as.length = n) (hnn : (as.filterMap fun | .nm i => some i | _ => none).Nodup) (k : Ok K Z B H σ ρ fp) (h : wCallX as g xc ρ R)
    (q : ∀ d ρ', R d ρ' → ∀ v H' B' fp', Nxt B H fp B' H' fp' → Ok K Z B' H' (some v :: σ) (d :: ρ') fp' → Q v H')
    (qx : ∀ x ρ', xc x ρ' → ∀ cls d H' B' fp', Nxt B H fp B' H' fp' → Ok K Z B' H' σ ρ' fp' → RX K mg B' cls d x → E cls d H') : tADs K Z as σ H fun vs H1 => (vs ++ []).length = n ∧ ∃ B1, Sub Z.B B1 ∧ spAt K Z.T mg n (posNm 0 as) g B1 (vs ++ []) H1 Q E := by
  refine args_ok as k h fun ds ρ1 h1 vs τ xs H1 B1 fp1 gt n1 k1 => ?_
  rw [List.append_nil]
  obtain ⟨f1, f2, rfl, r1, k2, _⟩ := k1.frame gt.len
  obtain ⟨args, ρr, fc, fr, a1, a2, a3, a4, a5, a6, a7, _⟩ := call_split gt r1 k2.rs k2.un h1
  have nd := a5.nodup k1.nd
  obtain ⟨nd1, nd2, nd3⟩ := List.nodup_append.mp nd
  have hlen : ∀ {as : List AD} {vs : List V} {ds : List (Option O)} {τ : St} {xs : List O}, Got σ as vs ds τ xs → vs.length = as.length := fun g => by
    induction g with
    | nil => rfl
    | ex _ ih => exact congrArg (· + 1) ih
    | nm _ _ ih => exact congrArg (· + 1) ih
  have hv : vs.length = n := (hlen gt).trans hn
  have mc : ∀ a ∈ fc, a ∈ f1 ++ f2 := fun a ha => a5.symm.subset (List.mem_append_left _ ha)
  have mr : ∀ a ∈ fr, a ∈ f1 ++ f2 := fun a ha => a5.symm.subset (List.mem_append_right _ ha)
  have back : ∀ {Z2 : Ent} (d : O) (ρf : En) (v : V) (H' B' : Hp) (fp' : List Addr), Nxt B1 H1 fc B' H' fp' → Ok K Z2 B' H' (some v :: vs.map some) (d :: keepP (posNm 0 as) 0 n ρf) fp' → ∃ F, Nxt B H fp B' H' F ∧ Ok K Z B' H' (some v :: σ) (d :: backA as ρf ρr) F := by
    intro Z2 d ρf v H' B' fp' n' k'
    have kr : Ok K Z B1 H1 σ ρr fr := ⟨k1.sub, a6, a4, nd2, fun a ha => k1.out a (mr a ha), k1.nx.less mr⟩
    have k3 : Ok K Z B1 H1 (vs.map some ++ σ) (args ++ ρr) (fc ++ fr) := ⟨k1.sub, fun i z => by
      by_cases hi : i < vs.length
      · exfalso
        rw [List.getElem?_append_left (by rw [List.length_map]; exact hi), List.getElem?_map, List.getElem?_eq_getElem hi] at z
        cases z
      · rw [List.getElem?_append_right (by rw [List.length_map]; omega), List.length_map] at z
        rw [List.getElem?_append_right (by omega), a2]
        exact a6 _ z, by rw [valsOf_append, valsOf_some]; exact a3.append a4, nd, fun a ha => k1.out a (a5.symm.subset ha), k1.nx.less fun a ha => a5.symm.subset ha⟩
    have dis : ∀ a ∈ fr, a ∉ fc := fun a h h' => nd3 a h' a h rfl
    have keep : ∀ a ∈ fr, ∀ o, H1 a = some o → NT o → H' a = some o := fun a ha o e => n'.keep a o e (dis a ha)
    have fresh : ∀ a ∈ fr, a ∉ fp' := fun y hy hg => by
      rcases n'.newF y hg with q | q
      · exact dis y hy q
      · obtain ⟨o, e⟩ := a4.live y hy
        rw [e] at q; cases q
    have outr : ∀ a ∈ fr, B' a = none := fun y hy => by
      cases z : B' y with
      | none => rfl
      | some o =>
        rcases n'.newB y (by rw [z]; exact fun h => nomatch h) with h | h | h
        · exact absurd (k1.out y (mr y hy)) h
        · obtain ⟨o, e⟩ := a4.live y hy
          rw [e] at h; cases h
        · exact absurd h (dis y hy)
    obtain ⟨g1, g2, rfl, b1, kc, _⟩ := Ok.frame (τ := [some v]) (xs := [d]) k' rfl
    have b2 := kc.rs
    rw [valsOf_some] at b2
    have b2' : ROs K B' H' vs (keepP (posNm 0 as) 0 vs.length ρf) g2 := by rw [hv]; exact b2
    obtain ⟨q1, q2, q3⟩ := List.nodup_append.mp k'.nd
    have ndj : (g2 ++ fr).Nodup := List.nodup_append.mpr ⟨q2, nd2, fun a ha b hb e => fresh b hb (List.mem_append_right _ (e ▸ ha))⟩
    obtain ⟨f, j1, j2, j3, j4⟩ := call_join gt b2' (a4.next n'.bsub keep) ndj a7 a6 hnn
    have nn : Nxt B1 H1 (f1 ++ f2) B' H' (g1 ++ f) := by
      have m1 : Nxt B1 H1 (f1 ++ f2) B' H' (g1 ++ g2) := n'.more mc
      refine ⟨m1.bsub, m1.keep, m1.newB, fun a ha => ?_, m1.live, m1.tabs, m1.ntb⟩
      rcases List.mem_append.mp ha with z | z
      · exact m1.newF a (List.mem_append_left _ z)
      · rcases List.mem_append.mp (j3 a z) with z | z
        · exact m1.newF a (List.mem_append_right _ z)
        · exact .inl (mr a z)
    refine ⟨g1 ++ f, n1.trans nn, k'.sub, fun i z => ?_, ?_, ?_, fun a ha => ?_, k1.nx.trans nn⟩
    · cases i with
      | zero => cases z
      | succ i => exact j4 i z
    · rw [valsOf_cons]
      exact b1.append j1
    · refine List.nodup_append.mpr ⟨q1, j2, fun a ha b hb e => ?_⟩
      subst e
      rcases List.mem_append.mp (j3 a hb) with z | z
      · exact q3 a ha a z rfl
      · exact fresh a z (List.mem_append_left _ ha)
    · rcases List.mem_append.mp ha with z | z
      · exact k'.out a (List.mem_append_left _ z)
      · rcases List.mem_append.mp (j3 a z) with z | z
        · exact k'.out a (List.mem_append_right _ z)
        · exact outr a z
  have tb : ∀ P ∈ Z.T, LamX.TabS H1 P q0 := fun P hP => k1.nx.tabs P (Z.tb P hP)
  refine ⟨hv, B1, k1.nx.bsub, args, fc, _, _, tb, k1.nx.ntb Z.nt, ⟨k1.sub, fun i z => ?_, by rw [valsOf_some]; exact a3, nd1, fun a ha => k1.out a (mc a ha), Nxt.refl _ _ _⟩, a1, fun d ρf hR v H' B' fp' n' k' => ?_, fun x ρf hx cls d H' B' fp' n' k' rx => ?_⟩
  · exfalso
    have z' : ((vs.map some)[i]? : Option (Option V)) = some none := z
    rw [List.getElem?_map] at z'
    cases q : vs[i]? with
    | none => rw [q] at z'; cases z'
    | some y => rw [q] at z'; cases z'
  · obtain ⟨F, n2, k4⟩ := back d ρf v H' B' fp' n' k'
    exact q d _ hR v H' B' F n2 k4
  · obtain ⟨F, n2, k4⟩ := back .hid ρf .non H' B' fp' n' k'.addH
    obtain ⟨f5, k5, h5⟩ := k4.drop1
    exact qx x _ hx cls d H' B' f5 (n2.less h5) k5 rx
theorem call_glueX {K : PySem.W.Frag} {E : XK} {mg : Str → Option Value} {g : WFX} {σ : St} {B H : Hp} {ρ : En} {fp : List Addr} {R : O → En → Prop} {xc : Ex → En → Prop} {Q : VK} (hn : as.length = n) (hnn : (as.filterMap fun | .nm i => some i | _ => none).Nodup) (k : Ok K Z B H σ ρ fp) (h : wCallX as g xc ρ R)
    (q : ∀ d ρ', R d ρ' → ∀ v H' B' fp', Nxt B H fp B' H' fp' → Ok K Z B' H' (some v :: σ) (d :: ρ') fp' → Q v H')
    (qx : ∀ x ρ', xc x ρ' → ∀ cls d H' B' fp', Nxt B H fp B' H' fp' → Ok K Z B' H' σ ρ' fp' → RX K mg B' cls d x → E cls d H') : tADs K Z as σ H fun vs H1 => spX K Z.T mg n (posNm 0 as) g (vs ++ []) H1 Q E :=
  tADs_mono (call_glueB hn hnn k h q qx) fun vs H1 z => ⟨z.1, z.2.elim fun B1 z => ⟨B1, z.2⟩⟩
theorem call_glue {K : PySem.W.Frag} {E : XK} {mg : Str → Option Value} {σ : St} {H : Hp} {Q : VK} (hn : as.length = n) (hnn : (as.filterMap fun | .nm i => some i | _ => none).Nodup) (h : tE K Z (wCall as g) σ H Q) : tADs K Z as σ H fun vs H1 => spD K Z.T mg n (posNm 0 as) g (vs ++ []) H1 Q E := by
  obtain ⟨B, ρ, fp, R, k, h, q⟩ := h
  exact call_glueX (g := noX g) (xc := fun _ _ => False) hn hnn k h q fun _ _ hx => hx.elim
theorem e_call {ps : List Nat} (F : Fd X.prog X.w X.K X.mg X.base Z.T X.A x n ps g) (ha : PA X (e :: es) (tADs X.K Z as)) (hn : as.length = n) (hps : ps = posNm 0 as) (hnn : (as.filterMap fun | .nm i => some i | _ => none).Nodup) (hg : Gl X x) (hdb : (x == ("__debug__" : Str)) = false := by decide)
    (he : starEach (e :: es) X.env = (false, eval e X.env) :: starEach es X.env := by rfl) (hpl : (backTo pos (starEach es X.env)).any (·.1) = false := by rfl) : PE X (.Call (.Name x p) (e :: es) [] pos) (tE X.K Z (wCall as g)) := by
  obtain ⟨k, f, fd, qs, F, gd, hr, hm, hk, hb⟩ := F.ex
  subst hps
  exact pe_to (g_call (E := E0) F gd hr hg hm hk hb .nil passLN ha hdb he hpl) fun σ H Q q => call_glue hn hnn q
abbrev WEX := (Ex → En → Prop) → WE
end
end Pt
namespace Pt
open PySem PySem.Spec L2
structure Agr (own : List Nat) (σ σ' : St) : Prop where
  len : σ'.length = σ.length
  at_ : ∀ k, own.contains k = false → (σ'[k]? : Option (Option V)) = σ[k]?
theorem Agr.refl (own : List Nat) (σ : St) : Agr own σ σ := ⟨rfl, fun _ _ => rfl⟩
theorem Agr.trans {own : List Nat} {σ σ1 σ2 : St} (a : Agr own σ σ1) (b : Agr own σ1 σ2) : Agr own σ σ2 := ⟨b.len.trans a.len, fun k h => (b.at_ k h).trans (a.at_ k h)⟩
theorem Agr.set {own : List Nat} {σ : St} {i : Nat} {v : Option V} (h : own.contains i = true) : Agr own σ (σ.set i v) := ⟨List.length_set .., fun k hk => by
  have hne : i ≠ k := fun e => by
    subst e; rw [h] at hk; cases hk
  exact List.getElem?_set_ne hne⟩
theorem Agr.pin {own ps : List Nat} {σ σ' : St} (a : Agr own σ σ') (h : (ps.any fun k => own.contains k) = false) : Pin ps σ σ' := fun k hk => a.at_ k (by
  cases q : own.contains k with
  | false => rfl
  | true =>
    have : (ps.any fun k => own.contains k) = true := List.any_eq_true.mpr ⟨k, hk, q⟩
    rw [h] at this; cases this)
theorem wipe_get : ∀ (vs : List Nat) (σ : St) (k : Nat), (wipe σ vs)[k]? = if vs.contains k then (σ[k]?).map fun _ => none else σ[k]?
  | [], σ, k => rfl
  | v :: vs, σ, k => by
    show ((wipe σ vs).set v none)[k]? = _
    rw [List.getElem?_set, wipe_get vs σ k, List.contains_cons]
    by_cases hv : v = k
    · subst hv
      rw [if_pos rfl, beq_self_eq_true, Bool.true_or, if_pos rfl, wipe_length]
      by_cases hl : v < List.length σ
      · rw [if_pos hl, List.getElem?_eq_getElem hl]; rfl
      · rw [if_neg hl, List.getElem?_eq_none (by omega)]; rfl
    · rw [if_neg hv, beq_eq_false_iff_ne.mpr (fun e => hv e.symm), Bool.false_or]
theorem Agr.wipe {own : List Nat} {σ σ' : St} (a : Agr own σ σ') : L2.wipe σ' own = L2.wipe σ own := by
  refine List.ext_getElem? fun k => ?_
  rw [wipe_get, wipe_get]
  cases q : own.contains k with
  | false =>
    rw [if_neg Bool.false_ne_true, if_neg Bool.false_ne_true]
    exact a.at_ k q
  | true =>
    rw [if_pos rfl, if_pos rfl]
    have hl := a.len
    by_cases h : k < List.length σ
    · rw [List.getElem?_eq_getElem h, List.getElem?_eq_getElem (show k < List.length σ' by omega)]; rfl
    · rw [List.getElem?_eq_none (by omega), List.getElem?_eq_none (by omega)]
def wipeO (ρ : En) : List Nat → En
  | [] => ρ
  | v :: vs => (wipeO ρ vs).set v .hid
theorem wipeO_get : ∀ (vs : List Nat) (ρ : En) (k : Nat), (wipeO ρ vs)[k]? = if vs.contains k then (ρ[k]?).map fun _ => O.hid else ρ[k]?
  | [], σ, k => rfl
  | v :: vs, ρ, k => by
    have hw : ∀ vs : List Nat, (wipeO ρ vs).length = ρ.length := fun vs => by
      induction vs with
      | nil => rfl
      | cons v vs ih =>
        show ((wipeO ρ vs).set v .hid).length = _
        rw [List.length_set]; exact ih
    show ((wipeO ρ vs).set v .hid)[k]? = _
    rw [List.getElem?_set, wipeO_get vs ρ k, List.contains_cons]
    by_cases hv : v = k
    · subst hv
      rw [if_pos rfl, beq_self_eq_true, Bool.true_or, if_pos rfl, hw]
      by_cases hl : v < ρ.length
      · rw [if_pos hl, List.getElem?_eq_getElem hl]; rfl
      · rw [if_neg hl, List.getElem?_eq_none (by omega)]; rfl
    · rw [if_neg hv, beq_eq_false_iff_ne.mpr (fun e => hv e.symm), Bool.false_or]
abbrev WG := O → En → (En → Prop) → Prop
abbrev WI := En → (List PyData → En → Prop) → Prop
section
variable (K : PySem.W.Frag) (Z : Ent)
def tG (own : List Nat) (wg : WG) : TG := fun v σ H Q => ∃ B ρ fp R d, Ok K Z B H (some v :: σ) (d :: ρ) fp ∧ wg d ρ R ∧ ∀ ρ', R ρ' → ∀ σ' H' B' fp', Nxt B H fp B' H' fp' → Ok K Z B' H' σ' ρ' fp' → Agr own σ σ' → Q σ' H'
def tGs (own : List Nat) (wg : List O → En → (En → Prop) → Prop) : TGs := fun vs σ H Q => ∃ B ρ fp R ds, Ok K Z B H (vs.map some ++ σ) (ds ++ ρ) fp ∧ vs.length = ds.length ∧ wg ds ρ R ∧ ∀ ρ', R ρ' → ∀ σ' H' B' fp', Nxt B H fp B' H' fp' → Ok K Z B' H' σ' ρ' fp' → Agr own σ σ' → Q σ' H'
def ItD (J : It) (B : Hp) (items : List PyData) : Prop := ∀ B' H', Sub B B' → Sub B' H' → ∀ i, (i < items.length → J.go i H' ∧ ∀ x H'', J.yld i H' x H'' → ∃ d B'', items[i]? = some d ∧ Out K B' H' x (.fz d) B'' H'') ∧ (i = items.length → J.stop i H')
def ItN (J : It) (B H : Hp) (fp : List Addr) (items : List PyData) : Prop := ∀ B' H' g, Nxt B H fp B' H' g → Sub B' H' → ∀ i, (i < items.length → J.go i H' ∧ ∀ x H'', J.yld i H' x H'' → ∃ d B'', items[i]? = some d ∧ Out K B' H' x (.fz d) B'' H'') ∧ (i = items.length → J.stop i H')
theorem ItD.n {J : It} {B H : Hp} {fp : List Addr} {items : List PyData} (h : ItD K J B items) : ItN K J B H fp items := fun B' H' g n s => h B' H' n.bsub s
def tI (wi : WI) : TI := fun σ H R => ∃ B ρ fp Rd, Ok K Z B H σ ρ fp ∧ wi ρ Rd ∧ ∀ items ρ', Rd items ρ' → ∀ J H' B' fp', Nxt B H fp B' H' fp' → Ok K Z B' H' σ ρ' fp' → ItN K J B' H' fp' items → R J H'
end
def gN (i : Nat) : WG := fun d ρ R => R (ρ.set i d)
def gsN : List O → En → (En → Prop) → Prop := fun ds ρ R => ds = [] ∧ R ρ
def gsC (g : WG) (gs : List O → En → (En → Prop) → Prop) : List O → En → (En → Prop) → Prop := fun ds ρ R => match ds with
  | d :: r => g d ρ fun ρ' => gs r ρ' R
  | [] => False
def asT : O → (List O → Prop) → Prop
  | .fz (.tuple ds), k => k (ds.map O.fz)
  | .ot xs, k => k xs
  | _, _ => False
def gT (n : Nat) (gs : List O → En → (En → Prop) → Prop) : WG := fun d ρ R => asT d fun xs => xs.length = n ∧ gs xs ρ R
section
variable {X : Cx} {Z : Ent} {ps own : List Nat} {pos : Pos} {e : Expr} {w : WE} {sts : List Stmt} {s : WS} {g : WG} {gs : List O → En → (En → Prop) → Prop}
theorem g_name {i : Nat} {x : Str} (hN : X.N.Nodup) (hi : X.N[i]? = some x) (hx : Loc X.env.scope x) (ho : own.contains i = true) (hf : X.fn x = true ∨ X.env.scope.names.lookup x = some .local := by first | exact .inl rfl | exact .inr rfl | assumption) : PG X (.Name x pos) (tG X.K Z own (gN i)) :=
  ⟨fun pins s σ H v u Q I r q => (pg_name hN hi hx hf).run pins s σ H v u Q I r (by
    obtain ⟨B, ρ, fp, R, d, k, h, q⟩ := q
    obtain ⟨f2, k2, hs⟩ := k.store i
    exact q _ h _ H B f2 (Nxt.self hs) k2 (Agr.set ho))⟩
theorem gs_nil : PGs X [] (tGs X.K Z own gsN) := ⟨fun pins s σ H vs us Q I r q => pgs_nil.run pins s σ H vs us Q I r (by
  obtain ⟨B, ρ, fp, R, ds, k, hl, ⟨rfl, h⟩, q⟩ := q
  have : vs = [] := List.eq_nil_of_length_eq_zero hl
  subst this
  exact ⟨rfl, q ρ h σ H B fp (Nxt.refl _ _ _) k (Agr.refl _ _)⟩)⟩
theorem gs_cons {t : Expr} {ts : List Expr} (hg : PG X t (tG X.K Z own g)) (hgs : PGs X ts (tGs X.K Z own gs)) (hs : (assignEach (t :: ts) X.env).map (·.2) = assign t X.env :: (assignEach ts X.env).map (·.2) := by rfl) : PGs X (t :: ts) (tGs X.K Z own (gsC g gs)) := by
  refine ⟨fun pins s σ H vs us Q I r q => (pgs_cons hg hgs hs).run pins s σ H vs us Q I r ?_⟩
  obtain ⟨B, ρ, fp, R, ds, k, hl, h, q⟩ := q
  cases ds with
  | nil => exact False.elim h
  | cons d ds =>
    cases vs with
    | nil => cases hl
    | cons v vs =>
      obtain ⟨f1, f2, rfl, r1, k2, fr⟩ := Ok.frame (τ := [some v]) (xs := [d]) (σ := vs.map some ++ σ) (ρ := ds ++ ρ) k rfl
      have hl' : vs.length = ds.length := Nat.succ.inj hl
      have k' : Ok X.K Z B H ((some v :: vs.map some) ++ σ) ((d :: ds) ++ ρ) (f1 ++ f2) := k
      obtain ⟨h1, h2, e12, r2, k3, fr3⟩ := Ok.frame (τ := vs.map some) (xs := ds) k2 (by rw [List.length_map]; exact hl')
      subst e12
      have kk : Ok X.K Z B H (vs.map some ++ (some v :: σ)) (ds ++ (d :: ρ)) (h1 ++ (f1 ++ h2)) := by
        obtain ⟨sub, un, rs, nd, out, nx⟩ := k'
        have pm : (f1 ++ (h1 ++ h2)).Perm (h1 ++ (f1 ++ h2)) := perm3
        refine ⟨sub, fun i z => ?_, ?_, pm.nodup nd, fun a ha => out a (pm.symm.subset ha), nx.less fun a ha => pm.symm.subset ha⟩
        · by_cases hi : i < vs.length
          · exfalso
            rw [List.getElem?_append_left (by rw [List.length_map]; exact hi), List.getElem?_map, List.getElem?_eq_getElem hi] at z
            cases z
          · rw [List.getElem?_append_right (by rw [List.length_map]; omega), List.length_map] at z
            rw [List.getElem?_append_right (by omega), ← hl']
            cases q0 : i - vs.length with
            | zero => rw [q0] at z; cases z
            | succ j =>
              rw [q0] at z
              exact k3.un j z
        · rw [valsOf_append, valsOf_cons]
          rw [show valsOf [some v] = [v] from rfl] at r1
          cases r1 with
          | @cons _ _ _ _ g1 g2 a b =>
            cases b
            rw [List.append_nil]
            exact r2.append (.cons a k3.rs)
      obtain ⟨j1, j2, e2, r3, k4, fr4⟩ := Ok.frame (τ := vs.map some) (xs := ds) (σ := some v :: σ) (ρ := d :: ρ) kk (by rw [List.length_map]; exact hl')
      refine ⟨v, vs, rfl, B, ρ, j2, _, d, k4, h, fun ρ1 q1 σ1 H1 B1 fp1 n1 k1 ag => ?_⟩
      obtain ⟨k5, n5⟩ := fr4 n1 k1
      have n0 : Nxt B H (f1 ++ (h1 ++ h2)) B1 H1 (j1 ++ fp1) := n5.more fun a ha => perm3.symm.subset ha
      exact ⟨B1, ρ1, _, R, ds, k5, hl', q1, fun ρ2 q2 σ2 H2 B2 fp2 n2 k6 ag2 => q ρ2 q2 σ2 H2 B2 fp2 (n0.trans n2) k6 (ag.trans ag2)⟩
theorem asT_iff {x : O} {k : List O → Prop} (h : asT x k) : ∃ xs, k xs ∧ ((∃ ds, x = .fz (.tuple ds) ∧ xs = ds.map O.fz) ∨ x = .ot xs) := by
  cases x with
  | fz f =>
    cases f with
    | tuple ds => exact ⟨_, h, .inl ⟨ds, rfl, rfl⟩⟩
    | _ => exact False.elim h
  | ot xs => exact ⟨_, h, .inr rfl⟩
  | _ => exact False.elim h
theorem g_tup {es : List Expr} {k n : Nat} (hc : X.calm = true) (h : PGs X es (tGs X.K Z own gs)) (hn : (assignEach es X.env).length = n := by rfl) (hst : (assignEach es X.env).findIdx? (·.1) = none := by rfl) : PG X (.Tuple es k pos) (tG X.K Z own (gT n gs)) := by
  refine ⟨fun pins s σ H v u Q I r q => (pg_tup hc h hn hst).run pins s σ H v u Q I r ?_⟩
  obtain ⟨B, ρ, fp, R, d, kk, hh, q⟩ := q
  obtain ⟨xs, ⟨hxl, hg⟩, hx⟩ := asT_iff hh
  obtain ⟨f1, f2, rfl, r1, k2, _⟩ := Ok.frame (τ := [some v]) (xs := [d]) kk rfl
  rw [show valsOf [some v] = [v] from rfl] at r1
  cases r1 with
  | @cons _ _ _ _ g1 g2 a b =>
    cases b
    rw [List.append_nil] at *
    have rr : ∃ p vs, v = .ref p ∧ SqT X.K H p vs ∧ ROs X.K B H vs xs g1 := by
      rcases hx with ⟨ds, rfl, rfl⟩ | rfl
      · cases a with
        | fz a =>
          cases a with
          | tup t r => exact ⟨_, _, rfl, kk.sub.sqT t, ROs.fzs r⟩
      · cases a with
        | ot t r => exact ⟨_, _, rfl, SqT.of (kk.sub _ _ t), r⟩
    obtain ⟨p, vs, rfl, ht, rr⟩ := rr
    have hl := rr.length
    refine ⟨p, vs, rfl, ht, hl.trans hxl, B, ρ, g1 ++ f2, R, xs, ⟨kk.sub, fun i z => ?_, by rw [valsOf_append, valsOf_some]; exact rr.append k2.rs, kk.nd, kk.out, kk.nx⟩, hl, hg, q⟩
    by_cases hi : i < vs.length
    · exfalso
      rw [List.getElem?_append_left (by rw [List.length_map]; exact hi), List.getElem?_map, List.getElem?_eq_getElem hi] at z
      cases z
    · rw [List.getElem?_append_right (by rw [List.length_map]; omega), List.length_map] at z
      rw [List.getElem?_append_right (by omega), ← hl]
      exact k2.un _ z
def sAsg (g : WG) (w : WE) : WS := fun E ρ => w ρ fun d ρ1 => g d ρ1 E.nx
theorem s_asg {tg : Expr} (he : PE X e (tE X.K Z w)) (hg : PG X tg (tG X.K Z own g)) (hp : (ps.any fun k => own.contains k) = false) (hs : swapsWithSole [tg] e pos.line X.env = pure false := by rfl) (hw : swappedStores [tg] e X.env = pure none := by rfl) (h1 : (assignEach [tg] X.env).map (·.2) = [assign tg X.env] := by rfl) : PS X (.Assign [tg] e pos) (tS X.K Z ps (sAsg g w)) :=
  ps_to (ps_asg he hg hs hw h1) fun D σ H q => by
    obtain ⟨B, ρ, fp, E, k, q, p⟩ := q
    exact ⟨B, ρ, fp, _, k, q, fun d ρ' h1 v H' B' fp' n k1 => ⟨B', ρ', fp', _, d, k1, h1, fun ρ2 h2 σ2 H2 B2 fp2 n2 k2 ag => p.nx ρ2 h2 σ2 H2 B2 fp2 (n.trans n2) k2 (ag.pin hp)⟩⟩
def forN (g : WG) (s : WS) (E : DE) : List PyData → En → Prop
  | [], ρ => E.nx ρ
  | d :: r, ρ => g (.fz d) ρ fun ρ1 => s { E with nx := forN g s E r, ct := forN g s E r, bk := E.nx } ρ1
def sFor (wi : WI) (g : WG) (s : WS) : WS := fun E ρ => wi ρ fun items ρ1 => forN g s E items ρ1
theorem s_for {tg iter : Expr} {wi : WI} (hp : PassesOwn (model X.prog X.w) X.A X.env X.xe) (hc : X.calm = true) (hi : PI X tg iter (tI X.K Z wi)) (hg : PG X tg (tG X.K Z own g)) (ho : (ps.any fun k => own.contains k) = false) (hb : PSs X sts (tS X.K Z ps s)) (hs : ∀ x, foldedSetIterable iter X.env x = pure x := by intro _; rfl) :
    PS X (.For tg iter sts [] pos) (tS X.K Z ps (sFor wi g s)) := ps_to (ps_for hp hc hi hg hb hs) fun D σ H q => by
  obtain ⟨B, ρ, fp, E, k, q, p⟩ := q
  refine ⟨B, ρ, fp, _, k, q, fun items ρ1 h1 J H1 B1 f1 n1 k1 hJ => ?_⟩
  have p1 := p.step n1 (Pin.refl ps σ)
  refine ⟨fun i m σ' H' => i + m = items.length ∧ ∃ B' ρ' fp', Nxt B1 H1 f1 B' H' fp' ∧ Ok X.K Z B' H' σ' ρ' fp' ∧ Pin ps σ σ' ∧ forN g s E (items.drop i) ρ', ⟨items.length, Nat.zero_add _, B1, ρ1, f1, Nxt.refl _ _ _, k1, Pin.refl _ _, h1⟩, fun i m σ' H' hW => ?_⟩
  obtain ⟨em, B2, ρ2, f2, n2, k2, pn, h2⟩ := hW
  obtain ⟨ja, jb⟩ := hJ B2 H' _ n2 k2.sub i
  by_cases hi : i < items.length
  · obtain ⟨hgo, hy⟩ := ja hi
    refine .inr ⟨hgo, fun σ3 H3 => ∃ B' ρ' fp', Nxt B1 H1 f1 B' H3 fp' ∧ Ok X.K Z B' H3 σ3 ρ' fp' ∧ Pin ps σ σ3 ∧ forN g s E (items.drop (i + 1)) ρ', fun σ3 H3 h3 => ⟨m - 1, by omega, by omega, h3⟩, fun x H3 hyl => ?_⟩
    obtain ⟨d, B3, hd, ho3⟩ := hy x H3 hyl
    obtain ⟨g3, k3, n3⟩ := ho3.ok k2
    rw [List.drop_eq_getElem_cons hi] at h2
    have ed : items[i] = d := by
      rw [List.getElem?_eq_getElem hi] at hd
      exact Option.some.inj hd
    rw [ed] at h2
    refine ⟨B3, ρ2, g3, _, _, k3, h2, fun ρ4 h4 σ4 H4 B4 f4 n4 k4 ag => ?_⟩
    have pn4 : Pin ps σ σ4 := pn.trans (ag.pin ho)
    have n14 := (n2.trans n3).trans n4
    have p4 := p1.step n14 pn4
    refine ⟨B4, ρ4, f4, _, k4, h4, ⟨fun ρ' h' σ5 H5 B5 f5 n5 k5 q5 => ⟨B5, ρ', f5, n14.trans n5, k5, pn4.trans q5, h'⟩, p4.rt, p4.nx, fun ρ' h' σ5 H5 B5 f5 n5 k5 q5 => ⟨B5, ρ', f5, n14.trans n5, k5, pn4.trans q5, h'⟩, p4.xc⟩⟩
  · refine .inl ⟨jb (by omega), ?_⟩
    rw [List.drop_eq_nil_of_le (by omega)] at h2
    exact p1.nx ρ2 h2 σ' H' B2 f2 n2 k2 pn
def lcN (g : WG) (wt : WT) (w : WE) (own : List Nat) (k : List O → En → Prop) : List PyData → En → List O → Prop
  | [], ρ, acc => k acc ρ
  | d :: r, ρ, acc => g (.fz d) (wipeO ρ own) fun ρ1 => wt ρ1 fun b ρ2 => br b (w ρ2 fun y ρ3 => lcN g wt w own k r ρ3 (acc ++ [y])) (lcN g wt w own k r ρ2 acc)
def szMax : Nat := 1000000
theorem szOk {n : Nat} (h : n ≤ szMax) : n ≤ sizeLine := Nat.le_trans h (by decide)
theorem szLt {n : Nat} (h : n ≤ szMax) : n < sizeLine := Nat.lt_of_le_of_lt h (by decide)
def wLc (wi : WI) (g : WG) (wt : WT) (w : WE) (own : List Nat) : WE := fun ρ R => wi ρ fun items ρ1 => items.length ≤ szMax ∧ lcN g wt w own (fun out ρ2 => R (.ol out) (wipeO ρ2 own)) items ρ1 []
def wYes : WT := fun ρ R => R true ρ
end
section
variable {K : PySem.W.Frag} {Z : Ent} {B H : Hp} {σ τ τ' : St} {ρ xs xs' : En} {fp : List Addr}
theorem Ok.hide (k : Ok K Z B H σ ρ fp) (i : Nat) (v : Option V) : ∃ f2, Ok K Z B H (σ.set i v) (ρ.set i .hid) f2 ∧ ∀ a ∈ f2, a ∈ fp := by
  obtain ⟨f2, h1, h2, h3⟩ := k.rs.forget i
  by_cases hi : i < ρ.length
  · refine ⟨f2, k.part (fun j z => ?_) ?_ (h3 k.nd) h2, h2⟩
    · by_cases hj : i = j
      · subst hj
        rw [List.getElem?_set_self hi]
      · rw [List.getElem?_set_ne hj] at z
        rw [List.getElem?_set_ne hj]
        exact k.un j z
    · have := h1.any (v.getD .non) (i := i) (by rw [List.getElem?_set_self hi])
      have ev : (valsOf σ).set i (v.getD .non) = valsOf (σ.set i v) := by
        unfold valsOf
        rw [List.map_set]
      rw [ev] at this
      exact this
  · have hl := k.len
    have hl' : List.length σ = ρ.length := hl
    rw [List.set_eq_of_length_le (by omega), List.set_eq_of_length_le (by omega)]
    exact ⟨fp, k, fun _ h => h⟩
theorem Ok.wipe (k : Ok K Z B H σ ρ fp) : ∀ own : List Nat, ∃ f2, Ok K Z B H (L2.wipe σ own) (wipeO ρ own) f2 ∧ ∀ a ∈ f2, a ∈ fp
  | [] => ⟨fp, k, fun _ h => h⟩
  | v :: vs => by
    obtain ⟨f2, h1, h2⟩ := k.wipe vs
    obtain ⟨f3, h3, h4⟩ := h1.hide v none
    exact ⟨f3, h3, fun a ha => h2 a (h4 a ha)⟩
theorem Ok.unwipe {own : List Nat} (k : Ok K Z B H (L2.wipe σ own) (wipeO ρ own) fp) : Ok K Z B H σ (wipeO ρ own) fp := by
  have hl := k.len
  refine ⟨k.sub, fun j z => ?_, ?_, k.nd, k.out, k.nx⟩
  · cases q : own.contains j with
    | true =>
      rw [wipeO_get, if_pos q]
      rw [wipe_length] at hl
      have hj := (List.getElem?_eq_some_iff.mp z).1
      have e : (wipeO ρ own).length = ρ.length := by
        clear k z hl
        induction own with
        | nil => rfl
        | cons v vs ih =>
          show ((wipeO ρ vs).set v .hid).length = _
          rw [List.length_set]
          by_cases qq : vs.contains j = true
          · exact ih qq
          · have : ∀ vs : List Nat, (wipeO ρ vs).length = ρ.length := fun vs => by
              induction vs with
              | nil => rfl
              | cons v vs ih =>
                show ((wipeO ρ vs).set v .hid).length = _
                rw [List.length_set]; exact ih
            exact this vs
      rw [List.getElem?_eq_getElem (show j < ρ.length by omega)]
      rfl
    | false =>
      refine k.un j ?_
      rw [wipe_get, if_neg (by rw [q]; exact Bool.false_ne_true)]
      exact z
  · -- the values at the hidden places are free
    have gen : ∀ (xs : List O) (vs us : List V) (f : List Addr), ROs K B H vs xs f → us.length = vs.length → (∀ j : Nat, us[j]? = vs[j]? ∨ xs[j]? = some O.hid) → ROs K B H us xs f := fun xs => by
      induction xs with
      | nil =>
        intro vs us f r e _
        cases r
        have : us = [] := List.eq_nil_of_length_eq_zero e
        subst this
        exact .nil
      | cons x xs ih =>
        intro vs us f r e h
        cases r with
        | cons a b =>
          cases us with
          | nil => cases e
          | cons u us =>
            have t := ih _ us _ b (Nat.succ.inj e) fun j => by simpa using h (j + 1)
            rcases h 0 with q | q
            · have q' := Option.some.inj (show some u = some _ from q)
              subst q'
              exact .cons a t
            · have q' : x = O.hid := by simpa using q
              subst q'
              cases a
              exact .cons .hid t
    refine gen _ _ _ _ k.rs (by unfold valsOf; rw [List.length_map, List.length_map, wipe_length]) fun j => ?_
    cases q : own.contains j with
    | true =>
      by_cases hj : j < (wipeO ρ own).length
      · right
        have e := wipeO_get own ρ j
        rw [if_pos q] at e
        rw [List.getElem?_eq_getElem hj] at e ⊢
        cases z : (ρ[j]? : Option O) with
        | none => rw [z] at e; cases e
        | some y => rw [z] at e; exact e
      · left
        rw [valsOf_get, valsOf_get]
        have h1 : List.length σ = (wipeO ρ own).length := by
          have := k.len
          rw [wipe_length] at this
          exact this
        rw [List.getElem?_eq_none (by omega), List.getElem?_eq_none (by rw [wipe_length]; omega)]
    | false =>
      left
      rw [valsOf_get, valsOf_get, wipe_get, if_neg (by rw [q]; exact Bool.false_ne_true)]
theorem Ok.write {p : Addr} {o' : HO} {f1 f2 f3 : List Addr} (k : Ok K Z B H (τ ++ σ) (xs ++ ρ) (f1 ++ f2)) (k2 : Ok K Z B H σ ρ f2) (hp : p ∈ f1) (r : ROs K B (upd H p o') (valsOf τ') xs' f3) (hs : ∀ a ∈ f3, a ∈ f1) (nd : f3.Nodup) (un : ∀ i : Nat, (τ'[i]? : Option (Option V)) ≠ some none) (hl : τ'.length = xs'.length) :
    Ok K Z B (upd H p o') (τ' ++ σ) (xs' ++ ρ) (f3 ++ f2) ∧ Nxt B H (f1 ++ f2) B (upd H p o') (f3 ++ f2) := by
  obtain ⟨n1, n2, n3⟩ := List.nodup_append.mp k.nd
  have hB : B p = none := k.out p (List.mem_append_left _ hp)
  have hm : ∀ a ∈ f3 ++ f2, a ∈ f1 ++ f2 := fun a ha => by
    rcases List.mem_append.mp ha with z | z
    · exact List.mem_append_left _ (hs a z)
    · exact List.mem_append_right _ z
  have hn : Nxt B H (f1 ++ f2) B (upd H p o') (f3 ++ f2) := ⟨Sub.refl B, fun a o e m _ => by
    rw [upd_ne (fun z => m (by rw [z]; exact List.mem_append_left _ hp))]
    exact e, fun a e => .inl e, fun a ha => .inl (hm a ha), fun a e => by
    by_cases h : a = p
    · subst h; rw [upd_same] at e; cases e
    · rwa [upd_ne h] at e, TbK.upd fun o e => by
    obtain ⟨o', e', q⟩ := k.rs.liveP p (List.mem_append_left _ hp)
    rw [e] at e'; cases e'; exact q, fun h => h⟩
  refine ⟨⟨k.sub.updR hB, fun i z => ?_, ?_, List.nodup_append.mpr ⟨nd, n2, fun a ha b hb e => n3 a (hs a ha) b hb e⟩, fun a ha => k.out a (hm a ha), k.nx.trans hn⟩, hn⟩
  · by_cases hi : i < List.length τ'
    · rw [List.getElem?_append_left hi] at z
      exact absurd z (un i)
    · rw [List.getElem?_append_right (by omega)] at z
      rw [List.getElem?_append_right (by omega), ← hl]
      exact k2.un _ z
  · rw [valsOf_append]
    exact r.append (k2.rs.next (Sub.refl B) fun a ha o e _ => by
      rw [upd_ne (fun z => n3 p hp a ha z.symm)]
      exact e)
theorem ROs.upd {vs : List V} {f : List Addr} {p : Addr} {o : HO} (r : ROs K B H vs xs f) (h : p ∉ f) : ROs K B (L2.upd H p o) vs xs f := r.next (Sub.refl B) fun a ha u e _ => by
  rw [upd_ne (fun z => h (by rw [← z]; exact ha))]
  exact e
theorem Ok.push {D : Addr} {y : V} {acc : List O} {dy : O} (k : Ok K Z B H (some (.ref D) :: some y :: σ) (.ol acc :: dy :: ρ) fp) : ∃ vs f3, H D = some (.lst vs) ∧ vs.length = acc.length ∧ Ok K Z B (upd H D (.lst (vs ++ [y]))) (some (.ref D) :: σ) (.ol (acc ++ [dy]) :: ρ) f3 ∧ Nxt B H fp B (upd H D (.lst (vs ++ [y]))) f3 := by
  obtain ⟨f1, f2, rfl, r, k2, _⟩ := Ok.frame (τ := [some (.ref D), some y]) (xs := [.ol acc, dy]) k rfl
  obtain ⟨n1, n2, n3⟩ := List.nodup_append.mp k.nd
  rw [show valsOf [some (V.ref D), some y] = [.ref D, y] from rfl] at r
  cases r with
  | @cons _ _ _ _ g1 g2 a b =>
    cases a with
    | @ol _ vs _ g0 hD rr =>
      cases b with
      | @cons _ _ _ _ g3 g4 c d =>
        cases d
        rw [List.append_nil] at *
        have nd := n1
        rw [List.cons_append] at nd
        obtain ⟨m1, m2⟩ := List.nodup_cons.mp nd
        have hw := Ok.write (τ := [some (.ref D), some y]) (xs := [.ol acc, dy]) (τ' := [some (.ref D)]) (xs' := [.ol (acc ++ [dy])]) (p := D) (o' := .lst (vs ++ [y])) (f1 := D :: g0 ++ g3) (f2 := f2) (f3 := D :: (g0 ++ g3) ++ []) k k2 (List.mem_cons_self ..)
          (.cons (.ol upd_same ((rr.append (.cons c .nil)).upd (by rw [List.append_nil]; exact m1) |> fun z => by rw [List.append_nil] at z; exact z)) .nil) (fun a ha => by rw [List.append_nil] at ha; exact ha) (by rw [List.append_nil]; exact n1) (fun i z => by
            cases i with
            | zero => cases z
            | succ i => cases i <;> cases z) rfl
        exact ⟨vs, _, hD, rr.length, hw.1, hw.2⟩
end
section
variable {X : Cx} {Z : Ent} {ps own : List Nat} {pos : Pos} {w : WE} {wt : WT} {g : WG}
theorem e_lc_ok {K : PySem.W.Frag} {wi : WI} {ow : List (Str × Nat)} {σ : St} {H : Hp} {Q : VK} (h : tE K Z (wLc wi g wt w (ow.map (·.2))) σ H Q) : tLc (tI K Z wi) (tG K Z (ow.map (·.2)) g) (tT K Z wt) (tE K Z w) (ow.map (·.2)) σ H Q := by
  generalize ow.map (·.2) = own at *
  obtain ⟨B, ρ, fp, R, k, h, q⟩ := h
  refine ⟨B, ρ, fp, _, k, h, fun items ρ1 h1 J H1 B1 f1 n1 k1 hJ D hD => ?_⟩
  obtain ⟨hz, h1⟩ := h1
  obtain ⟨f2, kw, hs2⟩ := k1.wipe own
  have o0 : Out K B1 H1 (.ref D) (.ol (([] : List PyData).map O.fz)) B1 (upd H1 D (.lst [])) := Out.lstO .nil k1.sub hD
  obtain ⟨g0, k0, n0⟩ := o0.ok kw
  refine ⟨fun i m H' => i + m = items.length ∧ ∃ B' ρ' fp' acc, Nxt B1 H1 f1 B' H' fp' ∧ Ok K Z B' H' (some (.ref D) :: wipe σ own) (.ol acc :: wipeO ρ' own) fp' ∧ acc.length ≤ i ∧ lcN g wt w own (fun out ρ2 => R (.ol out) (wipeO ρ2 own)) (items.drop i) ρ' acc,
    ⟨items.length, Nat.zero_add _, B1, ρ1, g0, [], (Nxt.self hs2).trans n0, k0, Nat.le_refl _, h1⟩, fun i m H2 hW => ?_⟩
  obtain ⟨em, B2, ρ2, f3, acc, n2, k2, ha, h2⟩ := hW
  obtain ⟨ja, jb⟩ := hJ B2 H2 _ n2 k2.sub i
  by_cases hi : i < items.length
  · obtain ⟨hgo, hy⟩ := ja hi
    refine .inr ⟨hgo, fun H' => ∃ B' ρ' fp' acc, Nxt B1 H1 f1 B' H' fp' ∧ Ok K Z B' H' (some (.ref D) :: wipe σ own) (.ol acc :: wipeO ρ' own) fp' ∧ acc.length ≤ i + 1 ∧ lcN g wt w own (fun out ρ2 => R (.ol out) (wipeO ρ2 own)) (items.drop (i + 1)) ρ' acc, fun H' hN => ⟨m - 1, by omega, by omega, hN⟩, fun x H3 hyl => ?_⟩
    obtain ⟨d, B3, hd, o3⟩ := hy x H3 hyl
    rw [List.drop_eq_getElem_cons hi] at h2
    have ed : items[i] = d := by
      rw [List.getElem?_eq_getElem hi] at hd
      exact Option.some.inj hd
    rw [ed] at h2
    obtain ⟨fD, fE, rfl, rD, kE, fr⟩ := Ok.frame (τ := [some (.ref D)]) (xs := [.ol acc]) k2 rfl
    obtain ⟨g3, k3, n3⟩ := o3.ok kE
    refine ⟨B3, _, g3, _, _, k3, h2, fun ρ4 h4 σ4 H4 B4 f4 n4 k4 ag => ⟨ag.wipe.trans (by
      refine List.ext_getElem? fun k => ?_
      rw [wipe_get, wipe_get]
      cases qq : own.contains k with
      | false => rfl
      | true =>
        rw [if_pos rfl, if_pos rfl]
        cases (σ[k]? : Option (Option V)) <;> rfl), ?_⟩⟩
    have e4 : wipe σ4 own = wipe σ own := ag.wipe.trans (by
      refine List.ext_getElem? fun k => ?_
      rw [wipe_get, wipe_get]
      cases qq : own.contains k with
      | false => rfl
      | true =>
        rw [if_pos rfl, if_pos rfl]
        cases (σ[k]? : Option (Option V)) <;> rfl)
    have n14 := n3.trans n4
    refine ⟨B4, ρ4, f4, _, k4, h4, fun b ρ5 h5 H5 B5 f5 n5 k5 => ?_⟩
    cases b with
    | true =>
      rw [if_pos rfl]
      refine ⟨B5, ρ5, f5, _, k5, h5, fun y ρ6 h6 v H6 B6 f6 n6 k6 => ?_⟩
      obtain ⟨k7, n7⟩ := fr ((n14.trans n5).trans n6) k6
      obtain ⟨vs, f8, hDv, hlv, k8, n8⟩ := Ok.push k7
      refine ⟨vs, hDv, szLt (by omega), ?_⟩
      obtain ⟨f9, k9, hs9⟩ : ∃ f9, Ok K Z B6 (upd H6 D (.lst (vs ++ [v]))) (some (.ref D) :: wipe σ4 own) (.ol (acc ++ [y]) :: wipeO ρ6 own) f9 ∧ ∀ a ∈ f9, a ∈ f8 := by
        obtain ⟨a1, a2, rfl, a3, a4, _⟩ := Ok.frame (τ := [some (.ref D)]) (xs := [.ol (acc ++ [y])]) k8 rfl
        obtain ⟨a5, a6, a7⟩ := a4.wipe own
        obtain ⟨m1, m2, m3⟩ := List.nodup_append.mp k8.nd
        have hsub : ∀ a ∈ a1 ++ a5, a ∈ a1 ++ a2 := fun a ha => by
          rcases List.mem_append.mp ha with z | z
          · exact List.mem_append_left _ z
          · exact List.mem_append_right _ (a7 a z)
        refine ⟨a1 ++ a5, k8.part (fun j z => ?_) (a3.append a6.rs) (List.nodup_append.mpr ⟨m1, a6.nd, fun a ha b hb e => m3 a ha b (a7 b hb) e⟩) hsub, hsub⟩
        cases j with
        | zero => cases z
        | succ j => exact a6.un j z
      rw [e4] at k9
      exact ⟨B6, ρ6, f9, acc ++ [y], ((n2.trans n7).trans n8).less hs9, k9, by rw [List.length_append, List.length_singleton]; omega, h6⟩
    | false =>
      rw [if_neg Bool.false_ne_true]
      obtain ⟨k7, n7⟩ := fr (n14.trans n5) k5
      obtain ⟨f9, k9, hs9⟩ : ∃ f9, Ok K Z B5 H5 (some (.ref D) :: wipe σ4 own) (.ol acc :: wipeO ρ5 own) f9 ∧ ∀ a ∈ f9, a ∈ fD ++ f5 := by
        obtain ⟨a1, a2, ea, a3, a4, _⟩ := Ok.frame (τ := [some (.ref D)]) (xs := [.ol acc]) k7 rfl
        obtain ⟨a5, a6, a7⟩ := a4.wipe own
        have nd := k7.nd
        rw [ea] at nd ⊢
        obtain ⟨m1, m2, m3⟩ := List.nodup_append.mp nd
        have hsub : ∀ a ∈ a1 ++ a5, a ∈ a1 ++ a2 := fun a ha => by
          rcases List.mem_append.mp ha with z | z
          · exact List.mem_append_left _ z
          · exact List.mem_append_right _ (a7 a z)
        refine ⟨a1 ++ a5, k7.part (fun j z => ?_) (a3.append a6.rs) (List.nodup_append.mpr ⟨m1, a6.nd, fun a ha b hb e => m3 a ha b (a7 b hb) e⟩) (fun a ha => by rw [ea]; exact hsub a ha), hsub⟩
        cases j with
        | zero => cases z
        | succ j => exact a6.un j z
      rw [e4] at k9
      exact ⟨B5, ρ5, f9, acc, (n2.trans n7).less hs9, k9, by omega, h5⟩
  · refine .inl ⟨jb (by omega), ?_⟩
    rw [List.drop_eq_nil_of_le (by omega)] at h2
    obtain ⟨a1, a2, rfl, a3, a4, _⟩ := Ok.frame (τ := [some (.ref D)]) (xs := [.ol acc]) k2 rfl
    have a5 := a4.unwipe
    refine q _ _ h2 (.ref D) H2 B2 (a1 ++ a2) (n1.trans n2) ⟨k2.sub, fun j z => ?_, ?_, k2.nd, k2.out, k2.nx⟩
    · cases j with
      | zero => cases z
      | succ j => exact a5.un j z
    · rw [valsOf_cons]
      exact a3.append a5.rs
def toLf : O → (O → Prop) → Prop
  | .ol xs, k => ∃ ds, xs = ds.map O.fz ∧ k (.lf ds)
  | .lf ds, k => k (.lf ds)
  | _, _ => False
def wLf (w : WE) : WE := fun ρ R => w ρ fun d ρ1 => toLf d fun d' => R d' ρ1
theorem lf_ok {K : PySem.W.Frag} {σ : St} {H : Hp} {Q : VK} (h : tE K Z (wLf w) σ H Q) : tE K Z w σ H Q := by
  obtain ⟨B, ρ, fp, R, k, h, q⟩ := h
  refine ⟨B, ρ, fp, _, k, h, fun d ρ' h1 v H' B' fp' n k1 => ?_⟩
  cases d with
  | lf ds => exact q _ ρ' h1 v H' B' fp' n k1
  | ol xs =>
    obtain ⟨ds, rfl, h2⟩ := h1
    refine q _ ρ' h2 v H' B' fp' n ⟨k1.sub, fun i z => ?_, ?_, k1.nd, k1.out, k1.nx⟩
    · cases i with
      | zero => cases z
      | succ i => exact k1.un (i + 1) z
    · have rs := k1.rs
      rw [valsOf_cons] at rs ⊢
      cases rs with
      | cons a b =>
        cases a with
        | ol e r =>
          obtain ⟨rr, e2⟩ := ROs.unfz r
          subst e2
          exact .cons (.lf e rr) b
  | _ => exact False.elim h1
theorem e_lf {e : Expr} (h : PE X e (tE X.K Z w)) : PE X e (tE X.K Z (wLf w)) := pe_to h fun _ _ _ q => lf_ok q
structure Up (K : PySem.W.Frag) (Z : Ent) (U : WE → WE) : Prop where
  ok : ∀ w σ H Q, tE K Z (U w) σ H Q → tE K Z w σ H Q
theorem up_id {K : PySem.W.Frag} : Up K Z id := ⟨fun _ _ _ _ h => h⟩
theorem up_lf {K : PySem.W.Frag} : Up K Z wLf := ⟨fun _ _ _ _ h => lf_ok h⟩
variable {elt tg iter : Expr} {ifs : List Expr} {scope : Scope} {ow : List (Str × Nat)} {wi : WI}
theorem e_lc (hc : X.calm = true) (hN : X.N.Nodup) (hi : PI X tg iter (tI X.K Z wi)) (ok : BlkOk X.N X.env.scope scope ow) (hg : ∀ (s : Shared) (H : Hp) (C : Addr) (cl : List (Str × Addr)) (fp : List Addr), PG (X.blk s H scope (compEnvC scope cl C X.env) fp) tg (tG X.K Z (ow.map (·.2)) g))
    (ht : ∀ (s : Shared) (H : Hp) (C : Addr) (cl : List (Str × Addr)) (fp : List Addr), PTs (X.blk s H scope (compEnvC scope cl C X.env) fp) ifs (tT X.K Z wt)) (he : ∀ (s : Shared) (H : Hp) (C : Addr) (cl : List (Str × Addr)) (fp : List Addr), PE (X.blk s H scope (compEnvC scope cl C X.env) fp) elt (tE X.K Z w))
    (hs : ∀ x, foldedSetIterable iter X.env x = pure x := by intro _; rfl) : PE X (.ListComp elt [⟨tg, iter, ifs, 0⟩] scope pos) (tE X.K Z (wLc wi g wt w (ow.map (·.2)))) :=
  pe_to (pe_lc hc hN hi ok hg ht he hs) fun σ H Q q => e_lc_ok q
theorem ts_nil : PTs X [] (tT X.K Z wYes) := ⟨fun pins s σ H Q I q => pts_nil.run pins s σ H Q I (by
  obtain ⟨B, ρ, fp, R, k, h, q⟩ := q
  exact q true ρ h H B fp (Nxt.refl _ _ _) k)⟩
theorem ts_one {c : Expr} (h : PT X c (tT X.K Z wt)) : PTs X [c] (tT X.K Z wt) := pts_one h
theorem s_setLc {U : WE → WE} {i : Nat} {y : Str} {py spos : Pos} (up : Up X.K Z U) (hc : X.calm = true) (hN : X.N.Nodup) (hy : X.N[i]? = some y) (hyl : X.env.scope.names.lookup y = some .local) (hp : ps.contains i = false) (hsw : swapsWith (.ListComp elt [⟨tg, iter, ifs, 0⟩] scope pos) (some (.Name y py)) spos.line X.env = pure true) (hi : PI X tg iter (tI X.K Z wi)) (ok : BlkOk X.N X.env.scope scope ow)
    (hg : ∀ (s : Shared) (H : Hp) (C : Addr) (cl : List (Str × Addr)) (fp : List Addr), PG (X.blk s H scope (compEnvC scope cl C X.env) fp) tg (tG X.K Z (ow.map (·.2)) g)) (ht : ∀ (s : Shared) (H : Hp) (C : Addr) (cl : List (Str × Addr)) (fp : List Addr), PTs (X.blk s H scope (compEnvC scope cl C X.env) fp) ifs (tT X.K Z wt))
    (he : ∀ (s : Shared) (H : Hp) (C : Addr) (cl : List (Str × Addr)) (fp : List Addr), PE (X.blk s H scope (compEnvC scope cl C X.env) fp) elt (tE X.K Z w)) (hs : ∀ x, foldedSetIterable iter X.env x = pure x := by intro _; rfl) : PS X (.Assign [.Name y py] (.ListComp elt [⟨tg, iter, ifs, 0⟩] scope pos) spos) (tS X.K Z ps (sStore i (U (wLc wi g wt w (ow.map (·.2)))))) :=
  ps_to (ps_setLc hc hN hy hyl hsw hi ok hg ht he hs) fun D σ H q => e_lc_ok (up.ok _ _ _ _ (sStore_ok hp q))
end
end Pt
namespace Pt
open PySem PySem.Spec L2
theorem enum1_meets {u : Value} {ob : Obj} {G : Heap → Prop} (S : Begins u ob G) :
    Meets (Builtin.«enumerate.__new__» ⟨[.type "enumerate", u], []⟩) (fun _ R s => G s.heap ∧
      R (.ok (.ret (.ref (s.heap.push ob).objs.size))) { s with heap := (s.heap.push ob).push { cls := .type "enumerate", data := .fields #[.none, .bool false, .ref s.heap.objs.size, rawInt 0, .none, .none] } }) :=
  .of_wp fun prog w A R s hh => by
    obtain ⟨hp, gg, dd, tk, os⟩ := s; obtain ⟨hG, hh⟩ := hh
    have hsub := sub_enumerate
    have it1 : ∀ {B : Around} {E : Value → Shared → Prop} {Q : Value → Shared → Prop}, Q (.ref hp.objs.size) ⟨hp.push ob, gg, dd, tk, os⟩ → wpAny (model prog w) B (pyIter u) Q E ⟨hp, gg, dd, tk, os⟩ :=
      fun q => S.iter prog w _ _ ⟨hp, gg, dd, tk, os⟩ _ hG q
    wp_walk using it1
    refine wpAny_stack_any fun st => wpAny_pure ?_
    split
    · rename_i cc _ _ _ _ _
      cases (cc == Value.type "enumerate")
      · wp_walk using it1
        exact ⟨_, rfl, hh⟩
      · wp_walk using it1
        exact ⟨_, rfl, hh⟩
    · wp_walk using it1
      exact ⟨_, rfl, hh⟩
theorem enum1_call {prog : Program} {w : World} {A : Around} {E : Value → Shared → Prop} {s : Shared} {u : Value} {ob : Obj} {G : Heap → Prop} {Q : Value → Shared → Prop} (S : Begins u ob G) (hG : G s.heap)
    (q : ∀ h', IsEnum h' (s.heap.objs.size + 1) s.heap.objs.size 0 .none → h'.get? s.heap.objs.size = some ob → h'.objs.size = s.heap.objs.size + 2 → (∀ b o, s.heap.get? b = some o → h'.get? b = some o) → Q (.ref (s.heap.objs.size + 1)) { s with heap := h' }) :
    wpAny (model prog w) A (call (.type "enumerate") [u]) Q E s := by
  refine callType_new F.called_enumerate (by decide) (F.typeCall_enumerate_1 _) (F.newCall_enumerate_1 _) (fun obj => F.args_object_init_2 obj _) F.entry_enumerate_new (enum1_meets S) ⟨hG, ?_⟩
  have e1 : (s.heap.push ob).objs.size = s.heap.objs.size + 1 := Heap.size_push ..
  show _ ∧ _
  rw [e1]
  have e2 : IsEnum ((s.heap.push ob).push { cls := .type "enumerate", data := .fields #[.none, .bool false, .ref s.heap.objs.size, rawInt 0, .none, .none] }) (s.heap.objs.size + 1) s.heap.objs.size 0 .none := by
    have z := Heap.get?_push_size (s.heap.push ob) (o := { cls := .type "enumerate", data := .fields #[.none, .bool false, .ref s.heap.objs.size, rawInt 0, .none, .none] }) rfl
    rw [e1] at z; exact z
  exact ⟨⟨_, e2, rfl⟩, q _ e2 (Heap.get?_push_of_some _ (Heap.get?_push_size _ S.free)) (by rw [Heap.size_push, e1]) fun b o x => Heap.get?_push_of_some _ (Heap.get?_push_of_some _ x)⟩
def ItET (K : PySem.W.Frag) (a : Addr) : It :=
  ⟨fun i H => ∃ (xs : List V) (x : V), SqT K H a xs ∧ xs[i]? = some x, fun i H v H' => ∃ T x, v = .ref T ∧ H T = none ∧ H' = upd H T (.tup [.int (i : Nat), x]) ∧ ∀ xs, SqT K H a xs → xs[i]? = some x, fun i H => ∃ xs : List V, SqT K H a xs ∧ i = xs.length⟩
theorem turn_enumT {P : Program} {w : World} {K : PySem.W.Frag} {elts : List Expr} {kk : Nat} {tpos : Pos} (a e it : Addr) (hae : a ≠ it) :
    Turn P w K (.Tuple elts kk tpos) (ItET K a) [e, it] e (fun i h => (∃ old, IsEnum h e it ((i : Nat) : Int) old) ∧ h.IsTupleIter it a i ∧ e ≠ it ∧ a ≠ e) where
  mem := List.mem_cons_self ..
  obj := fun i h st b hb => by
    obtain ⟨⟨old, q1⟩, ⟨o, q2, q3, q4⟩, _⟩ := st
    rcases List.mem_cons.mp hb with z | hb
    · subst z; exact ⟨_, q1, fun v q => nomatch q⟩
    · rw [List.mem_singleton.mp hb]; exact ⟨o, q2, fun v q => by rw [q4] at q; cases q⟩
  keep := fun i h h' st k => by
    obtain ⟨⟨old, q1⟩, q2, q3⟩ := st
    exact ⟨⟨old, k e (List.mem_cons_self ..) _ q1⟩, q2.at fun o q => k it (List.mem_cons_of_mem _ (List.mem_singleton.mpr rfl)) o q, q3⟩
  item := by
    intro X hP hw hK hc i pins s σ H E I hf st hg
    subst hP hw hK
    obtain ⟨⟨old, q1⟩, q2, hne, hae'⟩ := st
    obtain ⟨xs, x, hq, hx⟩ := hg
    obtain ⟨its, rv, p, hz⟩ := I.tuple hq
    obtain ⟨u, hu, ru⟩ := rv.get hx
    have hlt : i < its.toArray.size := by
      rw [List.size_toArray]
      exact (List.getElem?_eq_some_iff.mp hu).1
    have hel : e < s.heap.objs.size := Heap.lt_size q1
    have hil : it < s.heap.objs.size := by obtain ⟨_, q, _⟩ := q2; exact Heap.lt_size q
    have hh : X.A.in1.handled = none := I.ok.hd hc
    have hea : e ∉ [it, a] := fun z => by
      rcases List.mem_cons.mp z with z | z
      · exact hne z
      · exact hae' (List.mem_singleton.mp z).symm
    refine wpAny_pyNext_enum_itemC (Draws.tuple hh it a hae its.toArray) q1 ⟨q2, p⟩ hlt hne hea fun y h' tk hy ho hst hT hsz hk => ?_
    have hyu : y = u := by
      have e0 : its.toArray[i]? = some u := by simpa using hu
      rw [e0] at hy
      exact (Option.some.inj hy).symm
    subst hyu
    refine ⟨_, rfl, wpAny_letOwnedTupleGo_enum (s := { s with heap := h', toks := tk + 1 }) ho fun h2 he2 sb => ?_⟩
    have hT2 : h2.get? s.heap.objs.size = some { cls := .type "tuple", data := .seq #[.int i tk, y] } := (sb.2 _ (Nat.ne_of_gt hel)).trans hT
    have new : ObjOk X.prog X.w (upd H s.heap.objs.size (.tup [.int (i : Nat), x])) h2 s.heap.objs.size (.tup [.int (i : Nat), x]) :=
      ⟨by show 2 ≤ sizeLine; decide, [.int i tk, y], .cons ⟨_, rfl⟩ (.cons ru .nil), ⟨_, hT2, rfl, _, rfl⟩⟩
    have I1 : L2.Inv X pins σ (upd H s.heap.objs.size (.tup [.int (i : Nat), x])) { s with heap := h2, toks := tk + 1 } :=
      I.turnedNew (ch := [e, it]) (fun b ob hb q => (sb.2 b (fun z => hb (by rw [z]; exact List.mem_cons_self ..))).trans (hk b ob (fun z => hb (by rw [z]; exact List.mem_cons_self ..)) (fun z => hb (by rw [z]; exact List.mem_cons_of_mem _ (List.mem_singleton.mpr rfl))) q)) hf (Nat.le_refl _) new
    refine ⟨.ref s.heap.objs.size, _, I1, rfl, ⟨_, x, rfl, I.hok.fresh (Nat.le_refl _), rfl, fun ys hy => by rw [I.tuple_inj hy hq]; exact hx⟩, ⟨⟨y, ?_⟩, hst.1.at fun o q => (sb.2 it (Ne.symm hne)).trans q, hne, hae'⟩, fun b hb => ?_⟩
    · rw [show ((i + 1 : Nat) : Int) = (i : Int) + 1 by omega]; exact he2
    · have hb' : b < s.heap.objs.size := by
        rcases List.mem_cons.mp hb with z | z
        · rw [z]; exact hel
        · rw [List.mem_singleton.mp z]; exact hil
      rw [upd_ne (Nat.ne_of_lt hb')]
      exact (hf b hb).1
  done := by
    intro X hP hw hK hc i pins s σ H E I hf st hg
    subst hP hw hK
    obtain ⟨⟨old, q1⟩, q2, hne, hae'⟩ := st
    obtain ⟨xs, hq, hx⟩ := hg
    obtain ⟨its, rv, p, hz⟩ := I.tuple hq
    obtain ⟨f0, f1, f2, f3, f4, f5⟩ := hf it (List.mem_cons_of_mem _ (List.mem_singleton.mpr rfl))
    have hl := rv.length
    have hh : X.A.in1.handled = none := I.ok.hd hc
    have q2' : s.heap.IsTupleIter it a its.toArray.size := by
      rw [List.size_toArray, ← hl, ← hx]
      exact q2
    exact wpAny_pyNext_enum_endD (Draws.tuple hh it a hae its.toArray) q1 ⟨q2', p⟩ fun h' eb => ⟨rfl, I.turned (t' := s.toks) (fun b o hb q => eb b o hb q) f0 f1 f3 f4 f5⟩
  self := fun A i s Q E st h => by
    obtain ⟨⟨_, q1⟩, _⟩ := st
    exact wpAny_pyIter_enum q1 h
section
variable {X : Cx} {Z : Ent} {tg e : Expr} {w : WE} {pos p tpos : Pos} {elts : List Expr} {kk : Nat}
theorem pi_to {t t' : TI} (h : PI X tg e t) (i : ∀ σ H R, t' σ H R → t σ H R) : PI X tg e t' := ⟨fun pins s σ H R I q => h.run pins s σ H R I (i σ H R q)⟩
def asLf : O → (List PyData → Prop) → Prop
  | .fz (.list ds), k => k ds
  | _, _ => False
def asTf : O → (List PyData → Prop) → Prop
  | .fz (.tuple ds), k => k ds
  | _, _ => False
theorem asLf_iff {x : O} {k : List PyData → Prop} (h : asLf x k) : ∃ ds, x = .fz (.list ds) ∧ k ds := by
  cases x with
  | fz f =>
    cases f with
    | list b => exact ⟨b, rfl, h⟩
    | _ => exact False.elim h
  | _ => exact False.elim h
theorem ItD.list {K : PySem.W.Frag} {B : Hp} {a : Addr} {vs : List V} {ds : List PyData} (h : SqL K B a vs) (r : RFs K B vs ds) : ItD K (Itl K a) B ds := fun B' H' s1 s2 i => by
  have hb : SqL K H' a vs := by
    rcases h with (h | ⟨o, h⟩) | h
    · exact .inl (.inl (s2 _ _ (s1 _ _ h)))
    · exact .inl (.inr ⟨o, s2 _ _ (s1 _ _ h)⟩)
    · exact .inr h
  have hl := r.length
  refine ⟨fun hi => ?_, fun hi => ⟨vs, hb, by omega⟩⟩
  obtain ⟨v, hv, rv⟩ := r.get (List.getElem?_eq_getElem hi)
  refine ⟨⟨vs, v, hb, hv⟩, fun x H2 hy => ?_⟩
  obtain ⟨rfl, f⟩ := hy
  have e := f vs hb
  rw [hv] at e
  have e' := Option.some.inj e
  subst e'
  exact ⟨_, B', List.getElem?_eq_getElem hi, Out.here (rv.mono s1) s2⟩
theorem ItD.tup {K : PySem.W.Frag} {B : Hp} {a : Addr} {vs : List V} {ds : List PyData} (h : SqT K B a vs) (r : RFs K B vs ds) : ItD K (Itt K a) B ds := fun B' H' s1 s2 i => by
  have hb : SqT K H' a vs := s2.sqT (s1.sqT h)
  have hl := r.length
  refine ⟨fun hi => ?_, fun hi => ⟨vs, hb, by omega⟩⟩
  obtain ⟨v, hv, rv⟩ := r.get (List.getElem?_eq_getElem hi)
  refine ⟨⟨vs, v, hb, hv⟩, fun x H2 hy => ?_⟩
  obtain ⟨rfl, f⟩ := hy
  have e := f vs hb
  rw [hv] at e
  have e' := Option.some.inj e
  subst e'
  exact ⟨_, B', List.getElem?_eq_getElem hi, Out.here (rv.mono s1) s2⟩
def rangeL (lo : Int) (n : Nat) : List PyData := (List.range n).map fun i => .int (lo + (i : Nat))
def rangeC (lo c : Int) (n : Nat) : List PyData := (List.range n).map fun i => .int (lo + (i : Nat) * c)
def smallI (i : Int) : Prop := -1000000000 ≤ i ∧ i ≤ 1000000000
def wiR1 (w : WE) : WI := fun ρ R => w ρ fun d ρ1 => asI d fun n => smallI n ∧ R (rangeL 0 n.toNat) ρ1
def wiR2 (w w2 : WE) : WI := fun ρ R => w ρ fun d ρ1 => asI d fun a => w2 ρ1 fun d2 ρ2 => asI d2 fun b => smallI a ∧ smallI b ∧ R (rangeL a (b - a).toNat) ρ2
def wiR3 (w w2 w3 : WE) : WI := fun ρ R => w ρ fun d ρ1 => asI d fun a => w2 ρ1 fun d2 ρ2 => asI d2 fun b => w3 ρ2 fun d3 ρ3 => asI d3 fun c => c = -1 ∧ smallI a ∧ smallI b ∧ R (rangeC a (-1) (a - b).toNat) ρ3
theorem ItD.range {K : PySem.W.Frag} {B : Hp} {lo : Int} {n : Nat} : ItD K (Itr lo n) B (rangeL lo n) := fun B' H' s1 s2 i => by
  have hl : (rangeL lo n).length = n := by unfold rangeL; rw [List.length_map, List.length_range]
  refine ⟨fun hi => ⟨by rw [hl] at hi; exact hi, fun x H2 hy => ?_⟩, fun hi => by rw [hl] at hi; exact Nat.le_of_eq hi.symm⟩
  obtain ⟨rfl, rfl⟩ := hy
  refine ⟨.int (lo + (i : Nat)), B', ?_, Out.here (.int _) s2⟩
  unfold rangeL
  rw [List.getElem?_map, List.getElem?_range (by omega)]
  rfl
theorem ItD.rangeC {K : PySem.W.Frag} {B : Hp} {lo c : Int} {n : Nat} : ItD K (Itc lo c n) B (Pt.rangeC lo c n) := fun B' H' s1 s2 i => by
  have hl : (Pt.rangeC lo c n).length = n := by unfold Pt.rangeC; rw [List.length_map, List.length_range]
  refine ⟨fun hi => ⟨by rw [hl] at hi; exact hi, fun x H2 hy => ?_⟩, fun hi => by rw [hl] at hi; exact Nat.le_of_eq hi.symm⟩
  obtain ⟨rfl, rfl⟩ := hy
  refine ⟨.int (lo + (i : Nat) * c), B', ?_, Out.here (.int _) s2⟩
  unfold Pt.rangeC
  rw [List.getElem?_map, List.getElem?_range (by omega)]
  rfl
theorem i_r1 {a : Expr} {w : WE} (hg : Gl X "range") (hm : X.mg "range" = none) (ha : PE X a (tE X.K Z w)) (hs : starEach [a] X.env = [(false, eval a X.env)] := by rfl) : PI X tg (.Call (.Name "range" p) [a] [] pos) (tI X.K Z (wiR1 w)) :=
  pi_to (pi_range1 hg hm (pa_cons ha pa_nil hs) hs) fun σ H R q => by
    obtain ⟨B, ρ, fp, Rd, k, h, q⟩ := q
    refine ⟨B, ρ, fp, _, k, h, fun d ρ' h1 v H' B' fp' n k1 => ?_⟩
    obtain ⟨j, rfl, ⟨h2, h3⟩, h4⟩ := asI_iff h1
    have r := k1.headF
    obtain ⟨f2, k2, hs⟩ := k1.drop1
    cases r
    exact ⟨j, rfl, by omega, by omega, q _ ρ' h4 _ H' B' f2 (n.less hs) k2 (ItD.n _ ItD.range)⟩
def enumL (ds : List PyData) : List PyData := ds.zipIdx.map fun p => .tuple [.int (p.2 : Nat), p.1]
theorem enumL_get {ds : List PyData} {i : Nat} {d : PyData} (h : ds[i]? = some d) : (enumL ds)[i]? = some (.tuple [.int (i : Nat), d]) := by
  unfold enumL
  rw [List.getElem?_map, List.getElem?_zipIdx, h]
  show some (PyData.tuple [.int ((0 + i : Nat) : Int), d]) = _
  rw [Nat.zero_add]
theorem enumL_len (ds : List PyData) : (enumL ds).length = ds.length := by
  unfold enumL
  rw [List.length_map, List.length_zipIdx]
theorem ItD.enumT {K : PySem.W.Frag} {B : Hp} {a : Addr} {vs : List V} {ds : List PyData} (h : SqT K B a vs) (r : RFs K B vs ds) : ItD K (ItET K a) B (enumL ds) := fun B' H' s1 s2 i => by
  have hb : SqT K H' a vs := s2.sqT (s1.sqT h)
  have hl := r.length
  rw [enumL_len]
  refine ⟨fun hi => ?_, fun hi => ⟨vs, hb, by omega⟩⟩
  obtain ⟨v, hv, rv⟩ := r.get (List.getElem?_eq_getElem hi)
  refine ⟨⟨vs, v, hb, hv⟩, fun x H2 hy => ?_⟩
  obtain ⟨T, y, rfl, hT, rfl, f⟩ := hy
  have e := f vs hb
  rw [hv] at e
  have e' := Option.some.inj e
  subst e'
  exact ⟨_, _, enumL_get (List.getElem?_eq_getElem hi), Out.tup (.cons (.int _) (.cons (rv.mono s1) .nil)) s2 hT⟩
theorem ItD.enumL {K : PySem.W.Frag} {B : Hp} {a : Addr} {vs : List V} {ds : List PyData} (h : SqL K B a vs) (r : RFs K B vs ds) : ItD K (Ite K a) B (Pt.enumL ds) := fun B' H' s1 s2 i => by
  have hb : SqL K H' a vs := by
    rcases h with (h | ⟨o, h⟩) | h
    · exact .inl (.inl (s2 _ _ (s1 _ _ h)))
    · exact .inl (.inr ⟨o, s2 _ _ (s1 _ _ h)⟩)
    · exact .inr h
  have hl := r.length
  rw [enumL_len]
  refine ⟨fun hi => ?_, fun hi => ⟨vs, hb, by omega⟩⟩
  obtain ⟨v, hv, rv⟩ := r.get (List.getElem?_eq_getElem hi)
  refine ⟨⟨vs, v, hb, hv⟩, fun x H2 hy => ?_⟩
  obtain ⟨T, y, rfl, hT, rfl, f⟩ := hy
  have e := f vs hb
  rw [hv] at e
  have e' := Option.some.inj e
  subst e'
  exact ⟨_, _, enumL_get (List.getElem?_eq_getElem hi), Out.tup (.cons (.int _) (.cons (rv.mono s1) .nil)) s2 hT⟩
def zipL (ds es : List PyData) : List PyData := (ds.zip es).map fun p => .tuple [p.1, p.2]
def wiZL (w w2 : WE) : WI := fun ρ R => wFz w ρ fun d ρ1 => asLf d fun ds => wFz w2 ρ1 fun d2 ρ2 => asLf d2 fun es => R (zipL ds es) ρ2
theorem zipL_len (ds es : List PyData) : (zipL ds es).length = min ds.length es.length := by
  unfold zipL
  rw [List.length_map, List.length_zip]
theorem zipL_get {ds es : List PyData} {i : Nat} {d e : PyData} (h : ds[i]? = some d) (h2 : es[i]? = some e) : (zipL ds es)[i]? = some (.tuple [d, e]) := by
  unfold zipL
  have e : (ds.zip es)[i]? = some (d, e) := List.getElem?_zip_eq_some.mpr ⟨h, h2⟩
  rw [List.getElem?_map, e]
  rfl
theorem ItD.zipL {K : PySem.W.Frag} {B : Hp} {a b : Addr} {vs us : List V} {ds es : List PyData} (h : SqL K B a vs) (r : RFs K B vs ds) (h2 : SqL K B b us) (r2 : RFs K B us es) : ItD K (Itz K a b) B (Pt.zipL ds es) := fun B' H' s1 s2 i => by
  have up : ∀ {c : Addr} {ws : List V}, SqL K B c ws → SqL K H' c ws := fun h => by
    rcases h with (h | ⟨o, h⟩) | h
    · exact .inl (.inl (s2 _ _ (s1 _ _ h)))
    · exact .inl (.inr ⟨o, s2 _ _ (s1 _ _ h)⟩)
    · exact .inr h
  have hl := r.length
  have hl2 := r2.length
  rw [zipL_len]
  refine ⟨fun hi => ?_, fun hi => ⟨vs, us, up h, up h2, by omega⟩⟩
  have i1 : i < ds.length := by omega
  have i2 : i < es.length := by omega
  obtain ⟨v, hv, rv⟩ := r.get (List.getElem?_eq_getElem i1)
  obtain ⟨u, hu, ru⟩ := r2.get (List.getElem?_eq_getElem i2)
  refine ⟨⟨vs, us, v, u, up h, up h2, hv, hu⟩, fun x H2 hy => ?_⟩
  obtain ⟨T, y, z, rfl, hT, rfl, f, g⟩ := hy
  have e := f vs (up h)
  rw [hv] at e
  have e' := Option.some.inj e
  subst e'
  have e := g us (up h2)
  rw [hu] at e
  have e' := Option.some.inj e
  subst e'
  exact ⟨_, _, zipL_get (List.getElem?_eq_getElem i1) (List.getElem?_eq_getElem i2), Out.tup (.cons (rv.mono s1) (.cons (ru.mono s1) .nil)) s2 hT⟩
theorem i_zipL {a b : Expr} {w w2 : WE} (hg : Gl X "zip") (hm : X.mg "zip" = none) (ha : PE X a (tE X.K Z w)) (hb : PE X b (tE X.K Z w2)) (hs : starEach [a, b] X.env = (false, eval a X.env) :: starEach [b] X.env := by rfl) (hs2 : starEach [b] X.env = (false, eval b X.env) :: starEach [] X.env := by rfl) (hpl : (backTo pos (starEach [b] X.env)).any (·.1) = false := by rfl) : PI X (.Tuple elts kk tpos) (.Call (.Name "zip" p) [a, b] [] pos) (tI X.K Z (wiZL w w2)) :=
  pi_to (pi_zip hg hm (pa_cons (e_fz ha) (pa_cons (e_fz hb) pa_nil hs2) hs) hs hpl) fun σ H R q => by
    obtain ⟨B, ρ, fp, Rd, k, h, q⟩ := q
    refine ⟨B, ρ, fp, _, k, h, fun d ρ1 h1 v H1 B1 fp1 n1 k1 => ?_⟩
    obtain ⟨ds, rfl, h2⟩ := asLf_iff h1
    have r := k1.headF
    obtain ⟨f2, k2, hs⟩ := k1.drop1
    refine ⟨B1, ρ1, f2, _, k2, h2, fun d ρ2 h3 v2 H2 B2 fp2 n2 k3 => ?_⟩
    obtain ⟨es, rfl, h4⟩ := asLf_iff h3
    have r2 := k3.headF
    obtain ⟨f3, k4, hs3⟩ := k3.drop1
    cases r with
    | @lst a vs _ hB rr =>
      cases r2 with
      | @lst b us _ hB2 rr2 =>
        have hB' := n2.bsub _ _ hB
        exact ⟨a, b, vs, us, rfl, SqL.of (k3.sub _ _ hB'), SqL.of (k3.sub _ _ hB2), q _ ρ2 h4 _ H2 B2 f3 (((n1.less hs).trans n2).less hs3) k4 (ItD.n _ (ItD.zipL (.inl (.inl hB')) (rr.mono n2.bsub) (.inl (.inl hB2)) rr2))⟩
end
end Pt
namespace Pt
open PySem PySem.Spec L2
def unf : List O → Option (List PyData)
  | [] => some []
  | .fz f :: r => (unf r).map (f :: ·)
  | _ :: _ => none
theorem unf_iff : ∀ {xs : List O} {ds : List PyData}, unf xs = some ds → xs = ds.map O.fz
  | [], ds, h => by cases h; rfl
  | x :: xs, ds, h => by
    cases x with
    | fz f =>
      simp only [unf] at h
      cases q : unf xs with
      | none => rw [q] at h; cases h
      | some es =>
        rw [q] at h
        cases h
        rw [unf_iff q]
        rfl
    | _ => cases h
def vL : O → Option (List PyData)
  | .fz (.list ds) => some ds
  | .lf ds => some ds
  | .ol xs => unf xs
  | _ => none
def vT : O → Option (List PyData)
  | .fz (.tuple ds) => some ds
  | .ot xs => unf xs
  | _ => none
section
variable {K : PySem.W.Frag} {B H : Hp} {v : V} {x : O} {f : List Addr} {ds : List PyData}
theorem RO.vL (s : Sub B H) (r : RO K B H v x f) (h : vL x = some ds) : ∃ a vs, v = .ref a ∧ H a = some (.lst vs) ∧ RFs K B vs ds := by
  cases x with
  | fz g =>
    cases g with
    | list es =>
      cases h
      cases r with
      | fz r => cases r with
        | lst e r => exact ⟨_, _, rfl, s _ _ e, r⟩
    | _ => cases h
  | lf es =>
    cases h
    cases r with
    | lf e r => exact ⟨_, _, rfl, e, r⟩
  | ol xs =>
    cases r with
    | ol e r =>
      have h' : unf xs = some ds := h
      rw [unf_iff h'] at r
      exact ⟨_, _, rfl, e, (ROs.unfz r).1⟩
  | _ => cases h
theorem RO.vT (s : Sub B H) (r : RO K B H v x f) (h : vT x = some ds) : ∃ a vs, v = .ref a ∧ SqT K H a vs ∧ RFs K B vs ds := by
  cases x with
  | fz g =>
    cases g with
    | tuple es =>
      cases h
      cases r with
      | fz r => cases r with
        | tup e r => exact ⟨_, _, rfl, s.sqT e, r⟩
    | _ => cases h
  | ot xs =>
    cases r with
    | ot e r =>
      have h' : unf xs = some ds := h
      rw [unf_iff h'] at r
      exact ⟨_, _, rfl, SqT.of (s _ _ e), (ROs.unfz r).1⟩
  | _ => cases h
theorem ros1 {vs : List V} {x : O} (r : ROs K B H vs [x] f) : ∃ v g, vs = [v] ∧ RO K B H v x g := by
  cases r with
  | cons a b => cases b; exact ⟨_, _, rfl, a⟩
theorem ros2 {vs : List V} {x y : O} (r : ROs K B H vs [x, y] f) : ∃ v w g1 g2, vs = [v, w] ∧ RO K B H v x g1 ∧ RO K B H w y g2 := by
  cases r with
  | cons a b => cases b with
    | cons c d => cases d; exact ⟨_, _, _, _, rfl, a, c⟩
end
def oI2 (C : Int → Int → Prop) (g : Int → Int → PyData) : List O → (O → Prop) → Prop
  | [.fz (.int i), .fz (.int j)], R => C i j ∧ R (.fz (g i j))
  | _, _ => False
theorem oI2_iff {C : Int → Int → Prop} {g : Int → Int → PyData} {xs : List O} {R : O → Prop} (h : oI2 C g xs R) : ∃ i j, xs = [.fz (.int i), .fz (.int j)] ∧ C i j ∧ R (.fz (g i j)) := by
  unfold oI2 at h
  split at h
  · exact ⟨_, _, rfl, h.1, h.2⟩
  · exact h.elim
theorem rd_I2 {K : PySem.W.Frag} {C : Int → Int → Prop} {g : Int → Int → PyData} {gv : Int → Int → V} (hg : ∀ B i j, RF K B (gv i j) (g i j)) : Rd K (r2L (rI C gv)) (oI2 C g) := fun B H vs xs f R Q s rr h q => by
  obtain ⟨i, j, rfl, hc, h⟩ := oI2_iff h
  obtain ⟨v, w, _, _, rfl, r1, r2⟩ := ros2 rr
  cases r1 with
  | fz r1 =>
    cases r1
    cases r2 with
    | fz r2 =>
      cases r2
      exact ⟨i, j, rfl, rfl, hc, q _ h _ B H (Out.here (hg B i j) s)⟩
theorem rd_I20 {K : PySem.W.Frag} {g : Int → Int → PyData} {gv : Int → Int → V} (hg : ∀ B i j, RF K B (gv i j) (g i j)) : Rd K (r2L (rI0 gv)) (oI2 (fun _ _ => True) g) := fun B H vs xs f R Q s rr h q => by
  obtain ⟨i, j, rfl, _, h⟩ := oI2_iff h
  obtain ⟨v, w, _, _, rfl, r1, r2⟩ := ros2 rr
  cases r1 with
  | fz r1 =>
    cases r1
    cases r2 with
    | fz r2 =>
      cases r2
      exact ⟨i, j, rfl, rfl, q _ h _ B H (Out.here (hg B i j) s)⟩
def oSub := oI2 (fun _ _ => True) fun i j => .int (i - j)
def oMul := oI2 CMulW fun i j => .int (i * j)
def oDiv := oI2 CDivW fun i j => .int (i / j)
def oMod := oI2 (fun _ j => 0 < j) fun i j => .int (i % j)
def oLt := oI2 (fun _ _ => True) fun i j => .bool (decide (i < j))
def oLe := oI2 (fun _ _ => True) fun i j => .bool (decide (i ≤ j))
def oGt := oI2 (fun _ _ => True) fun i j => .bool (decide (j < i))
def oGe := oI2 (fun _ _ => True) fun i j => .bool (decide (j ≤ i))
section
variable {K : PySem.W.Frag}
theorem rd_sub : Rd K (r2L (rI0 fun i j => .int (i - j))) oSub := rd_I20 fun _ _ _ => .int _
theorem rd_div : Rd K (r2L (rI CDivW fun i j => .int (i / j))) oDiv := rd_I2 fun _ _ _ => .int _
theorem rd_mod : Rd K (r2L (rI (fun _ j => 0 < j) fun i j => .int (i % j))) oMod := rd_I2 fun _ _ _ => .int _
theorem rd_lt : Rd K (r2L (rI0 fun i j => .bl (decide (i < j)))) oLt := rd_I20 fun _ _ _ => .bl _
theorem rd_le : Rd K (r2L (rI0 fun i j => .bl (decide (i ≤ j)))) oLe := rd_I20 fun _ _ _ => .bl _
theorem rd_gt : Rd K (r2L (rI0 fun i j => .bl (decide (j < i)))) oGt := rd_I20 fun _ _ _ => .bl _
theorem rd_ge : Rd K (r2L (rI0 fun i j => .bl (decide (j ≤ i)))) oGe := rd_I20 fun _ _ _ => .bl _
end
def oNeg : List O → (O → Prop) → Prop
  | [.fz (.int i)], R => R (.fz (.int (-i)))
  | _, _ => False
theorem rd_neg {K : PySem.W.Frag} : Rd K (r1L (rU fun i => .int (-i))) oNeg := fun B H vs xs f R Q s rr h q => by
  unfold oNeg at h
  split at h
  · obtain ⟨v, _, rfl, r⟩ := ros1 rr
    cases r with
    | fz r =>
      cases r
      exact ⟨_, rfl, q _ h _ B H (Out.here (.int _) s)⟩
  · exact h.elim
def oAdd : List O → (O → Prop) → Prop
  | [.fz (.int i), .fz (.int j)], R => R (.fz (.int (i + j)))
  | [.fz (.str a), .fz (.str b)], R => a.length + b.length ≤ szMax ∧ R (.fz (.str (a ++ b)))
  | [x, y], R => (∃ ds es, vL x = some ds ∧ vL y = some es ∧ ds.length + es.length ≤ szMax ∧ R (.lf (ds ++ es))) ∨ (∃ ds es, vT x = some ds ∧ vT y = some es ∧ ds.length + es.length ≤ szMax ∧ R (.fz (.tuple (ds ++ es))))
  | _, _ => False
def rAddAll (K : PySem.W.Frag) : R2 := fun x y H Q => rI0 (fun i j => .int (i + j)) x y H Q ∨ (∃ i j, x = .str i ∧ y = .str j ∧ i.length + j.length ≤ sizeLine ∧ Q (.str (i ++ j)) H) ∨ rCat x y H Q ∨ rCatA K x y H Q
theorem op_addAll {X : Cx} : OpR X (binaryOp .Add) (rAddAll X.K) := OpR.or op_add (OpR.or op_add_str (OpR.or op_cat op_catA))
theorem RO.vTB {K : PySem.W.Frag} {B H : Hp} {v : V} {x : O} {f : List Addr} {ds : List PyData} (r : RO K B H v x f) (h : Pt.vT x = some ds) : ∃ a vs, v = .ref a ∧ SqT K B a vs ∧ RFs K B vs ds := by
  cases x with
  | fz g =>
    cases g with
    | tuple es =>
      cases h
      cases r with
      | fz r => cases r with
        | tup e r => exact ⟨_, _, rfl, e, r⟩
    | _ => cases h
  | ot xs =>
    cases r with
    | ot e r =>
      have h' : unf xs = some ds := h
      rw [unf_iff h'] at r
      exact ⟨_, _, rfl, SqT.of e, (ROs.unfz r).1⟩
  | _ => cases h
theorem rd_add {K : PySem.W.Frag} : Rd K (r2L (rAddAll K)) oAdd := fun B H vs xs f R Q s rr h q => by
  unfold oAdd at h
  split at h
  · obtain ⟨v, w, _, _, rfl, r1, r2⟩ := ros2 rr
    cases r1 with
    | fz r1 =>
      cases r1
      cases r2 with
      | fz r2 =>
        cases r2
        exact .inl ⟨_, _, rfl, rfl, q _ h _ B H (Out.here (.int _) s)⟩
  · obtain ⟨v, w, _, _, rfl, r1, r2⟩ := ros2 rr
    cases r1 with
    | fz r1 =>
      cases r1
      cases r2 with
      | fz r2 =>
        cases r2
        exact .inr (.inl ⟨_, _, rfl, rfl, szOk h.1, q _ h.2 _ B H (Out.here (.str _) s)⟩)
  · obtain ⟨v, w, _, _, rfl, r1, r2⟩ := ros2 rr
    rcases h with ⟨ds, es, h1, h2, hz, h⟩ | ⟨ds, es, h1, h2, hz, h⟩
    · obtain ⟨a, us, rfl, e1, t1⟩ := r1.vL s h1
      obtain ⟨b, ws, rfl, e2, t2⟩ := r2.vL s h2
      refine .inr (.inr (.inl ⟨a, b, us, ws, rfl, rfl, e1, e2, szOk ?_, fun p hp => q _ h _ B _ (Out.lst (t1.append t2) s hp)⟩))
      rw [t1.length, t2.length]; exact hz
    · obtain ⟨a, us, rfl, e1, t1⟩ := r1.vTB h1
      obtain ⟨b, ws, rfl, e2, t2⟩ := r2.vTB h2
      refine .inr (.inr (.inr ⟨a, b, us, ws, rfl, rfl, s.sqT e1, s.sqT e2, szOk ?_, fun h0 => ?_, fun _ h0 => ?_, fun _ _ p hp => q _ h _ _ _ (Out.tup (t1.append t2) s hp)⟩))
      · rw [t1.length, t2.length]; exact hz
      · subst h0
        cases t1
        exact q _ h _ B H (Out.here (.tup e2 t2) s)
      · subst h0
        cases t2
        rw [List.append_nil] at h
        exact q _ h _ B H (Out.here (.tup e1 t1) s)
  · exact h.elim
def oMulA : List O → (O → Prop) → Prop
  | [.fz (.int i), .fz (.int j)], R => CMulW i j ∧ R (.fz (.int (i * j)))
  | [x, .fz (.int k)], R => (∃ ds, vL x = some ds ∧ k ≤ 1000000 ∧ -1000000 ≤ k ∧ ds.length * k.toNat ≤ szMax ∧ R (.lf (List.replicate k.toNat ds).flatten)) ∨ (∃ ds, vT x = some ds ∧ ds ≠ [] ∧ 2 ≤ k ∧ k ≤ 1000 ∧ ds.length ≤ 1000 ∧ R (.fz (.tuple (List.replicate k.toNat ds).flatten)))
  | _, _ => False
def rMulAll (K : PySem.W.Frag) : R2 := fun x y H Q => rI CMulW (fun i j => .int (i * j)) x y H Q ∨ rRep x y H Q ∨ rRepT K x y H Q
theorem op_mulAll {X : Cx} : OpR X (binaryOp .Mult) (rMulAll X.K) := OpR.or op_mulW (OpR.or op_rep op_repT)
theorem RFs.rep {K : PySem.W.Frag} {B : Hp} {vs : List V} {ds : List PyData} (r : RFs K B vs ds) : ∀ k : Nat, RFs K B (List.replicate k vs).flatten (List.replicate k ds).flatten
  | 0 => .nil
  | k + 1 => by
    rw [List.replicate_succ, List.replicate_succ, List.flatten_cons, List.flatten_cons]
    exact r.append (r.rep k)
theorem rd_mulA {K : PySem.W.Frag} : Rd K (r2L (rMulAll K)) oMulA := fun B H vs xs f R Q s rr h q => by
  unfold oMulA at h
  split at h
  · obtain ⟨v, w, _, _, rfl, r1, r2⟩ := ros2 rr
    cases r1 with
    | fz r1 =>
      cases r1
      cases r2 with
      | fz r2 =>
        cases r2
        exact .inl ⟨_, _, rfl, rfl, h.1, q _ h.2 _ B H (Out.here (.int _) s)⟩
  · obtain ⟨v, w, _, _, rfl, r1, r2⟩ := ros2 rr
    cases r2 with
    | fz r2 =>
      cases r2
      rcases h with ⟨ds, h1, k1, k2, hz, h⟩ | ⟨ds, h1, h0, k1, k2, hz, h⟩
      · obtain ⟨a, us, rfl, e1, t1⟩ := r1.vL s h1
        exact .inr (.inl ⟨a, _, us, rfl, rfl, e1, by omega, by omega, by rw [t1.length]; exact szOk hz, fun p hp => q _ h _ B _ (Out.lst (t1.rep _) s hp)⟩)
      · obtain ⟨a, us, rfl, e1, t1⟩ := r1.vTB h1
        refine .inr (.inr ⟨a, _, us, rfl, rfl, s.sqT e1, fun z => ?_, k1, k2, by rw [t1.length]; exact hz, fun p hp => q _ h _ _ _ (Out.tup (t1.rep _) s hp)⟩)
        subst z
        cases t1
        exact h0 rfl
  · exact h.elim
mutual
def toP : O → PyData
  | .fz f => f
  | .ol xs => .list (toPs xs)
  | .ot xs => .tuple (toPs xs)
  | .lf ds => .list ds
  | .df kvs => .dict (kvs.map fun p => (kD p.1, p.2))
  | .od _ => .dict []
  | .oi _ _ => .dict []
  | .exn _ _ => .dict []
  | .scr _ => .dict []
  | .tn ds => .tuple ds
  | .dl _ => .dict []
  | .dt _ => .dict []
  | .dq _ => .dict []
  | .dn _ _ => .dict []
  | .dz _ _ => .dict []
  | .hid => .dict []
def toPs : List O → List PyData
  | [] => []
  | x :: xs => toP x :: toPs xs
end
section
variable {K : PySem.W.Frag} {B H : Hp}
mutual
theorem RF.dp (s : Sub B H) : ∀ {d : PyData} {v : V}, RF K B v d → d.canLay0 = true → Dp K H v d
  | _, _, .non, _ => .non
  | _, _, .bl b, _ => .bl b
  | _, _, .int i, _ => .int i
  | _, _, .str x, _ => .str x
  | .list ds, _, .lst e r, c => .lst (SqL.of (s _ _ e)) (RFs.dp s r c)
  | .tuple ds, _, .tup e r, c => .tup (s.sqT e) (RFs.dp s r c)
  | .dict _, _, .dic _ _, c => nomatch c
  | _, _, .lm _ _ _, c => nomatch c
theorem RFs.dp (s : Sub B H) : ∀ {ds : List PyData} {vs : List V}, RFs K B vs ds → PyData.canLayAll0 ds = true → DpAll K H vs ds
  | [], _, .nil, _ => .nil
  | d :: ds, _, .cons r t, c => by
    have c' := Bool.and_eq_true_iff.mp c
    exact .cons (RF.dp s r c'.1) (RFs.dp s t c'.2)
end
mutual
theorem RO.dp (s : Sub B H) : ∀ {x : O} {v : V} {f : List Addr}, RO K B H v x f → (toP x).canLay0 = true → Dp K H v (toP x)
  | .fz d, _, _, .fz r, c => RF.dp s r c
  | .ol xs, _, _, .ol e r, c => .lst (SqL.of e) (ROs.dp s r c)
  | .ot xs, _, _, .ot e r, c => .tup (SqT.of (s _ _ e)) (ROs.dp s r c)
  | .lf ds, _, _, .lf e r, c => .lst (SqL.of e) (RFs.dp s r c)
  | .df _, _, _, _, c => nomatch c
  | .od _, _, _, _, c => nomatch c
  | .oi _ _, _, _, _, c => nomatch c
  | .exn _ _, _, _, _, c => nomatch c
  | .scr _, _, _, _, c => nomatch c
  | .tn ds, _, _, .tn e _ r, c => RF.dp s (.tup e r) c
  | .hid, _, _, _, c => nomatch c
  | .dl _, _, _, _, c => nomatch c
  | .dt _, _, _, _, c => nomatch c
  | .dq _, _, _, _, c => nomatch c
  | .dn _ _, _, _, _, c => nomatch c
  | .dz _ _, _, _, _, c => nomatch c
theorem ROs.dp (s : Sub B H) : ∀ {xs : List O} {vs : List V} {f : List Addr}, ROs K B H vs xs f → PyData.canLayAll0 (toPs xs) = true → DpAll K H vs (toPs xs)
  | [], _, _, .nil, _ => .nil
  | x :: xs, _, _, .cons r t, c => by
    have c' := Bool.and_eq_true_iff.mp c
    exact .cons (RO.dp s r c'.1) (ROs.dp s t c'.2)
end
end
end Pt
namespace Pt
open PySem PySem.Spec L2
def oEq (neg : Bool) : List O → (O → Prop) → Prop
  | [x, y], R => SeqAt.shaped (toP x) = true ∧ SeqAt.shaped (toP y) = true ∧ R (.fz (.bool (if neg then !PyData.eqv (toP x) (toP y) else PyData.eqv (toP x) (toP y))))
  | _, _ => False
section
variable {K : PySem.W.Frag}
theorem rd_eq : Rd K (r2L (rEqD K)) (oEq false) := fun B H vs xs f R Q s rr h q => by
  unfold oEq at h
  split at h
  · obtain ⟨v, w, _, _, rfl, r1, r2⟩ := ros2 rr
    obtain ⟨h1, h2, h⟩ := h
    exact ⟨_, _, r1.dp s (SeqAt.canLay_of_shaped h1), r2.dp s (SeqAt.canLay_of_shaped h2), h1, h2, q _ h _ B H (Out.here (.bl _) s)⟩
  · exact h.elim
theorem rd_ne : Rd K (r2L (rNeD K)) (oEq true) := fun B H vs xs f R Q s rr h q => by
  unfold oEq at h
  split at h
  · obtain ⟨v, w, _, _, rfl, r1, r2⟩ := ros2 rr
    obtain ⟨h1, h2, h⟩ := h
    exact ⟨_, _, r1.dp s (SeqAt.canLay_of_shaped h1), r2.dp s (SeqAt.canLay_of_shaped h2), h1, h2, q _ h _ B H (Out.here (.bl _) s)⟩
  · exact h.elim
end
def isNoneO : O → Bool
  | .fz .none => true
  | _ => false
def oIsN (neg : Bool) : List O → (O → Prop) → Prop
  | [.hid, _], _ => False
  | [x, .fz .none], R => R (.fz (.bool (if neg then !isNoneO x else isNoneO x)))
  | _, _ => False
theorem isNone_iff {K : PySem.W.Frag} {B H : Hp} {v : V} {x : O} {f : List Addr} (r : RO K B H v x f) (hx : x ≠ .hid) : decide (v = .non) = isNoneO x := by
  cases r with
  | fz r => cases r <;> rfl
  | hid => exact absurd rfl hx
  | _ => rfl
theorem rd_isN {K : PySem.W.Frag} : Rd K (r2L fun x y H Q => y = .non ∧ Q (.bl (decide (x = .non))) H) (oIsN false) := fun B H vs xs f R Q s rr h q => by
  unfold oIsN at h
  split at h
  · exact h.elim
  · rename_i hx
    obtain ⟨v, w, _, _, rfl, r1, r2⟩ := ros2 rr
    cases r2 with
    | fz r2 =>
      cases r2
      refine ⟨rfl, ?_⟩
      rw [isNone_iff r1 (fun e => hx e)]
      exact q _ h _ B H (Out.here (.bl _) s)
  · exact h.elim
def lenO : O → Option Nat
  | .fz (.list ds) => some ds.length
  | .fz (.tuple ds) => some ds.length
  | .fz (.str x) => if x.length ≤ szMax then some x.length else none
  | .lf ds => some ds.length
  | .ol xs => some xs.length
  | .ot xs => some xs.length
  | .scr ns => some ns.length
  | _ => none
def oLen : List O → (O → Prop) → Prop
  | [x], R => ∃ n, lenO x = some n ∧ R (.fz (.int (n : Nat)))
  | _, _ => False
theorem RO.len {K : PySem.W.Frag} {B H : Hp} {v : V} {x : O} {f : List Addr} {n : Nat} (s : Sub B H) (r : RO K B H v x f) (h : lenO x = some n) : LenV K v H n := by
  cases r with
  | fz r =>
    cases r with
    | lst e r => cases h; exact .inl ⟨_, SqL.of (s _ _ e), r.length.symm⟩
    | tup e r => cases h; exact .inr ⟨_, s.sqT e, r.length.symm⟩
    | str y =>
      have h' : (if y.length ≤ szMax then some y.length else none) = some n := h
      by_cases hz : y.length ≤ szMax
      · rw [if_pos hz] at h'
        cases h'
        exact ⟨szOk hz, rfl⟩
      · rw [if_neg hz] at h'
        cases h'
    | _ => cases h
  | lf e r => cases h; exact .inl ⟨_, SqL.of e, r.length.symm⟩
  | ol e r => cases h; exact .inl ⟨_, SqL.of e, r.length.symm⟩
  | ot e r => cases h; exact .inr ⟨_, SqT.of (s _ _ e), r.length.symm⟩
  | scr e => cases h; exact .inl ⟨_, s.sqL e, (List.length_map _).symm⟩
  | _ => cases h
theorem rd_len {K : PySem.W.Frag} : Rd K (fun xs H Q => ∃ x n, xs = [x] ∧ LenV K x H n ∧ Q (.int n) H) oLen := fun B H vs xs f R Q s rr h q => by
  unfold oLen at h
  split at h
  · obtain ⟨n, h1, h⟩ := h
    obtain ⟨v, _, rfl, r⟩ := ros1 rr
    exact ⟨v, n, rfl, r.len s h1, q _ h _ B H (Out.here (.int _) s)⟩
  · exact h.elim
def seqO : O → Option (List PyData)
  | .fz (.list ds) => some ds
  | .fz (.tuple ds) => some ds
  | .lf ds => some ds
  | .scr ns => some (ns.map .int)
  | _ => none
def itemO : O → Int → Option PyData
  | .ol xs, i => (atI xs i).bind fun
    | .fz f => some f
    | _ => none
  | .ot xs, i => (atI xs i).bind fun
    | .fz f => some f
    | _ => none
  | x, i => (seqO x).bind fun ds => atI ds i
def oIx : List O → (O → Prop) → Prop
  | [x, .fz (.int i)], R => ∃ d, itemO x i = some d ∧ R (.fz d)
  | _, _ => False
theorem RFs.atI {K : PySem.W.Frag} {B : Hp} {vs : List V} {ds : List PyData} {i : Int} {d : PyData} (r : RFs K B vs ds) (h : L2.atI ds i = some d) : ∃ v, L2.atI vs i = some v ∧ RF K B v d := by
  unfold L2.atI at h ⊢
  rw [r.length]
  cases q : ixN ds.length i with
  | none => rw [q] at h; cases h
  | some j =>
    rw [q] at h
    obtain ⟨v, h1, h2⟩ := r.get (i := j) (d := d) h
    exact ⟨v, h1, h2⟩
theorem ROs.get : ∀ {K : PySem.W.Frag} {B H : Hp} {xs : List O} {vs : List V} {fp : List Addr} {i : Nat} {x : O}, ROs K B H vs xs fp → xs[i]? = some x → ∃ v f, vs[i]? = some v ∧ RO K B H v x f
  | _, _, _, _, _, _, _, _, .nil, e => by simp at e
  | _, _, _, _, _, _, 0, _, .cons r _, e => by simp at e; subst e; exact ⟨_, _, rfl, r⟩
  | _, _, _, _, _, _, i + 1, x, .cons _ t, e => by
    obtain ⟨v, f, h1, h2⟩ := ROs.get (i := i) (x := x) t (by simpa using e)
    exact ⟨v, f, by simpa using h1, h2⟩
theorem ROs.atI {K : PySem.W.Frag} {B H : Hp} {xs : List O} {vs : List V} {fp : List Addr} {i : Int} {x : O} (r : ROs K B H vs xs fp) (h : L2.atI xs i = some x) : ∃ v f, L2.atI vs i = some v ∧ RO K B H v x f := by
  unfold L2.atI at h ⊢
  rw [r.length]
  cases q : ixN xs.length i with
  | none => rw [q] at h; cases h
  | some j =>
    rw [q] at h
    exact r.get (i := j) h
theorem RO.item {K : PySem.W.Frag} {B H : Hp} {v : V} {x : O} {f : List Addr} {i : Int} {d : PyData} (s : Sub B H) (r : RO K B H v x f) (h : itemO x i = some d) : ∃ p vs u, v = .ref p ∧ (SqL K H p vs ∨ SqT K H p vs) ∧ atI vs i = some u ∧ RF K B u d := by
  cases r with
  | fz r =>
    cases r with
    | lst e r =>
      obtain ⟨u, h1, h2⟩ := r.atI h
      exact ⟨_, _, u, rfl, .inl (SqL.of (s _ _ e)), h1, h2⟩
    | tup e r =>
      obtain ⟨u, h1, h2⟩ := r.atI h
      exact ⟨_, _, u, rfl, .inr (s.sqT e), h1, h2⟩
    | _ => cases h
  | lf e r =>
    obtain ⟨u, h1, h2⟩ := r.atI h
    exact ⟨_, _, u, rfl, .inl (SqL.of e), h1, h2⟩
  | scr e =>
    rename_i a ns
    have h' : atI (ns.map PyData.int) i = some d := h
    have r : RFs K B (ns.map V.int) (ns.map PyData.int) := by
      clear h h' e
      induction ns with
      | nil => exact .nil
      | cons n ns ih => exact .cons (.int n) ih
    obtain ⟨u, h1, h2⟩ := r.atI h'
    exact ⟨_, _, u, rfl, .inl (s.sqL e), h1, h2⟩
  | ol e r =>
    rename_i a vs xs fp
    have h' : ((atI xs i).bind fun | .fz f => some f | _ => none) = some d := h
    cases q : atI xs i with
    | none => rw [q] at h'; cases h'
    | some y =>
      rw [q] at h'
      cases y with
      | fz g =>
        cases h'
        obtain ⟨u, g2, h1, h2⟩ := r.atI q
        cases h2 with
        | fz h2 => exact ⟨_, _, u, rfl, .inl (SqL.of e), h1, h2⟩
      | _ => cases h'
  | ot e r =>
    rename_i a vs xs
    have h' : ((atI xs i).bind fun | .fz f => some f | _ => none) = some d := h
    cases q : atI xs i with
    | none => rw [q] at h'; cases h'
    | some y =>
      rw [q] at h'
      cases y with
      | fz g =>
        cases h'
        obtain ⟨u, g2, h1, h2⟩ := r.atI q
        cases h2 with
        | fz h2 => exact ⟨_, _, u, rfl, .inr (SqT.of (s _ _ e)), h1, h2⟩
      | _ => cases h'
  | _ => cases h
theorem rd_ix {K : PySem.W.Frag} : Rd K (r2L (rIx K)) oIx := fun B H vs xs f R Q s rr h q => by
  unfold oIx at h
  split at h
  · obtain ⟨d, h1, h⟩ := h
    obtain ⟨v, w, _, _, rfl, r1, r2⟩ := ros2 rr
    cases r2 with
    | fz r2 =>
      cases r2
      obtain ⟨p, us, u, rfl, h2, h3, h4⟩ := r1.item s h1
      rcases h2 with h2 | h2
      · exact .inl ⟨p, us, _, u, rfl, rfl, h2, h3, q _ h _ B H (Out.here h4 s)⟩
      · exact .inr (.inl ⟨p, us, _, u, rfl, rfl, h2, h3, q _ h _ B H (Out.here h4 s)⟩)
  · exact h.elim
def oMax2 : List O → (O → Prop) → Prop
  | [.fz (.int i), .fz (.int j)], R => R (.fz (.int (if j > i then j else i)))
  | _, _ => False
def oMin2 : List O → (O → Prop) → Prop
  | [.fz (.int i), .fz (.int j)], R => R (.fz (.int (if j < i then j else i)))
  | _, _ => False
theorem rd_max2 {K : PySem.W.Frag} : Rd K (fun xs H Q => ∃ i j, xs = [.int i, .int j] ∧ Q (.int (if j > i then j else i)) H) oMax2 := fun B H vs xs f R Q s rr h q => by
  unfold oMax2 at h
  split at h
  · obtain ⟨v, w, _, _, rfl, r1, r2⟩ := ros2 rr
    cases r1 with
    | fz r1 =>
      cases r1
      cases r2 with
      | fz r2 =>
        cases r2
        exact ⟨_, _, rfl, q _ h _ B H (Out.here (.int _) s)⟩
  · exact h.elim
theorem rd_min2 {K : PySem.W.Frag} : Rd K (fun xs H Q => ∃ i j, xs = [.int i, .int j] ∧ Q (.int (if j < i then j else i)) H) oMin2 := fun B H vs xs f R Q s rr h q => by
  unfold oMin2 at h
  split at h
  · obtain ⟨v, w, _, _, rfl, r1, r2⟩ := ros2 rr
    cases r1 with
    | fz r1 =>
      cases r1
      cases r2 with
      | fz r2 =>
        cases r2
        exact ⟨_, _, rfl, q _ h _ B H (Out.here (.int _) s)⟩
  · exact h.elim
def asBools : List PyData → Option (List Bool)
  | [] => some []
  | .bool b :: r => (asBools r).map (b :: ·)
  | _ :: _ => none
theorem asBools_rf {K : PySem.W.Frag} {B : Hp} : ∀ {ds : List PyData} {vs : List V} {bs : List Bool}, RFs K B vs ds → asBools ds = some bs → vs = bs.map V.bl
  | [], _, _, .nil, e => by cases e; rfl
  | d :: ds, _, bs, .cons r t, e => by
    cases d with
    | bool b =>
      simp only [asBools] at e
      cases q : asBools ds with
      | none => rw [q] at e; cases e
      | some cs =>
        rw [q] at e
        cases e
        cases r
        rw [asBools_rf t q]
        rfl
    | _ => cases e
theorem asBools_map (bs : List Bool) : asBools (bs.map PyData.bool) = some bs := by
  induction bs with
  | nil => rfl
  | cons b bs ih =>
    show (asBools (bs.map PyData.bool)).map (b :: ·) = _
    rw [ih]; rfl
def oAll : List O → (O → Prop) → Prop
  | [x], R => ∃ ds bs, vL x = some ds ∧ asBools ds = some bs ∧ R (.fz (.bool (bs.all id)))
  | _, _ => False
def oAny : List O → (O → Prop) → Prop
  | [x], R => ∃ ds bs, vL x = some ds ∧ asBools ds = some bs ∧ R (.fz (.bool (bs.any id)))
  | _, _ => False
theorem rd_all {K : PySem.W.Frag} : Rd K (rAll K) oAll := fun B H vs xs f R Q s rr h q => by
  unfold oAll at h
  split at h
  · obtain ⟨ds, bs, h1, h2, h⟩ := h
    obtain ⟨v, _, rfl, r⟩ := ros1 rr
    obtain ⟨a, us, rfl, e, t⟩ := r.vL s h1
    rw [asBools_rf t h2] at e
    exact ⟨a, bs, rfl, SqL.of e, q _ h _ B H (Out.here (.bl _) s)⟩
  · exact h.elim
theorem rd_any {K : PySem.W.Frag} : Rd K (rAny K) oAny := fun B H vs xs f R Q s rr h q => by
  unfold oAny at h
  split at h
  · obtain ⟨ds, bs, h1, h2, h⟩ := h
    obtain ⟨v, _, rfl, r⟩ := ros1 rr
    obtain ⟨a, us, rfl, e, t⟩ := r.vL s h1
    rw [asBools_rf t h2] at e
    exact ⟨a, bs, rfl, SqL.of e, q _ h _ B H (Out.here (.bl _) s)⟩
  · exact h.elim
def asInts : List PyData → Option (List Int)
  | [] => some []
  | .int b :: r => (asInts r).map (b :: ·)
  | _ :: _ => none
theorem rf_ints {K : PySem.W.Frag} {B : Hp} (ns : List Int) : RFs K B (ns.map V.int) (ns.map PyData.int) := by
  induction ns with
  | nil => exact .nil
  | cons n ns ih => exact .cons (.int n) ih
def vLT (x : O) : Option (List PyData) := (vL x).or (vT x)
def oList : List O → (O → Prop) → Prop
  | [x], R => (∃ ds, vL x = some ds ∧ R (.lf ds)) ∨ ∃ ds, vT x = some ds ∧ R (.lf ds)
  | _, _ => False
theorem rd_list {K : PySem.W.Frag} : Rd K (fun xs H Q => ∃ p ys, xs = [.ref p] ∧ (SqL K H p ys ∨ SqT K H p ys) ∧ ∀ l, H l = none → Q (.ref l) (upd H l (.lst ys))) oList := fun B H vs xs f R Q s rr h q => by
  unfold oList at h
  split at h
  · obtain ⟨v, _, rfl, r⟩ := ros1 rr
    rcases h with ⟨ds, h1, h⟩ | ⟨ds, h1, h⟩
    · obtain ⟨a, us, rfl, e, t⟩ := r.vL s h1
      exact ⟨a, us, rfl, .inl (SqL.of e), fun p hp => q _ h _ B _ (Out.lst t s hp)⟩
    · obtain ⟨a, us, rfl, e, t⟩ := r.vT s h1
      exact ⟨a, us, rfl, .inr e, fun p hp => q _ h _ B _ (Out.lst t s hp)⟩
  · exact h.elim
def oTuple : List O → (O → Prop) → Prop
  | [x], R => (∃ ds, vL x = some ds ∧ R (.fz (.tuple ds))) ∨ ∃ ds, vT x = some ds ∧ R (.fz (.tuple ds))
  | _, _ => False
theorem rd_tuple {K : PySem.W.Frag} : Rd K (fun xs H Q => ∃ p ys, xs = [.ref p] ∧ ((SqL K H p ys ∧ ∀ l, H l = none → Q (.ref l) (upd H l (.tup ys))) ∨ (SqT K H p ys ∧ Q (.ref p) H))) oTuple := fun B H vs xs f R Q s rr h q => by
  unfold oTuple at h
  split at h
  · obtain ⟨v, _, rfl, r⟩ := ros1 rr
    rcases h with ⟨ds, h1, h⟩ | ⟨ds, h1, h⟩
    · obtain ⟨a, us, rfl, e, t⟩ := r.vL s h1
      exact ⟨a, us, rfl, .inl ⟨SqL.of e, fun p hp => q _ h _ _ _ (Out.tup t s hp)⟩⟩
    · obtain ⟨a, us, rfl, e, t⟩ := r.vTB h1
      exact ⟨a, us, rfl, .inr ⟨s.sqT e, q _ h _ B H (Out.here (.tup e t) s)⟩⟩
  · exact h.elim
def cutP {α : Type} (xs : List α) (lo hi : Option Int) : List α := (xs.drop (HT.sIx xs.length 0 lo)).take (HT.sIx xs.length xs.length hi - HT.sIx xs.length 0 lo)
theorem RFs.cut {K : PySem.W.Frag} {B : Hp} {vs : List V} {ds : List PyData} (r : RFs K B vs ds) (lo hi : Option Int) : RFs K B (cutV vs lo hi) (cutP ds lo hi) := by
  unfold cutV cutP
  rw [r.length]
  exact (r.drop _).take _
def oSl (lo hi : Option Int) : O → (O → Prop) → Prop
  | .fz (.str x), R => x.length ≤ szMax ∧ R (.fz (.str (cutS x lo hi)))
  | .scr ns, R => R (.lf ((cutP ns lo hi).map .int))
  | x, R => (∃ ds, vL x = some ds ∧ R (.lf (cutP ds lo hi))) ∨ ∃ ds, vT x = some ds ∧ R (.fz (.tuple (cutP ds lo hi)))
def rSlAll (K : PySem.W.Frag) : V → Option Int → Option Int → Hp → VK → Prop := fun x lo hi H Q => rSlL K x lo hi H Q ∨ rSlA K x lo hi H Q ∨ ∃ z, x = .str z ∧ z.length ≤ sizeLine ∧ Q (.str (cutS z lo hi)) H
theorem sl_all {X : Cx} : SlR X (rSlAll X.K) := by
  refine SlR.or sl_list (SlR.or sl_tupA ?_)
  intro pins s σ H x v vl vu lo hi sl Q I rx hs pl pu h
  exact sl_str pins s σ H x v vl vu lo hi sl Q I rx hs pl pu h
theorem sl_read {K : PySem.W.Frag} {B H : Hp} {v : V} {x : O} {f : List Addr} {lo hi : Option Int} {R : O → Prop} {Q : VK} (s : Sub B H) (r : RO K B H v x f) (h : oSl lo hi x R) (q : ∀ z, R z → ∀ u B' H', Out K B H u z B' H' → Q u H') : rSlAll K v lo hi H Q := by
  have gen : ((∃ ds, vL x = some ds ∧ R (.lf (cutP ds lo hi))) ∨ ∃ ds, vT x = some ds ∧ R (.fz (.tuple (cutP ds lo hi)))) → rSlAll K v lo hi H Q := fun h => by
    rcases h with ⟨ds, h1, h⟩ | ⟨ds, h1, h⟩
    · obtain ⟨a, us, rfl, e, t⟩ := r.vL s h1
      exact .inl ⟨a, us, rfl, SqL.of e, fun p hp => q _ h _ B _ (Out.lst (t.cut lo hi) s hp)⟩
    · obtain ⟨a, us, rfl, e, t⟩ := r.vTB h1
      refine .inr (.inl ⟨a, us, rfl, s.sqT e, fun hw => ?_, fun _ p hp => q _ h _ _ _ (Out.tup (t.cut lo hi) s hp)⟩)
      have e2 : cutP ds lo hi = ds := by
        unfold cutP
        rw [t.length] at hw
        rw [hw.1, hw.2, List.drop_zero]
        exact List.take_length
      rw [e2] at h
      exact q _ h _ B H (Out.here (.tup e t) s)
  unfold oSl at h
  split at h
  · cases r with
    | fz r =>
      cases r
      exact .inr (.inr ⟨_, rfl, szOk h.1, q _ h.2 _ B H (Out.here (.str _) s)⟩)
  · cases r with
    | scr e =>
      refine .inl ⟨_, _, rfl, s.sqL e, fun p hp => q _ h _ B _ (Out.lst ?_ s hp)⟩
      rename_i ns a
      have := (rf_ints (K := K) (B := B) ns).cut lo hi
      have e3 : cutP (ns.map PyData.int) lo hi = (cutP ns lo hi).map .int := by
        unfold cutP
        rw [List.length_map, List.map_take, List.map_drop]
      rw [e3] at this
      exact this
  · exact gen h
inductive PB where
  | no
  | of (w : WE)
def tPB (K : PySem.W.Frag) (Z : Ent) : PB → TO
  | .no => tNoPart
  | .of w => tPart (tE K Z w)
def wPB : PB → En → (Option Int → En → Prop) → Prop
  | .no, ρ, k => k none ρ
  | .of w, ρ, k => w ρ fun d ρ1 => asI d fun i => k (some i) ρ1
def wSl (a : AD) (lo hi : PB) : WE := fun ρ R => wADs [a] ρ fun ds ρ1 => wPB lo ρ1 fun l ρ2 => wPB hi ρ2 fun u ρ3 => match fillA [a] ds ρ3 with
  | [x] => oSl l u x fun z => R z ρ3
  | _ => False
theorem po_ok {K : PySem.W.Frag} {Z : Ent} {B H : Hp} {σ : L2.St} {ρ : En} {fp : List Addr} {p : PB} {k : Option Int → En → Prop} {Q : Option Int → Hp → Prop} (ok : Ok K Z B H σ ρ fp) (h : wPB p ρ k) (q : ∀ o ρ', k o ρ' → ∀ B' H' fp', Nxt B H fp B' H' fp' → Ok K Z B' H' σ ρ' fp' → Q o H') : tPB K Z p σ H Q := by
  cases p with
  | no => exact q none ρ h B H fp (Nxt.refl _ _ _) ok
  | of w =>
    refine ⟨B, ρ, fp, _, ok, h, fun d ρ' h1 v H' B' fp' n k1 => ?_⟩
    obtain ⟨i, rfl, h2⟩ := asI_iff h1
    have r := k1.headF
    obtain ⟨f2, k2, hs⟩ := k1.drop1
    cases r
    exact ⟨i, rfl, q (some i) ρ' h2 B' H' f2 (n.less hs) k2⟩
theorem sl_ok {K : PySem.W.Frag} {Z : Ent} {σ : L2.St} {H : Hp} {Q : VK} {a : AD} {lo hi : PB} (h : tE K Z (wSl a lo hi) σ H Q) : tSl (rSlAll K) (tAD K Z a) (tPB K Z lo) (tPB K Z hi) σ H Q := by
  obtain ⟨B, ρ, fp, R, k, h, q⟩ := h
  have key : tADs K Z [a] σ H fun vs H1 => match vs with
      | [x] => tPB K Z lo σ H1 fun l H2 => tPB K Z hi σ H2 fun u H3 => rSlAll K x l u H3 Q
      | _ => False := by
    refine args_ok [a] k h fun ds ρ1 h1 vs τ xs H1 B1 fp1 g n1 k1 => ?_
    cases g with
    | @ex w r v vs d ds τ xs g =>
      cases g
      obtain ⟨f1, f2, rfl, r1, k2, fr⟩ := Ok.frame (τ := [some v]) (xs := [d]) k1 rfl
      refine po_ok k2 h1 fun l ρ2 h2 B2 H2 fp2 n2 k3 => po_ok k3 h2 fun u ρ3 h3 B3 H3 fp3 n3 k4 => ?_
      obtain ⟨k5, n5⟩ := fr (n2.trans n3) k4
      obtain ⟨f, r, _, _⟩ := k5.head
      obtain ⟨f6, k6, hs6⟩ := k5.drop1
      refine sl_read k5.sub r h3 fun z hz u' B' H' o => ?_
      obtain ⟨g', k7, n7⟩ := o.ok k6
      exact q z ρ3 hz u' H' B' g' ((n1.trans (n5.less hs6)).trans n7) k7
    | @nm i r v vs ds τ xs e g =>
      cases g
      refine po_ok k1 h1 fun l ρ2 h2 B2 H2 fp2 n2 k3 => po_ok k3 h2 fun u ρ3 h3 B3 H3 fp3 n3 k4 => ?_
      have h3' : oSl l u (nth ρ3 i) fun z => R z ρ3 := h3
      have hx : nth ρ3 i ≠ .hid := fun z => by
        rw [z] at h3'
        unfold oSl at h3'
        rcases h3' with ⟨_, h, _⟩ | ⟨_, h, _⟩ <;> cases h
      obtain ⟨v', f, e', r, _⟩ := k4.slot rfl hx
      rw [e] at e'
      have e2 : v = v' := Option.some.inj (Option.some.inj e')
      subst e2
      refine sl_read k4.sub r h3' fun z hz u' B' H' o => ?_
      obtain ⟨g', k7, n7⟩ := o.ok k4
      exact q z ρ3 hz u' H' B' g' (((n1.trans n2).trans n3).trans n7) k7
  exact key
section
variable {X : Cx} {Z : Ent} {e : Expr} {lo hi : Option Expr} {p2 pos : Pos} {a : AD} {l u : PB} {es : List Expr}
theorem p_no : PO X none (tPB X.K Z .no) := po_none
theorem p_of {e : Expr} {w : WE} (h : PE X e (tE X.K Z w)) : PO X (some e) (tPB X.K Z (.of w)) := po_some h
theorem e_slice (he : PE X e (tAD X.K Z a)) (hl : PO X lo (tPB X.K Z l)) (hu : PO X hi (tPB X.K Z u)) : PE X (.Subscript e (.Slice lo hi none p2) pos) (tE X.K Z (wSl a l u)) := pe_to (pe_slice sl_all he hl hu) fun σ H Q q => sl_ok q
def oLst : List O → (O → Prop) → Prop := fun xs R => ∃ ds, unf xs = some ds ∧ ds.length ≤ szMax ∧ R (.lf ds)
def oTup : List O → (O → Prop) → Prop := fun xs R => ∃ ds, unf xs = some ds ∧ ds.length ≤ szMax ∧ R (.fz (.tuple ds))
theorem rd_lst {K : PySem.W.Frag} : Rd K (fun xs H Q => xs.length ≤ sizeLine ∧ ∀ p, H p = none → Q (.ref p) (upd H p (.lst xs))) oLst := fun B H vs xs f R Q s rr h q => by
  obtain ⟨ds, h1, hz, h⟩ := h
  rw [unf_iff h1] at rr
  obtain ⟨t, _⟩ := ROs.unfz rr
  exact ⟨by rw [t.length]; exact szOk hz, fun p hp => q _ h _ B _ (Out.lst t s hp)⟩
theorem rd_tup {K : PySem.W.Frag} : Rd K (fun xs H Q => xs.length ≤ sizeLine ∧ ∀ p, H p = none → Q (.ref p) (upd H p (.tup xs))) oTup := fun B H vs xs f R Q s rr h q => by
  obtain ⟨ds, h1, hz, h⟩ := h
  rw [unf_iff h1] at rr
  obtain ⟨t, _⟩ := ROs.unfz rr
  exact ⟨by rw [t.length]; exact szOk hz, fun p hp => q _ h _ _ _ (Out.tup t s hp)⟩
theorem e_list {as : List AD} (h : PA X es (tADs X.K Z as)) : PE X (.List es pos) (tE X.K Z (wRd as oLst)) := pe_to (pe_lst h) fun σ H Q q => rd_glue rd_lst q
theorem e_tuple {as : List AD} {k : Nat} (h : PA X es (tADs X.K Z as)) : PE X (.Tuple es k pos) (tE X.K Z (wRd as oTup)) := pe_to (pe_tup h) fun σ H Q q => rd_glue rd_tup q
end
end Pt
namespace Pt
open PySem PySem.Spec L2
def LMu (K : PySem.W.Frag) (r : V → List V → Hp → VK → Prop) (lm : O → List O → (O → O → Prop) → Prop) : Prop :=
  ∀ (B H : Hp) (q : Addr) (x : O) (vs : List V) (xs : List O) (fx fa : List Addr) (R : O → O → Prop) (Q : VK), Sub B H → RO K B H (.ref q) x (q :: fx) → ROs K B H vs xs fa → ((q :: fx) ++ fa).Nodup → lm x xs R →
    (∀ x' z, R x' z → ∀ u o' f' fz, RO K B (upd H q o') (.ref q) x' (q :: f') → RO K B (upd H q o') u z fz → ((q :: f') ++ fz).Nodup → (∀ a ∈ (q :: f') ++ fz, a ∈ (q :: fx) ++ fa) → Q u (upd H q o')) → r (.ref q) vs H Q
def isLst : O → Bool
  | .lf _ => true
  | .ol _ => true
  | _ => false
def isDct : O → Bool
  | .df _ => true
  | .dt _ => true
  | .od _ => true
  | _ => false
section
variable {K : PySem.W.Frag} {B H : Hp} {q : Addr} {fx fa : List Addr}
def lmAppend : O → List O → (O → O → Prop) → Prop
  | .lf ds, [.fz f], R => ds.length < szMax ∧ R (.lf (ds ++ [f])) (.fz .none)
  | .ol xs, [d], R => xs.length < szMax ∧ R (.ol (xs ++ [d])) (.fz .none)
  | _, _, _ => False
theorem lm_append : LMu K rAppend lmAppend := fun B H q x vs xs fx fa R Q s r rr nd h k => by
  unfold lmAppend at h
  split at h
  · obtain ⟨v, _, rfl, rd⟩ := ros1 rr
    cases r with
    | lf e r =>
      cases rd with
      | fz rd =>
        obtain ⟨hz, h⟩ := h
        refine ⟨q, _, v, rfl, rfl, e, by rw [r.length]; exact szLt (Nat.le_of_lt hz), k _ _ h .non _ [] [] (.lf upd_same (r.append (.cons rd .nil))) (.fz .non) ?_ ?_⟩
        · exact List.nodup_cons.mpr ⟨List.not_mem_nil, List.nodup_nil⟩
        · intro a ha; exact List.mem_append_left _ ha
  · obtain ⟨hz, h⟩ := h
    cases rr with
    | cons rd t =>
      cases t
      cases r with
      | ol e r =>
        rw [List.append_nil] at nd
        obtain ⟨n1, n2⟩ := List.nodup_cons.mp nd
        refine ⟨q, _, _, rfl, rfl, e, by rw [r.length]; exact szLt (Nat.le_of_lt hz), k _ _ h .non _ _ [] (.ol upd_same ((r.append (.cons rd .nil)).upd ?_)) (.fz .non) ?_ ?_⟩
        · rw [List.append_nil]; exact n1
        · rw [List.append_nil, List.append_nil]; exact nd
        · intro a ha
          rw [List.append_nil, List.append_nil] at ha
          rw [List.append_nil]
          exact ha
  · exact h.elim
def lmPop : O → List O → (O → O → Prop) → Prop
  | .lf ds, [], R => ∃ f, ds[ds.length - 1]? = some f ∧ R (.lf ds.dropLast) (.fz f)
  | _, _, _ => False
theorem RFs.dropLast {vs : List V} {ds : List PyData} (r : RFs K B vs ds) : RFs K B vs.dropLast ds.dropLast := by
  rw [List.dropLast_eq_take, List.dropLast_eq_take, r.length]
  exact r.take _
def lmPopAt : O → List O → (O → O → Prop) → Prop
  | .lf ds, [.fz (.int i)], R => ∃ f, 0 ≤ i ∧ i < 1000000000 ∧ ds[i.toNat]? = some f ∧ R (.lf (ds.eraseIdx i.toNat)) (.fz f)
  | _, _, _ => False
theorem RFs.eraseIdx : ∀ {ds : List PyData} {vs : List V} (i : Nat), RFs K B vs ds → RFs K B (vs.eraseIdx i) (ds.eraseIdx i)
  | _, _, _, .nil => .nil
  | _, _, 0, .cons _ t => t
  | _, _, i + 1, .cons r t => .cons r (t.eraseIdx i)
theorem RFs.set {v : V} {d : PyData} (r : RF K B v d) : ∀ {ds : List PyData} {vs : List V} (i : Nat), RFs K B vs ds → RFs K B (vs.set i v) (ds.set i d)
  | _, _, _, .nil => .nil
  | _, _, 0, .cons _ t => .cons r t
  | _, _, i + 1, .cons q t => .cons q (RFs.set r i t)
def lmClear : O → List O → (O → O → Prop) → Prop
  | .lf _, [], R => R (.lf []) (.fz .none)
  | .ol _, [], R => R (.lf []) (.fz .none)
  | _, _, _ => False
end
section
variable {K : PySem.W.Frag} {Z : Ent} {B H : Hp} {σ : L2.St} {ρ xs : En} {fp : List Addr} {v : V} {x : O}
theorem vals_self {i : Nat} (h : (σ[i]? : Option (Option V)) = some (some v)) : (valsOf σ).set i v = valsOf σ := by
  have q : (valsOf σ)[i]? = some v := by rw [valsOf_get, h]; rfl
  obtain ⟨hl, hg⟩ := List.getElem?_eq_some_iff.mp q
  rw [← hg]
  exact List.set_getElem_self hl
theorem Ok.back {i : Nat} (k : Ok K Z B H (some v :: σ) (x :: ρ) fp) (h : (σ[i]? : Option (Option V)) = some (some v)) (h2 : ρ[i]? = some .hid) : ∃ f', Ok K Z B H σ (ρ.set i x) f' ∧ ∀ a ∈ f', a ∈ fp := by
  obtain ⟨f1, f2, rfl, r, k2, _⟩ := Ok.frame (τ := [some v]) (xs := [x]) k rfl
  rw [show valsOf [some v] = [v] from rfl] at r
  cases r with
  | @cons _ _ _ _ g1 g2 a b =>
    cases b
    obtain ⟨f3, w1, w2⟩ := k2.rs.put h2 a
    rw [vals_self h] at w1
    rw [List.append_nil] at *
    refine ⟨f3, k.part (fun j z => ?_) w1 (w2.symm.nodup k.nd) (fun a ha => w2.subset ha), fun a ha => w2.subset ha⟩
    by_cases hj : i = j
    · subst hj
      rw [h] at z
      cases z
    · rw [List.getElem?_set_ne hj]
      exact k2.un j z
theorem Ok.back2 {i : Nat} {u : V} {z : O} (k : Ok K Z B H (some u :: some v :: σ) (z :: x :: ρ) fp) (h : (σ[i]? : Option (Option V)) = some (some v)) (h2 : ρ[i]? = some .hid) : ∃ f', Ok K Z B H (some u :: σ) (z :: ρ.set i x) f' ∧ ∀ a ∈ f', a ∈ fp := by
  obtain ⟨f1, f2, rfl, r, k2, fr⟩ := Ok.frame (τ := [some u]) (xs := [z]) k rfl
  obtain ⟨f3, k3, hs⟩ := k2.back h h2
  obtain ⟨k4, _⟩ := fr (Nxt.self hs) k3
  exact ⟨f1 ++ f3, k4, fun a ha => by
    rcases List.mem_append.mp ha with q | q
    · exact List.mem_append_left _ q
    · exact List.mem_append_right _ (hs a q)⟩
theorem Ok.outA {i : Nat} {τ : L2.St} (k : Ok K Z B H (τ ++ σ) (xs ++ ρ) fp) (hl : τ.length = xs.length) (hx : nth ρ i ≠ .hid) : ∃ v f1 f2 f3, (σ[i]? : Option (Option V)) = some (some v) ∧ RO K B H v (nth ρ i) f1 ∧ ROs K B H (valsOf τ) xs f2 ∧
    Ok K Z B H σ (ρ.set i .hid) f3 ∧ (f1 ++ f2 ++ f3).Nodup ∧ (∀ a ∈ f1 ++ f2 ++ f3, a ∈ fp) ∧ (ρ.set i .hid)[i]? = some O.hid := by
  obtain ⟨g1, g2, rfl, r, k2, _⟩ := k.frame hl
  have e := nth_some rfl hx
  obtain ⟨v, a1, a2, h1, h2, h3, h4⟩ := k2.rs.split e
  obtain ⟨v', f', e1, _, _⟩ := k2.slot rfl hx
  rw [valsOf_get, e1] at h1
  have e2 : v' = v := Option.some.inj h1
  subst e2
  have hi : i < ρ.length := (List.getElem?_eq_some_iff.mp e).1
  have pm : (g1 ++ g2).Perm (a1 ++ g1 ++ a2) := by
    refine (List.Perm.append_left g1 h4).trans ?_
    rw [List.append_assoc]
    exact perm3
  refine ⟨v', a1, g1, a2, e1, h2, r, k2.part (fun j z => ?_) h3 ((List.nodup_append.mp (pm.nodup k.nd)).2.1) (fun a ha => h4.symm.subset (List.mem_append_right _ ha)), pm.nodup k.nd, fun a ha => pm.symm.subset ha, List.getElem?_set_self hi⟩
  by_cases hj : i = j
  · subst hj; rw [List.getElem?_set_self hi]
  · rw [List.getElem?_set_ne hj]; exact k2.un j z
end
theorem isRef {K : PySem.W.Frag} {B H : Hp} {v : V} {x : O} {f : List Addr} (r : RO K B H v x f) (h : isLst x = true ∨ isDct x = true) : ∃ q f', v = .ref q ∧ f = q :: f' := by
  cases r with
  | lf e r => exact ⟨_, _, rfl, rfl⟩
  | ol e r => exact ⟨_, _, rfl, rfl⟩
  | df e _ r => exact ⟨_, _, rfl, rfl⟩
  | dt e _ r => exact ⟨_, _, rfl, rfl⟩
  | od e _ r => exact ⟨_, _, rfl, rfl⟩
  | _ => rcases h with h | h <;> cases h
def exs (ws : List WE) : List AD := ws.map AD.ex
def wMu (T : String) (i : Nat) (ws : List WE) (lm : O → List O → (O → O → Prop) → Prop) : WE := fun ρ R => (if T = "list" then isLst (nth ρ i) = true else T = "dict" ∧ isDct (nth ρ i) = true) ∧ wADs (exs ws) ρ fun ds ρ1 => (isLst (nth ρ1 i) || isDct (nth ρ1 i)) = true ∧ lm (nth ρ1 i) (fillA (exs ws) ds ρ1) fun x' z => R z (ρ1.set i x')
theorem got_exs {σ : L2.St} {as : List AD} {vs : List V} {ds : List (Option O)} {τ : L2.St} {xs : List O} (g : Got σ as vs ds τ xs) : ∀ {ws : List WE}, as = exs ws → valsOf τ = vs ∧ ∀ ρ, fillA as ds ρ = xs := by
  induction g with
  | nil => exact fun _ => ⟨rfl, fun _ => rfl⟩
  | ex g ih =>
    intro ws e
    cases ws with
    | nil => cases e
    | cons w ws =>
      obtain ⟨a, b⟩ := ih (ws := ws) (List.cons.inj e).2
      exact ⟨by rw [valsOf_cons, a], fun ρ => by unfold fillA; rw [b]⟩
  | nm e g ih =>
    intro ws e
    cases ws with
    | nil => cases e
    | cons w ws => cases (List.cons.inj e).1
theorem mu_glue {K : PySem.W.Frag} {Z : Ent} {σ : L2.St} {H : Hp} {Q : VK} {T : String} {i : Nat} {ws : List WE} {lm : O → List O → (O → O → Prop) → Prop} {r : V → List V → Hp → VK → Prop} (hm : LMu K r lm) (h : tE K Z (wMu T i ws lm) σ H Q) : tBM K T r (tVar i) (tADs K Z (exs ws)) σ H Q := by
  obtain ⟨B, ρ, fp, R, k, ⟨hT, h⟩, q⟩ := h
  have hx : nth ρ i ≠ .hid := fun e => by
    rw [e] at hT
    split at hT
    · cases hT
    · cases hT.2
  obtain ⟨v, f, e, rv, hs⟩ := k.slot rfl hx
  refine ⟨v, e, ?_, args_ok (exs ws) k h fun ds ρ1 h1 vs τ xs H1 B1 fp1 g n1 k1 => ?_⟩
  · split at hT
    · rename_i hT'
      subst hT'
      generalize nth ρ i = x at rv hT
      cases rv with
      | lf e2 r => exact .inl ⟨rfl, _, SqL.of e2⟩
      | ol e2 r => exact .inl ⟨rfl, _, SqL.of e2⟩
      | _ => cases hT
    · obtain ⟨rfl, hT⟩ := hT
      generalize nth ρ i = x at rv hT
      cases rv with
      | df e2 _ r => exact .inr (.inr (.inl ⟨rfl, .inl ⟨_, e2⟩⟩))
      | dt e2 _ r => exact .inr (.inr (.inl ⟨rfl, .inr ⟨_, e2⟩⟩))
      | od e2 _ r => exact .inr (.inr (.inl ⟨rfl, .inl ⟨_, e2⟩⟩))
      | _ => cases hT
  · obtain ⟨hL, h2⟩ := h1
    have hL' : isLst (nth ρ1 i) = true ∨ isDct (nth ρ1 i) = true := by
      cases z : isLst (nth ρ1 i) with
      | true => exact .inl rfl
      | false => rw [z] at hL; exact .inr hL
    have hx1 : nth ρ1 i ≠ .hid := fun e => by rw [e] at hL; cases hL
    obtain ⟨v', f1, f2, f3, e', r1, r2, k3, nd, hs3, hh⟩ := k1.outA g.len hx1
    rw [e] at e'
    have e2 : v = v' := Option.some.inj (Option.some.inj e')
    subst e2
    obtain ⟨q1, f1', rfl, rfl⟩ := isRef r1 hL'
    obtain ⟨ev, ef⟩ := got_exs g rfl
    rw [ev] at r2
    rw [ef ρ1] at h2
    obtain ⟨n12, n3, n123⟩ := List.nodup_append.mp nd
    have kall : Ok K Z B1 H1 ((some (.ref q1) :: τ) ++ σ) ((nth ρ1 i :: xs) ++ ρ1.set i .hid) ((q1 :: f1') ++ f2 ++ f3) := by
      refine ⟨k1.sub, fun j z => ?_, ?_, nd, fun a ha => k1.out a (hs3 a ha), k1.nx.less hs3⟩
      · by_cases hj : j < (some (V.ref q1) :: τ).length
        · exfalso
          rw [List.getElem?_append_left hj] at z
          cases j with
          | zero => cases z
          | succ j =>
            have hl := g.len
            have z' : (τ[j]? : Option (Option V)) = some none := z
            have := k1.un j (by rw [List.getElem?_append_left (by exact (List.getElem?_eq_some_iff.mp z').1)]; exact z')
            have gn : ∀ {as : List AD} {vs : List V} {ds : List (Option O)} {τ : L2.St} {xs : List O}, Got σ as vs ds τ xs → ∀ j : Nat, (τ[j]? : Option (Option V)) ≠ some none := fun g => by
              induction g with
              | nil => intro j z; cases z
              | ex g ih =>
                intro j z
                cases j with
                | zero => cases z
                | succ j => exact ih j z
              | nm _ g ih => exact ih
            exact gn g j z'
        · rw [List.getElem?_append_right (by omega)] at z
          have hl := g.len
          rw [List.getElem?_append_right (by rw [List.length_cons] at hj ⊢; omega)]
          have := k3.un _ z
          rw [List.length_cons] at this ⊢
          rw [← hl]
          exact this
      · rw [valsOf_append, valsOf_cons, ev]
        exact (ROs.cons r1 r2).append k3.rs
    refine hm B1 H1 q1 _ vs xs f1' f2 _ _ k1.sub r1 r2 n12 h2 fun x' z hR u o' f' fz w1 w2 nd' hs' => ?_
    have hw := Ok.write (τ := some (.ref q1) :: τ) (xs := nth ρ1 i :: xs) (τ' := [some u, some (.ref q1)]) (xs' := [z, x']) (p := q1) (o' := o') (f1 := (q1 :: f1') ++ f2) (f2 := f3) (f3 := fz ++ ((q1 :: f') ++ [])) kall k3 (List.mem_cons_self ..)
      (.cons w2 (.cons w1 .nil)) (fun a ha => by
        rw [List.append_nil] at ha
        refine hs' a ?_
        rcases List.mem_append.mp ha with z | z
        · exact List.mem_append_right _ z
        · exact List.mem_append_left _ z) (by rw [List.append_nil]; exact (List.perm_append_comm.nodup nd')) (fun j z => by
        cases j with
        | zero => cases z
        | succ j => cases j <;> cases z) rfl
    have hw1 : Ok K Z B1 (upd H1 q1 o') (some u :: some (.ref q1) :: σ) (z :: x' :: ρ1.set i .hid) (fz ++ ((q1 :: f') ++ []) ++ f3) := hw.1
    obtain ⟨f5, k5, hs5⟩ := Ok.back2 hw1 e hh
    rw [List.set_set] at k5
    exact q z _ hR u _ B1 f5 ((n1.trans ((Nxt.self hs3).trans hw.2)).less hs5) k5
section
variable {X : Cx} {Z : Ent} {e : Expr} {es : List Expr} {name x : Str} {apos cpos pos : Pos} {T id : String} {ws : List WE} {lm : O → List O → (O → O → Prop) → Prop} {r : V → List V → Hp → VK → Prop}
theorem e_mu (i : Nat) (pa : PlainAttrs T) (slot : Slot T name id) (hty : typeOf (.builtin id) = pure (.type "method_descriptor")) (hm : MtR X id r) (hl : LMu X.K r lm) (ha : PA X (e :: es) (tADs X.K Z (exs ws))) (hN : X.N[i]? = some x := by rfl) (hv : Vis X.env.scope x := by first | exact Or.inl rfl | exact Or.inr (Or.inl rfl) | exact Or.inr (Or.inr rfl)) (hd : (x == ("__debug__" : Str)) = false := by decide)
    (hcd : (x == ("__classdict__" : Str)) = false := by decide) (hst : starEach (e :: es) X.env = (false, eval e X.env) :: starEach es X.env := by rfl) (hpl : (backTo cpos (starEach es X.env)).any (·.1) = false := by rfl) (hline : (apos.endLine == cpos.line) = true := by rfl)
    (hfw : ((backTo cpos (starEach (e :: es) X.env)).all (fun x => !x.1) && (backToKw cpos (keywordEach [] X.env)).all (fun x => x.1.isSome) && decide ((e :: es).length + ([] : List Keyword).length + (if ([] : List Keyword).isEmpty then 0 else 1) < 30)) = true := by rfl) :
    PE X (.Call (.Attribute (.Name x pos) name apos) (e :: es) [] cpos) (tE X.K Z (wMu T i ws lm)) :=
  pe_to (pe_bm pa slot hty hm (pe_var hN hv hd hcd) ha rfl hfw hline hst hpl) fun σ H Q q => mu_glue hl q
end
end Pt
namespace Pt
open PySem PySem.Spec L2
def rSet2 : V → List V → Hp → VK → Prop := fun o vs H Q => match vs with
  | [v, i] => rSetL o i v H fun H' => Q .non H'
  | _ => False
def lmSet : O → List O → (O → O → Prop) → Prop
  | .lf ds, [.fz f, .fz (.int k)], R => ∃ j, ixN ds.length k = some j ∧ R (.lf (ds.set j f)) (.fz .none)
  | .ol xs, [d, .fz (.int k)], R => ∃ j, ixN xs.length k = some j ∧ R (.ol (xs.set j d)) (.fz .none)
  | _, _, _ => False
theorem ixN_lt {n : Nat} {k : Int} {j : Nat} (h : ixN n k = some j) : j < n := (ixN_seq h).2.1
theorem lm_set {K : PySem.W.Frag} : LMu K rSet2 lmSet := fun B H q x vs xs fx fa R Q s r rr nd h k => by
  unfold lmSet at h
  split at h
  · obtain ⟨j, hj, h⟩ := h
    obtain ⟨v, w, _, _, rfl, r1, r2⟩ := ros2 rr
    cases r1 with
    | fz r1 =>
      cases r2 with
      | fz r2 =>
        cases r2
        cases r with
        | lf e r =>
          refine ⟨q, _, _, j, rfl, rfl, e, by rw [r.length]; exact hj, k _ _ h .non _ [] [] (.lf upd_same (r.set r1 j)) (.fz .non) ?_ ?_⟩
          · exact List.nodup_cons.mpr ⟨List.not_mem_nil, List.nodup_nil⟩
          · intro a ha; exact List.mem_append_left _ ha
  · obtain ⟨j, hj, h⟩ := h
    cases rr with
    | cons r1 t =>
      cases t with
      | cons r2 t =>
        cases t
        cases r2 with
        | fz r2 =>
          cases r2
          cases r with
          | ol e r =>
            rename_i ys d i v fv ws
            have hlt := ixN_lt hj
            obtain ⟨g1, s1, s2, s3⟩ := r.forget j
            obtain ⟨g2, p1, p2⟩ := ROs.put (i := j) s1 (by rw [List.getElem?_set_self hlt]) r1
            rw [List.set_set] at p1
            rw [List.append_nil, List.append_nil] at nd
            rw [List.append_nil, List.append_nil] at k
            obtain ⟨n1, n2, n3⟩ := List.nodup_append.mp nd
            obtain ⟨m1, m2⟩ := List.nodup_cons.mp n1
            have sub : ∀ a ∈ g2, a ∈ fx ++ fv := fun a ha => by
              rcases List.mem_append.mp (p2.subset ha) with z | z
              · exact List.mem_append_right _ z
              · exact List.mem_append_left _ (s2 a z)
            have nd2 : g2.Nodup := p2.symm.nodup (List.nodup_append.mpr ⟨n2, s3 m2, fun a ha b hb e => n3 b (List.mem_cons_of_mem _ (s2 b hb)) a ha e.symm⟩)
            have hq : q ∉ g2 := fun z => by
              rcases List.mem_append.mp (sub q z) with z | z
              · exact m1 z
              · exact n3 q (List.mem_cons_self ..) q z rfl
            refine ⟨q, _, _, j, rfl, rfl, e, by rw [r.length]; exact hj, k _ _ h .non _ g2 [] (.ol upd_same (p1.upd hq)) (.fz .non) ?_ ?_⟩
            · rw [List.append_nil]; exact List.nodup_cons.mpr ⟨hq, nd2⟩
            · intro a ha
              rw [List.append_nil] at ha
              rcases List.mem_cons.mp ha with z | z
              · rw [z]; exact List.mem_cons_self ..
              · exact List.mem_cons_of_mem _ (sub a z)
  · exact h.elim
def sSetI (i : Nat) (we wk : WE) : WS := sDrop (wMu "list" i [we, wk] lmSet)
section
variable {X : Cx} {Z : Ent} {ps : List Nat} {e k : Expr} {x : Str} {pos px p2 : Pos} {we wk : WE}
theorem s_setI (i : Nat) (he : PE X e (tE X.K Z we)) (hk : PE X k (tE X.K Z wk)) (hN : X.N[i]? = some x := by rfl) (hv : Vis X.env.scope x := by first | exact Or.inl rfl | exact Or.inr (Or.inl rfl) | exact Or.inr (Or.inr rfl)) (hd : (x == ("__debug__" : Str)) = false := by decide) (hcd : (x == ("__classdict__" : Str)) = false := by decide)
    (ha : ∀ v, assign (.Subscript (.Name x px) k p2) X.env v = (do let ov ← holding [v] (eval (.Name x px) X.env); let iv ← holding [v, ov] (eval k X.env); standAt p2; holding [v, ov, iv] (setItem ov iv v); release [v, ov, iv] []) := by intro _; rfl)
    (hs : swapsWithSole [.Subscript (.Name x px) k p2] e pos.line X.env = pure false := by rfl) (hw : swappedStores [.Subscript (.Name x px) k p2] e X.env = pure none := by rfl) (h1 : (assignEach [.Subscript (.Name x px) k p2] X.env).map (·.2) = [assign (.Subscript (.Name x px) k p2) X.env] := by rfl) :
    PS X (.Assign [.Subscript (.Name x px) k p2] e pos) (tS X.K Z ps (sSetI i we wk)) :=
  ps_to (ps_asg he (pg_sub (pe_var hN hv hd hcd) hk set_list ha) hs hw h1) fun D σ H q => by
    obtain ⟨B, ρ, fp, E, kk, q, p⟩ := q
    have z : tE X.K Z (wMu "list" i [we, wk] lmSet) σ H fun _ H' => D.nx σ H' := ⟨B, ρ, fp, _, kk, q, fun d ρ' h1 v H' B' fp' n k1 => by
      obtain ⟨f2, k2, hs⟩ := k1.drop1
      exact p.nx ρ' h1 σ H' B' f2 (n.less hs) k2 (Pin.refl _ _)⟩
    obtain ⟨v, e1, _, z2⟩ := mu_glue lm_set z
    show tE X.K Z we σ H fun y H1 => ∃ o, σ[i]? = some (some o) ∧ tE X.K Z wk σ H1 fun ii H2 => rSetL o ii y H2 fun H3 => D.nx σ H3
    obtain ⟨B0, ρ0, f0, R0, k0, a0, b0⟩ := z2
    refine ⟨B0, ρ0, f0, R0, k0, a0, fun d ρ' h v' H' B' fp' n k1 => ⟨v, e1, ?_⟩⟩
    obtain ⟨B2, ρ2, f2, R2, k2, a2, b2⟩ := b0 d ρ' h v' H' B' fp' n k1
    exact ⟨B2, ρ2, f2, R2, k2, a2, fun d2 ρ3 h3 v2 H3 B3 f3 n3 k3 => b2 d2 ρ3 h3 v2 H3 B3 f3 n3 k3⟩
end
def sAugI (i : Nat) (wk we : WE) (od : List O → (O → Prop) → Prop) : WS := fun E ρ => isLst (nth ρ i) = true ∧ wk ρ fun kd ρ1 => asI kd fun k => 0 ≤ k ∧ k < 1000000000 ∧ isLst (nth ρ1 i) = true ∧ ∃ f, itemO (nth ρ1 i) k = some f ∧ we ρ1 fun d ρ2 => isLst (nth ρ2 i) = true ∧ od [.fz f, d] fun z => asF z fun g => lmSet (nth ρ2 i) [.fz g, .fz (.int k)] fun x' _ => E.nx (ρ2.set i x')
section
variable {X : Cx} {Z : Ent} {ps : List Nat} {e k : Expr} {x : Str} {pos px p2 : Pos} {we wk : WE} {od : List O → (O → Prop) → Prop} {r : R2} {op : Operator}
end
end Pt
namespace Pt
open PySem PySem.Spec L2
def asOl : O → (List O → Prop) → Prop
  | .ol xs, k => k xs
  | _, _ => False
theorem asOl_iff {x : O} {k : List O → Prop} (h : asOl x k) : ∃ xs, x = .ol xs ∧ k xs := by
  cases x with
  | ol xs => exact ⟨xs, rfl, h⟩
  | _ => exact False.elim h
def wMu2 (i : Nat) (wk : WE) (ws : List WE) (lm : O → List O → (O → O → Prop) → Prop) : WE := fun ρ R => notHid (nth ρ i) (wk ρ fun kd ρ1 => asI kd fun k => asOl (nth ρ1 i) fun xs => ∃ j y, ixN xs.length k = some j ∧ xs[j]? = some y ∧ isLst y = true ∧
  wADs (exs ws) (ρ1.set i .hid) fun ds ρ2 => nth ρ2 i = .hid ∧ lm y (fillA (exs ws) ds ρ2) fun y' z => R z (ρ2.set i (.ol (xs.set j y'))))
theorem mu2_glue {K : PySem.W.Frag} {Z : Ent} {σ : L2.St} {H : Hp} {Q : VK} {i : Nat} {wk : WE} {ws : List WE} {lm : O → List O → (O → O → Prop) → Prop} {r : V → List V → Hp → VK → Prop} (hm : LMu K r lm) (h : tE K Z (wMu2 i wk ws lm) σ H Q) : tBM K "list" r (tOp (rIx K) (tVar i) (tE K Z wk)) (tADs K Z (exs ws)) σ H Q := by
  obtain ⟨B, ρ, fp, R, k, h, q⟩ := h
  obtain ⟨hx, h⟩ := notHid_iff h
  obtain ⟨v0, f0, e0, _, _⟩ := k.slot rfl hx
  refine ⟨v0, e0, B, ρ, fp, _, k, h, fun kd ρ1 h1 v1 H1 B1 fp1 n1 k1 => ?_⟩
  obtain ⟨ki, rfl, h2⟩ := asI_iff h1
  obtain ⟨xs, hxs, j, y, hj, hy, hL, h3⟩ := asOl_iff h2
  have rk := k1.headF
  obtain ⟨g1, k2, hs1⟩ := k1.drop1
  cases rk
  have hx1 : nth ρ1 i ≠ .hid := fun z => by rw [hxs] at z; cases z
  obtain ⟨v4, a1, a2, a3, e4, r4, _, k5, nd5, hs5, hh5⟩ := Ok.outA (τ := []) (xs := []) k2 rfl hx1
  rw [e0] at e4
  have ee := Option.some.inj (Option.some.inj e4)
  subst ee
  rw [hxs] at r4
  cases r4 with
  | @ol p vs _ fx hp rr =>
    obtain ⟨w, gy, g2, hw, ry, rrest, pm⟩ := rr.split hy
    obtain ⟨qy, fy, rfl, rfl⟩ := isRef ry (.inl hL)
    have hat : atI vs ki = some (.ref qy) := by
      unfold atI
      rw [rr.length, hj]
      exact hw
    refine .inl ⟨p, vs, ki, .ref qy, rfl, rfl, SqL.of hp, hat, ?_, ?_⟩
    · cases ry with
      | lf e _ => exact .inl ⟨rfl, _, SqL.of e⟩
      | ol e _ => exact .inl ⟨rfl, _, SqL.of e⟩
      | _ => cases hL
    · refine args_ok (exs ws) k5 h3 fun ds ρ2 h4 ws' τ zs H2 B2 fp2 g n2 k6 => ?_
      obtain ⟨hi2, h4⟩ := h4
      obtain ⟨y1, y2, y3⟩ := List.nodup_append.mp nd5
      have y1' := (List.nodup_append.mp y1).1
      have disj : ∀ a ∈ p :: fx, a ∉ a3 := fun a ha hb => y3 a (List.mem_append_left _ ha) a hb rfl
      have keep : ∀ a ∈ p :: fx, ∀ o, H1 a = some o → NT o → H2 a = some o := fun a ha o e => n2.keep a o e (disj a ha)
      have live : ∀ a ∈ p :: fx, H1 a ≠ none := fun a ha e => by
        obtain ⟨o, z⟩ := (RO.ol hp rr).live a ha
        rw [e] at z; cases z
      have fresh : ∀ a ∈ p :: fx, a ∉ fp2 := fun a ha hb => by
        rcases n2.newF a hb with z | z
        · exact disj a ha z
        · exact live a ha z
      have outB : ∀ a ∈ p :: fx, B2 a = none := fun a ha => by
        cases z : B2 a with
        | none => rfl
        | some o =>
          rcases n2.newB a (by rw [z]; exact fun h => nomatch h) with h | h | h
          · exact absurd (k2.out a (hs5 a (List.mem_append_left _ (List.mem_append_left _ ha)))) h
          · exact absurd h (live a ha)
          · exact absurd h (disj a ha)
      have mx : ∀ a ∈ fx, a ∈ p :: fx := fun a ha => List.mem_cons_of_mem _ ha
      have my : ∀ a ∈ qy :: fy, a ∈ fx := fun a ha => pm.symm.subset (List.mem_append_left _ ha)
      have mr : ∀ a ∈ g2, a ∈ fx := fun a ha => pm.symm.subset (List.mem_append_right _ ha)
      obtain ⟨np, nfx⟩ := List.nodup_cons.mp y1'
      obtain ⟨ny, nr, nyr⟩ := List.nodup_append.mp (pm.nodup nfx)
      have hp2 : H2 p = some (.lst vs) := keep p (List.mem_cons_self ..) _ hp pl_lst.1
      have ry2 := ry.next n2.bsub fun a ha => keep a (mx a (my a ha))
      have rr2 := rrest.next n2.bsub fun a ha => keep a (mx a (mr a ha))
      obtain ⟨f1, f2, rfl, rt, k7, _⟩ := k6.frame g.len
      obtain ⟨ev, ef⟩ := got_exs g rfl
      rw [ev] at rt
      rw [ef ρ2] at h4
      obtain ⟨m1, m2, m3⟩ := List.nodup_append.mp k6.nd
      have gn : ∀ {as : List AD} {vs : List V} {ds : List (Option O)} {τ : L2.St} {xs : List O}, Got σ as vs ds τ xs → ∀ j : Nat, (τ[j]? : Option (Option V)) ≠ some none := fun g => by
        induction g with
        | nil => intro j z; cases z
        | ex g ih =>
          intro j z
          cases j with
          | zero => cases z
          | succ j => exact ih j z
        | nm _ g ih => exact ih
      have nd12 : ((qy :: fy) ++ f1).Nodup := List.nodup_append.mpr ⟨ny, m1, fun a ha b hb e => fresh a (mx a (my a ha)) (e ▸ List.mem_append_left _ hb)⟩
      have pAll : ((p :: fx) ++ f1 ++ f2).Nodup := by
        rw [List.append_assoc]
        exact List.nodup_append.mpr ⟨y1', k6.nd, fun a ha b hb e => fresh a ha (e ▸ hb)⟩
      have rp : ROs K B2 H2 vs xs fx := by
        have z := rr.next n2.bsub fun a ha => keep a (mx a ha)
        exact z
      have kall : Ok K Z B2 H2 ((some (.ref p) :: τ) ++ σ) ((.ol xs :: zs) ++ ρ2) ((p :: fx) ++ f1 ++ f2) := by
        refine ⟨k6.sub, fun j z => ?_, ?_, pAll, fun a ha => ?_, ?_⟩
        · cases j with
          | zero => cases z
          | succ j => exact k6.un j z
        · rw [valsOf_append, valsOf_cons, ev]
          exact (ROs.cons (RO.ol hp2 rp) rt).append k7.rs
        · rw [List.append_assoc] at ha
          rcases List.mem_append.mp ha with z | z
          · exact outB a z
          · exact k6.out a z
        · refine ⟨k6.nx.bsub, k6.nx.keep, k6.nx.newB, fun a ha => ?_, k6.nx.live, k6.nx.tabs, k6.nx.ntb⟩
          rw [List.append_assoc] at ha
          rcases List.mem_append.mp ha with z | z
          · exact k2.nx.newF a (hs5 a (List.mem_append_left _ (List.mem_append_left _ z)))
          · exact k6.nx.newF a z
      refine hm B2 H2 qy y ws' zs fy f1 _ _ k6.sub ry2 rt nd12 h4 fun y' z hR u o' f' fz w1 w2 nd' hs' => ?_
      have hqp : qy ≠ p := fun e => np (e ▸ my qy (List.mem_cons_self ..))
      have ff : ∀ a ∈ (qy :: f') ++ fz, a ∈ fx ++ f1 := fun a ha => by
        rcases List.mem_append.mp (hs' a ha) with z | z
        · exact List.mem_append_left _ (my a z)
        · exact List.mem_append_right _ z
      obtain ⟨nw1, nw2, nw3⟩ := List.nodup_append.mp nd'
      obtain ⟨g4, p1, p2⟩ := ROs.put (i := j) (rr2.upd (p := qy) (o := o') fun z => nyr qy (List.mem_cons_self ..) qy z rfl) (by rw [List.getElem?_set_self (List.getElem?_eq_some_iff.mp hy).1]) w1
      rw [List.set_set] at p1
      have evs : vs.set j (.ref qy) = vs := by
        obtain ⟨hl, hg⟩ := List.getElem?_eq_some_iff.mp hw
        rw [← hg]
        exact List.set_getElem_self hl
      rw [evs] at p1
      have d42 : ∀ a ∈ qy :: f', a ∉ g2 := fun a ha hb => by
        rcases List.mem_append.mp (hs' a (List.mem_append_left _ ha)) with z | z
        · exact nyr a z a hb rfl
        · exact fresh a (mx a (mr a hb)) (List.mem_append_left _ z)
      have nd4 : g4.Nodup := p2.symm.nodup (List.nodup_append.mpr ⟨nw1, nr, fun a ha b hb e => d42 a ha (e ▸ hb)⟩)
      have s4 : ∀ a ∈ g4, a ∈ fx ++ f1 := fun a ha => by
        rcases List.mem_append.mp (p2.subset ha) with z | z
        · exact ff a (List.mem_append_left _ z)
        · exact List.mem_append_left _ (mr a z)
      have hp4 : p ∉ g4 := fun z => by
        rcases List.mem_append.mp (s4 p z) with z | z
        · exact np z
        · exact fresh p (List.mem_cons_self ..) (List.mem_append_left _ z)
      have hpz : p ∉ fz := fun z => by
        rcases List.mem_append.mp (ff p (List.mem_append_right _ z)) with z | z
        · exact np z
        · exact fresh p (List.mem_cons_self ..) (List.mem_append_left _ z)
      have dz4 : ∀ a ∈ fz, a ∉ g4 := fun a ha hb => by
        rcases List.mem_append.mp (p2.subset hb) with z | z
        · exact nw3 a z a ha rfl
        · rcases List.mem_append.mp (hs' a (List.mem_append_right _ ha)) with y | y
          · exact nyr a y a z rfl
          · exact fresh a (mx a (mr a z)) (List.mem_append_left _ y)
      have hw' := Ok.write (τ := some (.ref p) :: τ) (xs := .ol xs :: zs) (τ' := [some u, some (.ref p)]) (xs' := [z, .ol (xs.set j y')]) (p := qy) (o' := o') (f1 := (p :: fx) ++ f1) (f2 := f2) (f3 := fz ++ ((p :: g4) ++ [])) kall k7 (List.mem_append_left _ (mx _ (my _ (List.mem_cons_self ..))))
        (.cons w2 (.cons (.ol (by rw [upd_ne (Ne.symm hqp)]; exact hp2) p1) .nil)) (fun a ha => by
          rw [List.append_nil] at ha
          rcases List.mem_append.mp ha with z | z
          · rcases List.mem_append.mp (ff a (List.mem_append_right _ z)) with y | y
            · exact List.mem_append_left _ (mx a y)
            · exact List.mem_append_right _ y
          · rcases List.mem_cons.mp z with y | y
            · rw [y]; exact List.mem_append_left _ (List.mem_cons_self ..)
            · rcases List.mem_append.mp (s4 a y) with y | y
              · exact List.mem_append_left _ (mx a y)
              · exact List.mem_append_right _ y) (by
          rw [List.append_nil]
          refine List.nodup_append.mpr ⟨nw2, List.nodup_cons.mpr ⟨hp4, nd4⟩, fun a ha b hb e => ?_⟩
          subst e
          rcases List.mem_cons.mp hb with y | y
          · rw [y] at ha; exact hpz ha
          · exact dz4 a ha y) (fun j z => by
          cases j with
          | zero => cases z
          | succ j => cases j <;> cases z) rfl
      have hw1 : Ok K Z B2 (upd H2 qy o') (some u :: some (.ref p) :: σ) (z :: .ol (xs.set j y') :: ρ2) (fz ++ ((p :: g4) ++ []) ++ f2) := hw'.1
      have hρ2 : ρ2[i]? = some O.hid := by
        have hi := (List.getElem?_eq_some_iff.mp (nth_some rfl hx)).1
        have l1 := k.len
        have l7 := k7.len
        have hl : i < ρ2.length := by
          have l1' : List.length σ = ρ.length := l1
          have l7' : List.length σ = ρ2.length := l7
          omega
        rw [nth_eq, List.getElem?_eq_getElem hl] at hi2
        rw [List.getElem?_eq_getElem hl]
        exact congrArg some hi2
      obtain ⟨f9, k9, hs9⟩ := Ok.back2 hw1 e0 hρ2
      have nbig : Nxt B1 H1 fp1 B2 H2 ((p :: fx) ++ f1 ++ f2) := by
        have z1 : Nxt B1 H1 fp1 B2 H2 (f1 ++ f2) := (Nxt.self (B := B1) (H := H1) (fp := fp1) (fp' := a3) fun a ha => hs1 a (hs5 a (List.mem_append_right _ ha))).trans n2
        refine ⟨z1.bsub, z1.keep, z1.newB, fun a ha => ?_, z1.live, z1.tabs, z1.ntb⟩
        rw [List.append_assoc] at ha
        rcases List.mem_append.mp ha with z | z
        · exact .inl (hs1 a (hs5 a (List.mem_append_left _ (List.mem_append_left _ z))))
        · exact z1.newF a z
      exact q z _ hR u _ B2 f9 (((n1.trans nbig).trans hw'.2).less hs9) k9
section
variable {X : Cx} {Z : Ent} {e k : Expr} {es : List Expr} {name x : Str} {apos cpos pos p2 : Pos} {id : String} {ws : List WE} {wk : WE} {lm : O → List O → (O → O → Prop) → Prop} {r : V → List V → Hp → VK → Prop}
theorem e_mu2 (i : Nat) (pa : PlainAttrs "list") (slot : Slot "list" name id) (hty : typeOf (.builtin id) = pure (.type "method_descriptor")) (hm : MtR X id r) (hl : LMu X.K r lm) (hk : PE X k (tE X.K Z wk)) (hix : PlainIx k) (ha : PA X (e :: es) (tADs X.K Z (exs ws))) (hN : X.N[i]? = some x := by rfl) (hv : Vis X.env.scope x := by first | exact Or.inl rfl | exact Or.inr (Or.inl rfl) | exact Or.inr (Or.inr rfl)) (hd : (x == ("__debug__" : Str)) = false := by decide)
    (hcd : (x == ("__classdict__" : Str)) = false := by decide) (hst : starEach (e :: es) X.env = (false, eval e X.env) :: starEach es X.env := by rfl) (hpl : (backTo cpos (starEach es X.env)).any (·.1) = false := by rfl) (hline : (apos.endLine == cpos.line) = true := by rfl)
    (hfw : ((backTo cpos (starEach (e :: es) X.env)).all (fun x => !x.1) && (backToKw cpos (keywordEach [] X.env)).all (fun x => x.1.isSome) && decide ((e :: es).length + ([] : List Keyword).length + (if ([] : List Keyword).isEmpty then 0 else 1) < 30)) = true := by rfl) :
    PE X (.Call (.Attribute (.Subscript (.Name x pos) k p2) name apos) (e :: es) [] cpos) (tE X.K Z (wMu2 i wk ws lm)) :=
  pe_to (pe_bm pa slot hty hm (pe_ix ix_seq (pe_var hN hv hd hcd) hk hix) ha rfl hfw hline hst hpl) fun σ H Q q => mu2_glue hl q
end
end Pt
namespace Pt
open PySem PySem.Spec L2
open PyProof.Rows (IsTup)
def TopK (P : Program) (w : World) (h : Heap) (u : Value) (d : PyData) : Prop := ∀ (A : Around) (E : Value → Shared → Prop) (s : Shared) (Q : Value → Shared → Prop), A.guards = some [] → A.units + (d.depth + 1) < cLine → (∀ b o, h.get? b = some o → s.heap.get? b = some o) →
  (∀ h' t tk, (∀ b o, s.heap.get? b = some o → h'.get? b = some o) → Q (.str d.shown t) { s with heap := h', toks := tk }) → wpAny (model P w) A (call (.builtin "repr") [u]) Q E s
structure RK (P : Program) (w : World) (h : Heap) (u : Value) (d : PyData) : Prop where
  rd : ∃ as, Reads h u d as
  rk : ∃ bs, ReadAtMost h d.depth bs ∧ ReprK P w bs h d.depth u d.shown
  top : TopK P w h u d
structure RKs (P : Program) (w : World) (h : Heap) (us : List Value) (ds : List PyData) : Prop where
  rd : ∃ as, ReadsAll h us ds as
  rk : ∃ bs, ReadAtMost h (PyData.depthAll ds) bs ∧ ReprAllK P w bs h (PyData.depthAll ds) us (PyData.shownAll ds)
section
variable {P : Program} {w : World} {h : Heap}
theorem RKs.nil : RKs P w h [] [] := ⟨⟨[], .nil⟩, [], fun _ z => (List.not_mem_nil z).elim, by simp only [PyData.shownAll]; exact .nil⟩
theorem RKs.cons {u : Value} {us : List Value} {d : PyData} {ds : List PyData} (a : RK P w h u d) (b : RKs P w h us ds) : RKs P w h (u :: us) (d :: ds) := by
  obtain ⟨⟨a1, r1⟩, ⟨b1, hb1, k1⟩, _⟩ := a
  obtain ⟨⟨a2, r2⟩, ⟨b2, hb2, k2⟩⟩ := b
  refine ⟨⟨_, .cons r1 r2⟩, b1 ++ b2, ?_, ?_⟩
  · simp only [PyData.depthAll]
    exact (hb1.mono (Nat.le_max_left _ _)).append (hb2.mono (Nat.le_max_right _ _))
  · simp only [PyData.depthAll, PyData.shownAll]
    exact .cons ((k1.more fun b hb => List.mem_append_left _ hb).level_le (Nat.le_max_left _ _)) (k2.more_le (fun b hb => List.mem_append_right _ hb) (Nat.le_max_right _ _))
theorem RK.non : RK P w h .none .none := ⟨⟨[], .none⟩, ⟨[], fun _ z => (List.not_mem_nil z).elim, by simp only [PyData.shown]; exact .of_is ReprIs.none _ _ _⟩, fun A E s Q _ _ _ q => by
  simp only [PyData.shown] at q
  exact PySem.P.repr_of_none (q _ _ _ fun _ _ e => e)⟩
theorem RK.bool (b : Bool) : RK P w h (.bool b) (.bool b) := ⟨⟨[], .bool b⟩, ⟨[], fun _ z => (List.not_mem_nil z).elim, by simp only [PyData.shown]; exact .of_is (ReprIs.bool b) _ _ _⟩, fun A E s Q _ _ _ q => by
  simp only [PyData.shown] at q
  exact PySem.P.repr_of_bool (q _ _ _ fun _ _ e => e)⟩
theorem RK.int {i : Int} {t : Tok} (hs : i.natAbs.log2 < 1920) : RK P w h (.int i t) (.int i) := ⟨⟨[], .int i t⟩, ⟨[], fun _ z => (List.not_mem_nil z).elim, by simp only [PyData.shown]; exact .of_is (ReprIs.int t hs) _ _ _⟩, fun A E s Q _ _ _ q => by
  simp only [PyData.shown] at q
  exact PySem.P.repr_of_int hs (q _ _ _ fun _ _ e => e)⟩
theorem RK.str {x : Str} {t : Tok} (hz : (PyData.shown (.str x)).length ≤ sizeLine) : RK P w h (.str x t) (.str x) := by
  simp only [PyData.shown] at hz
  exact ⟨⟨[], .str x t⟩, ⟨[], fun _ z => (List.not_mem_nil z).elim, by simp only [PyData.shown]; exact .of_is (ReprIs.str x t hz) _ _ _⟩, fun A E s Q _ _ _ q => by
    simp only [PyData.shown] at q
    exact PySem.P.repr_of_str (q _ _ _ fun _ _ e => e) hz⟩
theorem RK.list {a : Addr} {o : Obj} {us : List Value} {n : Nat} {ds : List PyData} (h1 : h.get? a = some o) (h2 : o.cls = .type "list") (h3 : o.data = .seq us.toArray n) (r : RKs P w h us ds) (hz : (PyData.shown (.list ds)).length ≤ sizeLine) : RK P w h (.ref a) (.list ds) := by
  obtain ⟨⟨as, ra⟩, bs, hb, hk⟩ := r
  have rr : Reads h (.ref a) (.list ds) (a :: as) := .list h1 h2 h3 ra
  have na : a ∉ bs := not_mem_of_deeper rr (by simp only [PyData.depth]; omega) hb
  have hz' : (listText (PyData.shownAll ds)).length ≤ sizeLine := by simpa only [PyData.shown] using hz
  refine ⟨⟨_, rr⟩, ⟨a :: bs, ReadAtMost.cons rr (by simp only [PyData.depth]; omega) hb, ?_⟩, fun A E s Q hg hu hk0 q => ?_⟩
  · simp only [PyData.depth, PyData.shown]
    cases us with
    | nil =>
      cases ra
      simp only [PyData.shownAll, listText_nil]
      exact ReprK.listEmpty h1 h2 h3
    | cons x l => exact ReprK.list h1 h2 h3 na (by simpa using hk.length_eq) fun i y e => hk.item i y (by simpa using e)
  · simp only [PyData.depth] at hu
    simp only [PyData.shown] at q
    refine call_repr_slot (by omega) ⟨o, hk0 _ _ h1, h2⟩ F.slot_list_repr.toG ?_
    cases us with
    | nil =>
      cases ra
      simp only [PyData.shownAll, listText_nil] at q
      exact call_list_repr_empty ⟨o, hk0 _ _ h1, h2⟩ (hk0 _ _ h1) h3 ⟨_, _, rfl, q s.heap _ _ fun _ _ e => e⟩
    | cons x l =>
      exact call_list_reprK h1 h2 h3 na (by simpa using hk.length_eq) (fun i y e => hk.item i y (by simpa using e)) hg (fun b _ => Clear.nil b) (by show A.units + 1 + (PyData.depthAll ds + 1) < cLine; omega) hk0 (fun h' u tk kk => ⟨_, _, rfl, q h' u tk kk⟩) hz'
theorem RK.tuple {a : Addr} {o : Obj} {us : List Value} {n : Nat} {ds : List PyData} (h1 : h.get? a = some o) (h2 : o.cls = .type "tuple") (h3 : o.data = .seq us.toArray n) (r : RKs P w h us ds) (hz : (PyData.shown (.tuple ds)).length ≤ sizeLine) : RK P w h (.ref a) (.tuple ds) := by
  obtain ⟨⟨as, ra⟩, bs, hb, hk⟩ := r
  have rr : Reads h (.ref a) (.tuple ds) as := .tuple h1 h2 h3 ra
  have na : a ∉ bs := not_mem_of_deeper rr (by simp only [PyData.depth]; omega) hb
  have hz' : (tupleText (PyData.shownAll ds)).length ≤ sizeLine := by simpa only [PyData.shown] using hz
  refine ⟨⟨_, rr⟩, ⟨a :: bs, ReadAtMost.cons rr (by simp only [PyData.depth]; omega) hb, ?_⟩, fun A E s Q hg hu hk0 q => ?_⟩
  · simp only [PyData.depth, PyData.shown]
    exact ReprK.tuple h1 h2 h3 na hk
  · simp only [PyData.depth] at hu
    simp only [PyData.shown] at q
    refine call_repr_slot (by omega) ⟨o, hk0 _ _ h1, h2⟩ F.slot_tuple_repr ?_
    exact call_tuple_reprK h1 h2 h3 na hk hg (fun b _ => Clear.nil b) (by show A.units + 1 + (PyData.depthAll ds + 1) < cLine; omega) hk0 (fun h' u tk kk => ⟨_, _, rfl, q h' u tk kk⟩) hz'
theorem RK.dict {a : Addr} {o : Obj} {es : Array DictEntry} {n : Nat} {kvs : List (PyData × PyData)} (h1 : h.get? a = some o) (h2 : o.cls = .type "dict") (h3 : o.data = .dict es n) (hsys : (a == sysModules) = false) (r1 : RKs P w h (es.toList.map (·.key)) (kvs.map (·.1))) (r2 : RKs P w h (es.toList.map (·.val)) (kvs.map (·.2))) (hz : (PyData.shown (.dict kvs)).length ≤ sizeLine) : RK P w h (.ref a) (.dict kvs) := by
  obtain ⟨⟨as1, ra1⟩, bs1, hb1, hk1⟩ := r1
  obtain ⟨⟨as2, ra2⟩, bs2, hb2, hk2⟩ := r2
  have rr : Reads h (.ref a) (.dict kvs) (a :: as1 ++ as2) := .dict h1 h2 h3 ra1 ra2
  have hb : ReadAtMost h (PyData.depthKv kvs) (bs1 ++ bs2) := (hb1.mono (PyData.depthAll_keys_le kvs)).append (hb2.mono (PyData.depthAll_vals_le kvs))
  have na : a ∉ bs1 ++ bs2 := not_mem_of_deeper rr (by simp only [PyData.depth]; omega) hb
  have hz' : (dictText (PyData.shownKv kvs)).length ≤ sizeLine := by simpa only [PyData.shown] using hz
  have en : ReprEntriesK P w (bs1 ++ bs2) h (PyData.depthKv kvs) es.toList (PyData.shownKv kvs) := by
    rw [PyData.shownKv_eq]
    exact ReprEntriesK.of_two es.toList _ _ (hk1.more_le (fun b hb => List.mem_append_left _ hb) (PyData.depthAll_keys_le kvs)) (hk2.more_le (fun b hb => List.mem_append_right _ hb) (PyData.depthAll_vals_le kvs))
  refine ⟨⟨_, rr⟩, ⟨a :: (bs1 ++ bs2), ReadAtMost.cons rr (by simp only [PyData.depth]; omega) hb, ?_⟩, fun A E s Q hg hu hk0 q => ?_⟩
  · simp only [PyData.depth, PyData.shown]
    exact ReprK.dict h1 h2 h3 hsys na en
  · simp only [PyData.depth] at hu
    simp only [PyData.shown] at q
    refine call_repr_slot (by omega) ⟨o, hk0 _ _ h1, h2⟩ F.slot_dict_repr ?_
    exact call_dict_reprK h1 h2 h3 hsys na en hg (fun b _ => Clear.nil b) (by show A.units + 1 + (PyData.depthKv kvs + 1) < cLine; omega) hk0 (fun h' u tk kk => ⟨_, _, rfl, q h' u tk kk⟩) hz'
end
def keyP : PyData → Bool
  | .int _ => true
  | .str _ => true
  | _ => false
mutual
def okP : PyData → Bool
  | .none => true
  | .bool _ => true
  | .int i => decide (i.natAbs.log2 < 1920)
  | .str x => decide ((PyData.shown (.str x)).length ≤ szMax)
  | .list ds => okPs ds && decide ((PyData.shown (.list ds)).length ≤ szMax)
  | .tuple ds => okPs ds && decide ((PyData.shown (.tuple ds)).length ≤ szMax)
  | .dict kvs => okKv kvs && decide ((PyData.shown (.dict kvs)).length ≤ szMax)
def okPs : List PyData → Bool
  | [] => true
  | d :: ds => okP d && okPs ds
def okKv : List (PyData × PyData) → Bool
  | [] => true
  | (k, v) :: r => keyP k && okP k && okP v && okKv r
end
theorem okP_list {ds : List PyData} (h : okP (.list ds) = true) : okPs ds = true ∧ (PyData.shown (.list ds)).length ≤ szMax := by
  simp only [okP, Bool.and_eq_true, decide_eq_true_eq] at h
  exact h
theorem okP_tuple {ds : List PyData} (h : okP (.tuple ds) = true) : okPs ds = true ∧ (PyData.shown (.tuple ds)).length ≤ szMax := by
  simp only [okP, Bool.and_eq_true, decide_eq_true_eq] at h
  exact h
theorem okP_dict {ds : List (PyData × PyData)} (h : okP (.dict ds) = true) : okKv ds = true ∧ (PyData.shown (.dict ds)).length ≤ szMax := by
  simp only [okP, Bool.and_eq_true, decide_eq_true_eq] at h
  exact h
theorem okPs_cons {d : PyData} {ds : List PyData} (h : okPs (d :: ds) = true) : okP d = true ∧ okPs ds = true := by
  simp only [okPs, Bool.and_eq_true] at h
  exact h
section
variable {X : Cx} {pins : List (Addr × Obj)} {σ : L2.St} {B H : Hp} {s : Shared}
theorem okKv_cons {k v : PyData} {ds : List (PyData × PyData)} (h : okKv ((k, v) :: ds) = true) : keyP k = true ∧ okP k = true ∧ okP v = true ∧ okKv ds = true := by
  simp only [okKv, Bool.and_eq_true] at h
  exact ⟨h.1.1.1, h.1.1.2, h.1.2, h.2⟩
theorem key_rk {h : Heap} {k k2 : Key} {u : Value} (h1 : (mixKind X.prog X.w).is k2 u = true) (e : k = k2) (ok : okP (kD k) = true) : RK X.prog X.w h u (kD k) := by
  subst e
  have rk : RelV (kV k) u := relV_key h1
  cases k with
  | inl i =>
    obtain ⟨t, rfl⟩ := rk
    simp only [kD, okP, decide_eq_true_eq] at ok
    exact .int ok
  | inr x =>
    obtain ⟨t, rfl⟩ := rk
    simp only [kD, okP, decide_eq_true_eq] at ok
    exact .str (szOk ok)
mutual
theorem RF.rk (I : L2.Inv X pins σ H s) (sb : Sub B H) : ∀ {d : PyData} {v : V}, RF X.K B v d → ∀ {u : Value}, RelV v u → okP d = true → RK X.prog X.w s.heap u d
  | _, _, .non => by
    intro r _
    obtain rfl := (show _ = Value.none from r)
    exact .non
  | _, _, .bl _ => by
    intro r _
    obtain rfl := (show _ = Value.bool _ from r)
    exact .bool _
  | _, _, .int _ => by
    intro r ok
    obtain ⟨t, rfl⟩ := r
    simp only [okP, decide_eq_true_eq] at ok
    exact .int ok
  | _, _, .str _ => by
    intro r ok
    obtain ⟨t, rfl⟩ := r
    simp only [okP, decide_eq_true_eq] at ok
    exact .str (szOk ok)
  | _, _, .lst e rs => by
    intro r ok
    obtain rfl := (show _ = Value.ref _ from r)
    obtain ⟨its, rv, ⟨o, n, h1, h2, _, h3⟩, _⟩ := I.list (SqL.of (sb _ _ e))
    obtain ⟨k1, k2⟩ := okP_list ok
    exact .list h1 h2 h3 (RFs.rk I sb rs rv k1) (szOk k2)
  | _, _, .tup e rs => by
    intro r ok
    obtain rfl := (show _ = Value.ref _ from r)
    obtain ⟨its, rv, ⟨o, h1, h2, n, h3⟩, _⟩ := I.tuple (sb.sqT e)
    obtain ⟨k1, k2⟩ := okP_tuple ok
    exact .tuple h1 h2 h3 (RFs.rk I sb rs rv k1) (szOk k2)
  | _, _, .dic e rs => by
    intro r ok
    obtain rfl := (show _ = Value.ref _ from r)
    obtain ⟨_, hsys, us, kv, o, es, ep, h1, h2, h3, _, h5, _⟩ := I.hok _ _ (sb _ _ e)
    obtain ⟨k1, k2⟩ := okP_dict ok
    obtain ⟨a1, a2⟩ := RFd.rk I sb rs h5 kv k1
    exact .dict h1 h2.1 h3 hsys a1 a2 (szOk k2)
  | _, _, .lm e d rs => fun _ ok => nomatch (okKv_cons (okP_dict ok).1).1
theorem RFs.rk (I : L2.Inv X pins σ H s) (sb : Sub B H) : ∀ {ds : List PyData} {vs : List V}, RFs X.K B vs ds → ∀ {us : List Value}, Vals vs us → okPs ds = true → RKs X.prog X.w s.heap us ds
  | _, _, .nil => by
    intro rv _
    cases rv
    exact .nil
  | _, _, .cons r t => by
    intro rv ok
    cases rv with
    | cons rv tv =>
      obtain ⟨k1, k2⟩ := okPs_cons ok
      exact .cons (RF.rk I sb r rv k1) (RFs.rk I sb t tv k2)
theorem RFd.rk (I : L2.Inv X pins σ H s) (sb : Sub B H) : ∀ {ds : List (PyData × PyData)} {kvs : List (Key × V)}, RFd X.K B kvs ds → ∀ {es : List DictEntry} {us : List (Key × Value)}, Pairs (mixKind X.prog X.w) es us → KV kvs us → okKv ds = true → RKs X.prog X.w s.heap (es.map (·.key)) (ds.map (·.1)) ∧ RKs X.prog X.w s.heap (es.map (·.val)) (ds.map (·.2))
  | _, _, .nil => by
    intro p q _
    cases q
    cases p
    exact ⟨.nil, .nil⟩
  | _, _, .cons (k := k) r t3 => by
    intro p q ok
    cases q with
    | cons h3 t2 =>
      cases p with
      | cons h1 h2 t1 =>
        obtain ⟨_, ok1, ok2, ok3⟩ := okKv_cons ok
        obtain ⟨a, b⟩ := RFd.rk I sb t3 t1 t2 ok3
        refine ⟨.cons (key_rk h1 h3.1 ok1) a, .cons (RF.rk I sb r ?_ ok2) b⟩
        show RelV _ (DictEntry.val _)
        rw [h2]
        exact h3.2
end
mutual
def plainO : O → Bool
  | .fz _ => true
  | .lf _ => true
  | .df _ => true
  | .ol xs => plainOs xs
  | .ot xs => plainOs xs
  | .tn _ => true
  | _ => false
def plainOs : List O → Bool
  | [] => true
  | x :: xs => plainO x && plainOs xs
end
mutual
theorem RO.rk (I : L2.Inv X pins σ H s) (sb : Sub B H) : ∀ {x : O} {v : V} {f : List Addr}, RO X.K B H v x f → ∀ {u : Value}, RelV v u → plainO x = true → okP (toP x) = true → RK X.prog X.w s.heap u (toP x)
  | _, _, _, .fz r => by
    intro rv _ ok
    exact RF.rk I sb r rv ok
  | _, _, _, .dl _ _ _ => by
    intro _ p _
    cases p
  | _, _, _, .tn e _ rs => by
    intro rv _ ok
    exact RF.rk I sb (.tup e rs) rv ok
  | _, _, _, .lf e rs => by
    intro r _ ok
    obtain rfl := (show _ = Value.ref _ from r)
    obtain ⟨its, rv, ⟨o, n, h1, h2, _, h3⟩, _⟩ := I.list (SqL.of e)
    obtain ⟨k1, k2⟩ := okP_list ok
    exact .list h1 h2 h3 (RFs.rk I sb rs rv k1) (szOk k2)
  | _, _, _, .df e q rs => by
    intro r _ ok
    obtain rfl := (show _ = Value.ref _ from r)
    obtain ⟨_, hsys, us, kv, o, es, ep, h1, h2, h3, _, h5, _⟩ := I.hok _ _ e
    obtain ⟨k1, k2⟩ := okP_dict ok
    obtain ⟨a1, a2⟩ := RFd.rk I sb (RFd.of q rs) h5 kv k1
    exact .dict h1 h2.1 h3 hsys a1 a2 (szOk k2)
  | _, _, _, .ol e rs => by
    intro r p ok
    obtain rfl := (show _ = Value.ref _ from r)
    obtain ⟨its, rv, ⟨o, n, h1, h2, _, h3⟩, _⟩ := I.list (SqL.of e)
    obtain ⟨k1, k2⟩ := okP_list ok
    exact .list h1 h2 h3 (ROs.rk I sb rs rv p k1) (szOk k2)
  | _, _, _, .ot e rs => by
    intro r p ok
    obtain rfl := (show _ = Value.ref _ from r)
    obtain ⟨its, rv, ⟨o, h1, h2, n, h3⟩, _⟩ := I.tuple (SqT.of (sb _ _ e))
    obtain ⟨k1, k2⟩ := okP_tuple ok
    exact .tuple h1 h2 h3 (ROs.rk I sb rs rv p k1) (szOk k2)
  | _, _, _, .od .. => by
    intro _ p _
    exact nomatch p
  | _, _, _, .oi .. => by
    intro _ p _
    exact nomatch p
  | _, _, _, .dt .. => by
    intro _ p _
    exact nomatch p
  | _, _, _, .dq .. => by
    intro _ p _
    exact nomatch p
  | _, _, _, .dn .. => by
    intro _ p _
    exact nomatch p
  | _, _, _, .dz .. => by
    intro _ p _
    exact nomatch p
  | _, _, _, .exn .. => by
    intro _ p _
    exact nomatch p
  | _, _, _, .scr .. => by
    intro _ p _
    exact nomatch p
  | _, _, _, .hid => by
    intro _ p _
    exact nomatch p
theorem ROs.rk (I : L2.Inv X pins σ H s) (sb : Sub B H) : ∀ {xs : List O} {vs : List V} {f : List Addr}, ROs X.K B H vs xs f → ∀ {us : List Value}, Vals vs us → plainOs xs = true → okPs (toPs xs) = true → RKs X.prog X.w s.heap us (toPs xs)
  | _, _, _, .nil => by
    intro rv _ _
    cases rv
    exact .nil
  | _, _, _, .cons r t => by
    intro rv p ok
    cases rv with
    | cons rv tv =>
      obtain ⟨k1, k2⟩ := okPs_cons ok
      have p' := Bool.and_eq_true_iff.mp (show (plainO _ && plainOs _) = true from p)
      exact .cons (RO.rk I sb r rv p'.1 k1) (ROs.rk I sb t tv p'.2 k2)
end
end
def oRepr : List O → (O → Prop) → Prop
  | [x], R => plainO x = true ∧ okP (toP x) = true ∧ (toP x).depth ≤ 40 ∧ R (.fz (.str (toP x).shown))
  | _, _ => False
def rRepr (K : PySem.W.Frag) : List V → Hp → VK → Prop := fun vs H Q => ∃ (B : Hp) (v : V) (x : O) (f : List Addr), vs = [v] ∧ Sub B H ∧ RO K B H v x f ∧ plainO x = true ∧ okP (toP x) = true ∧ (toP x).depth ≤ 40 ∧ Q (.str (toP x).shown) H
theorem call_repr {X : Cx} (gd : X.A.guards = some []) (hu : X.A.units + 64 < cLine) : CallR X (.builtin "repr") (rRepr X.K) := fun pins s σ H xs us Q I r h => by
  obtain ⟨B, v, x, f, rfl, sb, ro, p, ok, hd, q⟩ := h
  obtain ⟨u, rfl, rv⟩ := vals1 r
  exact (RO.rk I sb ro rv p ok).top X.A X.xe s _ gd (by omega) (fun _ _ e => e) fun h' t tk kk => ⟨.str _, H, I.kept kk, ⟨t, rfl⟩, q⟩
theorem rd_repr {K : PySem.W.Frag} : Rd K (rRepr K) oRepr := fun B H vs xs f R Q s rr h q => by
  unfold oRepr at h
  split at h
  · obtain ⟨p, ok, hd, h⟩ := h
    obtain ⟨v, g, rfl, r⟩ := ros1 rr
    exact ⟨B, v, _, g, rfl, s, r, p, ok, hd, q _ h _ B H (Out.here (.str _) s)⟩
  · exact h.elim
end Pt
namespace Pt
open PySem PySem.Spec L2
open PyProof.Rows (IsTup)
def dicT : List (PyData × PyData) → String
  | [(.none, _)] => "list"
  | _ => "dict"
theorem dicT_or (kvs : List (PyData × PyData)) : dicT kvs = "dict" ∨ dicT kvs = "list" := by
  unfold dicT
  split
  · exact .inr rfl
  · exact .inl rfl
def tyO : O → Option String
  | .fz .none => some "NoneType"
  | .fz (.bool _) => some "bool"
  | .fz (.int _) => some "int"
  | .fz (.str _) => some "str"
  | .fz (.list _) => some "list"
  | .fz (.tuple _) => some "tuple"
  | .fz (.dict kvs) => some (dicT kvs)
  | .ol _ => some "list"
  | .lf _ => some "list"
  | .ot _ => some "tuple"
  | .od _ => some "dict"
  | .df _ => some "dict"
  | _ => none
def isSub (t T : String) : Bool := t == T || (t == "bool" && T == "int")
def tyNs : List String := ["NoneType", "bool", "int", "str", "list", "tuple", "dict"]
def TyN (T : String) : Prop := ∀ t ∈ tyNs, kitB t T = some (isSub t T)
theorem tyN_int : TyN "int" := by unfold TyN tyNs; decide +kernel
theorem tyN_bool : TyN "bool" := by unfold TyN tyNs; decide +kernel
theorem tyN_tuple : TyN "tuple" := by unfold TyN tyNs; decide +kernel
section
variable {K : PySem.W.Frag} {B H : Hp} {v : V} {x : O} {f : List Addr} {d : PyData}
theorem tyX_lst {H : Hp} {a : Addr} {vs : List V} (h : H a = some (.lst vs)) : TyX K H (.ref a) (.type "list") := .base (.lst h)
theorem RF.ty (s : Sub B H) (r : RF K B v d) : ∃ t ∈ tyNs, tyO (.fz d) = some t ∧ TyX K H v (.type t) := by
  cases r with
  | non => exact ⟨_, by decide, rfl, .base .non⟩
  | bl b => exact ⟨_, by decide, rfl, .base (.bl b)⟩
  | int i => exact ⟨_, by decide, rfl, .base (.int i)⟩
  | str x => exact ⟨_, by decide, rfl, .base (.str x)⟩
  | lst e _ => exact ⟨_, by decide, rfl, tyX_lst (s _ _ e)⟩
  | tup e _ =>
    refine ⟨_, by decide, rfl, ?_⟩
    rcases s.sqT e with (h | ⟨o, h⟩) | ⟨o, its, n, hk, hc, _⟩
    · exact .base (.tup h)
    · exact .fTuple h
    · exact .kTuple hk hc
  | dic e r =>
    refine ⟨"dict", by decide, ?_, .base (.dK (s _ _ e))⟩
    cases r with
    | nil => rfl
    | @cons k => cases k <;> rfl
  | lm e _ _ => exact ⟨"list", by decide, rfl, tyX_lst (s _ _ e)⟩
theorem RO.ty {t : String} (s : Sub B H) (r : RO K B H v x f) (h : tyO x = some t) : t ∈ tyNs ∧ TyX K H v (.type t) := by
  cases r with
  | fz r =>
    obtain ⟨t', h1, h2, h3⟩ := r.ty s
    rw [h] at h2
    cases h2
    exact ⟨h1, h3⟩
  | hid => cases h
  | scr _ => cases h
  | tn _ _ _ => cases h
  | dl _ _ _ => cases h
  | dt _ _ _ => cases h
  | dq _ _ _ => cases h
  | dn _ _ _ _ => cases h
  | dz _ _ _ _ => cases h
  | lf e _ => cases h; exact ⟨by decide, tyX_lst e⟩
  | df e _ _ => cases h; exact ⟨by decide, .base (.dK e)⟩
  | ol e _ => cases h; exact ⟨by decide, tyX_lst e⟩
  | ot e _ => cases h; exact ⟨by decide, .base (.tup (s _ _ e))⟩
  | od e _ _ => cases h; exact ⟨by decide, .base (.dK e)⟩
  | oi _ _ _ _ => cases h
  | exn _ _ _ => cases h
end
def oIsi (T : String) : List O → (O → Prop) → Prop
  | [x], R => ∃ t, tyO x = some t ∧ R (.fz (.bool (isSub t T)))
  | _, _ => False
def rIsi1 (K : PySem.W.Frag) (T : String) : List V → Hp → VK → Prop := fun vs H Q => match vs with
  | [v] => rIsi K [v, .ty T] H Q
  | _ => False
theorem rd_isi {K : PySem.W.Frag} {T : String} (hT : TyN T) : Rd K (rIsi1 K T) (oIsi T) := fun B H vs xs f R Q s rr h q => by
  unfold oIsi at h
  split at h
  · obtain ⟨t, h1, h2⟩ := h
    obtain ⟨v, g, rfl, r⟩ := ros1 rr
    obtain ⟨h3, h4⟩ := r.ty s h1
    exact ⟨v, _, _, _, _, rfl, .ty T, h4, kit_ty (hT t h3), q _ h2 _ B H (Out.here (.bl _) s)⟩
  · exact h.elim
section
variable {X : Cx} {Z : Ent} {e : Expr} {p p2 pos : Pos} {a1 : AD} {y : Str} {T : String}
theorem pe_tyn {y : Str} {p : Pos} {T : String} (hg : Gl X y) (hm : X.mg y = none) (hv : bootBuiltins y = some (.type T)) (hn : y ≠ "__name__" := by decide) (hdb : (y == ("__debug__" : Str)) = false := by decide) : PE X (.Name y p) (tC (.ty T)) :=
  ⟨fun pins s σ H Q I h => ld_blt I hg hm hv ⟨.ty T, H, I, rfl, h⟩ hn hdb⟩
theorem e_isi (hT : TyN T) (ha : PE X e (tAD X.K Z a1)) (hg : Gl X "isinstance") (hm : X.mg "isinstance" = none) (hg2 : Gl X y) (hm2 : X.mg y = none) (hv : bootBuiltins y = some (.type T)) (hn : y ≠ "__name__" := by decide) (hdb : (y == ("__debug__" : Str)) = false := by decide)
    (h1 : starEach [e, .Name y p2] X.env = (false, eval e X.env) :: starEach [.Name y p2] X.env := by rfl) (h2 : starEach [.Name y p2] X.env = (false, eval (.Name y p2) X.env) :: starEach [] X.env := by rfl) (h3 : (backTo pos (starEach [.Name y p2] X.env)).any (·.1) = false := by rfl) :
    PE X (.Call (.Name "isinstance" p) [e, .Name y p2] [] pos) (tE X.K Z (wRd [a1] (oIsi T))) :=
  pe_to (pe_callB call_isi hg hm rfl (pa_cons ha (pa_cons (pe_tyn hg2 hm2 hv hn hdb) pa_nil h2) h1) (by decide) (by decide) h1 h3) fun σ H Q q => by
    exact rd_glue (rd_isi hT) q
end
def wCh (w1 w2 w3 : WE) (od od' : List O → (O → Prop) → Prop) : WE := fun ρ R => w1 ρ fun d1 ρ1 => asF d1 fun f1 => w2 ρ1 fun d2 ρ2 => asF d2 fun f2 => od [.fz f1, .fz f2] fun z => asB z fun k => br k (w3 ρ2 fun d3 ρ3 => asF d3 fun f3 => od' [.fz f2, .fz f3] fun z2 => R z2 ρ3) (R (.fz (.bool false)) ρ2)
section
variable {X : Cx} {Z : Ent} {a b c : Expr} {pos : Pos} {w1 w2 w3 : WE} {op op' : CmpOp} {r r' : R2} {od od' : List O → (O → Prop) → Prop}
theorem ch_ok (hr : Rd X.K (r2L r) od) (hr' : Rd X.K (r2L r') od') {σ : St} {H : Hp} {Q : VK} (h : tE X.K Z (wCh w1 w2 w3 od od') σ H Q) : tChain r r' (tE X.K Z w1) (tE X.K Z w2) (tE X.K Z w3) σ H Q := by
  obtain ⟨B, ρ, fp, R, k, h, q⟩ := h
  refine ⟨B, ρ, fp, _, k, h, fun d1 ρ1 h1 v1 H1 B1 fp1 n1 k1 => ?_⟩
  obtain ⟨f1, rfl, h1⟩ := asF_iff h1
  have r1 := k1.headF
  obtain ⟨g1, k1', s1⟩ := k1.drop1
  refine ⟨B1, ρ1, g1, _, k1', h1, fun d2 ρ2 h2 v2 H2 B2 fp2 n2 k2 => ?_⟩
  obtain ⟨f2, rfl, h2⟩ := asF_iff h2
  have r2 := k2.headF
  obtain ⟨g2, k2', s2⟩ := k2.drop1
  have n12 := ((n1.less s1).trans n2).less s2
  refine hr B2 H2 [v1, v2] [.fz f1, .fz f2] ([] ++ ([] ++ [])) _ _ k2'.sub (.cons (.fz (r1.mono n2.bsub)) (.cons (.fz r2) .nil)) h2 fun z hz u B3 H3 o => ?_
  obtain ⟨kb, rfl, hb⟩ := asB_iff hz
  obtain ⟨g3, k3, n3⟩ := o.ok k2'
  have r3 := k3.headF
  obtain ⟨g3', k3', s3⟩ := k3.drop1
  have n123 := (n12.trans n3).less s3
  cases r3
  refine ⟨kb, rfl, ?_⟩
  cases kb with
  | false =>
    rw [if_neg Bool.false_ne_true]
    exact q _ ρ2 hb _ H3 B3 _ n123 (k3'.addF (.bl false))
  | true =>
    rw [if_pos rfl]
    refine ⟨B3, ρ2, g3', _, k3', hb, fun d3 ρ3 h3 v3 H4 B4 fp4 n4 k4 => ?_⟩
    obtain ⟨f3, rfl, h3⟩ := asF_iff h3
    have r4 := k4.headF
    obtain ⟨g4, k4', s4⟩ := k4.drop1
    refine hr' B4 H4 [v2, v3] [.fz f2, .fz f3] ([] ++ ([] ++ [])) _ _ k4'.sub (.cons (.fz ((r2.mono n3.bsub).mono n4.bsub)) (.cons (.fz r4) .nil)) h3 fun z2 hz2 u2 B5 H5 o2 => ?_
    obtain ⟨g5, k5, n5⟩ := o2.ok k4'
    exact q _ ρ3 hz2 _ H5 B5 _ (((n123.trans n4).less s4).trans n5) k5
theorem e_chain (ho : OpR X (compareOp op) r) (hr : Rd X.K (r2L r) od) (ho' : OpR X (compareOp op') r') (hr' : Rd X.K (r2L r') od') (ha : PE X a (tE X.K Z w1)) (hb : PE X b (tE X.K Z w2)) (hc : PE X c (tE X.K Z w3)) (hm : lastMarks [op, op'] [b, c] = false := by with_unfolding_all rfl) :
    PE X (.Compare a [op, op'] [b, c] pos) (tE X.K Z (wCh w1 w2 w3 od od')) := pe_to (pe_chain ho ho' ha hb hc hm) fun σ H Q q => ch_ok hr hr' q
end
def flatD : PyData → Bool
  | .none => true
  | .bool _ => true
  | .int _ => true
  | .str _ => true
  | _ => false
def vS : O → Option (List PyData)
  | .fz (.list ds) => some ds
  | .fz (.tuple ds) => some ds
  | .lf ds => some ds
  | .ol xs => unf xs
  | .ot xs => unf xs
  | _ => none
def inD (d : PyData) (ds : List PyData) : Bool := ds.any fun z => PyData.eqv z d
def oIn (neg : Bool) : List O → (O → Prop) → Prop
  | [.fz d, y], R => ∃ ds, vS y = some ds ∧ flatD d = true ∧ ds.all flatD = true ∧ R (.fz (.bool (if neg then !inD d ds else inD d ds)))
  | _, _ => False
section
variable {K : PySem.W.Frag} {B H : Hp} {v w : V} {d e : PyData}
theorem RF.flat (r : RF K B v d) (h : flatD d = true) : flatV v = true := by
  cases r with
  | non => rfl
  | bl _ => rfl
  | int _ => rfl
  | str _ => rfl
  | lst _ _ => cases h
  | tup _ _ => cases h
  | dic _ _ => cases h
  | lm _ _ _ => cases h
theorem RF.eqv (r : RF K B v d) (r2 : RF K B w e) (h : flatD d = true) (h2 : flatD e = true) : eqV v w = PyData.eqv d e := by
  cases r with
  | non => cases r2 <;> first | rfl | cases h2
  | bl a => cases r2 <;> first | rfl | cases h2
  | int i => cases r2 <;> first | rfl | cases h2
  | str x => cases r2 <;> first | rfl | cases h2
  | lst _ _ => cases h
  | tup _ _ => cases h
  | dic _ _ => cases h
  | lm _ _ _ => cases h
theorem RFs.flat : ∀ {vs : List V} {ds : List PyData}, RFs K B vs ds → ds.all flatD = true → vs.all flatV = true
  | _, _, .nil, _ => rfl
  | _, _, .cons r t, h => by
    rw [List.all_cons, Bool.and_eq_true] at h
    rw [List.all_cons, r.flat h.1, RFs.flat t h.2]
    rfl
theorem RFs.inD (r : RF K B w e) (h2 : flatD e = true) : ∀ {vs : List V} {ds : List PyData}, RFs K B vs ds → ds.all flatD = true → inV w vs = Pt.inD e ds
  | _, _, .nil, _ => rfl
  | _, _, .cons r1 t, h => by
    rw [List.all_cons, Bool.and_eq_true] at h
    have ih := RFs.inD r h2 t h.2
    unfold inV Pt.inD at *
    rw [List.any_cons, List.any_cons, ih, r1.eqv r h.1 h2]
theorem RO.seq {x : O} {f : List Addr} {ds : List PyData} (s : Sub B H) (r : RO K B H v x f) (h : vS x = some ds) : ∃ p vs, v = .ref p ∧ (SqL K H p vs ∨ SqT K H p vs) ∧ RFs K B vs ds := by
  cases r with
  | fz r =>
    cases r with
    | lst e t => cases h; exact ⟨_, _, rfl, .inl (SqL.of (s _ _ e)), t⟩
    | tup e t => cases h; exact ⟨_, _, rfl, .inr (s.sqT e), t⟩
    | _ => cases h
  | lf e t => cases h; exact ⟨_, _, rfl, .inl (SqL.of e), t⟩
  | ol e t =>
    rw [unf_iff h] at t
    exact ⟨_, _, rfl, .inl (SqL.of e), (ROs.unfz t).1⟩
  | ot e t =>
    rw [unf_iff h] at t
    exact ⟨_, _, rfl, .inr (SqT.of (s _ _ e)), (ROs.unfz t).1⟩
  | _ => cases h
theorem rd_in {neg : Bool} : Rd K (r2L (rIn K neg)) (oIn neg) := fun B H vs xs f R Q s rr h q => by
  unfold oIn at h
  split at h
  · obtain ⟨ds, h1, h2, h3, h4⟩ := h
    obtain ⟨v, w, g1, g2, rfl, r1, r2⟩ := ros2 rr
    cases r1 with
    | fz r1 =>
      obtain ⟨p, vs, rfl, hq, t⟩ := r2.seq s h1
      refine ⟨p, vs, rfl, hq, r1.flat h2, t.flat h3, ?_⟩
      rw [RFs.inD r1 h2 t h3]
      exact q _ h4 _ B H (Out.here (.bl _) s)
  · exact h.elim
end
def asStrs : List PyData → Option (List Str)
  | [] => some []
  | .str x :: r => (asStrs r).map (x :: ·)
  | _ :: _ => none
def wJoin (w w2 : WE) : WE := fun ρ R => w ρ fun d ρ1 => asF d fun f => match f with
  | .str a => w2 ρ1 fun d2 ρ2 => ∃ ds ys, vS d2 = some ds ∧ asStrs ds = some ys ∧ (ys.map (·.length)).sum + ys.length * a.length ≤ szMax ∧ R (.fz (.str (Txt.join a ys))) ρ2
  | _ => False
def sAug (i : Nat) (w : WE) (od : List O → (O → Prop) → Prop) : WS := fun E ρ => notHid (nth ρ i) (w ρ fun d ρ1 => notHid (nth ρ1 i) (od [nth ρ1 i, d] fun z => E.nx (ρ1.set i z)))
def parE : List Nat → List (Option O) → En → En
  | i :: is, some d :: ds, ρ => parE is ds (ρ.set i d)
  | _, _, ρ => ρ
def sPar (is : List Nat) (ws : List WE) : WS := fun E ρ => wADs (ws.map .ex) ρ fun ds ρ1 => E.nx (parE is ds ρ1)
section
variable {X : Cx} {Z : Ent} {ps : List Nat} {i j l : Nat} {x y z : Str} {a b c : Expr} {w w2 w3 : WE} {px py pz pt pos : Pos} {kt k2 : Nat} {pt2 : Pos}
theorem par_tmp {K : PySem.W.Frag} {B H : Hp} {σ : St} {ρ : En} {fp : List Addr} {v1 v2 : V} {d1 d2 : O} (k : Ok K Z B H (some v1 :: some v2 :: σ) (d1 :: d2 :: ρ) fp) (i j : Nat) : ∃ f2, Ok K Z B H ((σ.set i (some v1)).set j (some v2)) ((ρ.set i d1).set j d2) f2 ∧ ∀ a ∈ f2, a ∈ fp := by
  obtain ⟨f1, k1, s1⟩ := k.store (i + 1)
  obtain ⟨f2, k2, s2⟩ := (show Ok K Z B H (some v2 :: σ.set i (some v1)) (d2 :: ρ.set i d1) f1 from k1).store j
  exact ⟨f2, k2, fun a ha => s1 a (s2 a ha)⟩
theorem par_tmp3 {K : PySem.W.Frag} {B H : Hp} {σ : St} {ρ : En} {fp : List Addr} {v1 v2 v3 : V} {d1 d2 d3 : O} (k : Ok K Z B H (some v1 :: some v2 :: some v3 :: σ) (d1 :: d2 :: d3 :: ρ) fp) (i j l : Nat) : ∃ f2, Ok K Z B H (((σ.set i (some v1)).set j (some v2)).set l (some v3)) (((ρ.set i d1).set j d2).set l d3) f2 ∧ ∀ a ∈ f2, a ∈ fp := by
  obtain ⟨f1, k1, s1⟩ := k.store (i + 2)
  obtain ⟨f2, k2, s2⟩ := par_tmp (show Ok K Z B H (some v2 :: some v3 :: σ.set i (some v1)) (d2 :: d3 :: ρ.set i d1) f1 from k1) j l
  exact ⟨f2, k2, fun a ha => s1 a (s2 a ha)⟩
theorem s_par (hc : X.calm = true) (hN : X.N.Nodup) (hi : X.N[i]? = some x) (hj : X.N[j]? = some y) (hij : i ≠ j) (hx : X.env.scope.names.lookup x = some .local) (hy : X.env.scope.names.lookup y = some .local) (hp : ps.contains i = false) (hp2 : ps.contains j = false)
    (ha : PE X a (tE X.K Z w)) (hb : PE X b (tE X.K Z w2)) (hw : swappedStores [.Tuple [.Name x px, .Name y py] kt pt] (.Tuple [a, b] k2 pt2) X.env = pure (some [x, y])) (hs : swapsWithSole [.Tuple [.Name x px, .Name y py] kt pt] (.Tuple [a, b] k2 pt2) pos.line X.env = pure false := by rfl)
    (h1 : starEach [a, b] X.env = (false, eval a X.env) :: starEach [b] X.env := by rfl) (h2 : starEach [b] X.env = (false, eval b X.env) :: starEach [] X.env := by rfl) :
    PS X (.Assign [.Tuple [.Name x px, .Name y py] kt pt] (.Tuple [a, b] k2 pt2) pos) (tS X.K Z ps (sPar [i, j] [w, w2])) :=
  ps_to (ps_par hc hN hi hj hij hx hy (pa_cons ha (pa_cons hb pa_nil h2) h1) hw hs) fun D σ H q => by
    obtain ⟨B, ρ, fp, E, k, h, p⟩ := q
    refine args_ok [.ex w, .ex w2] k h fun ds ρ' h1 vs τ xs H' B' fp' g n k1 => ?_
    cases g with
    | ex g =>
      cases g with
      | ex g =>
        cases g
        obtain ⟨f2, k2, s2⟩ := par_tmp k1 i j
        exact ⟨_, _, rfl, p.nx _ h1 _ H' B' f2 (n.less s2) k2 ((Pin.set hp).trans (Pin.set hp2))⟩
theorem s_par3 (hc : X.calm = true) (hN : X.N.Nodup) (hi : X.N[i]? = some x) (hj : X.N[j]? = some y) (hl : X.N[l]? = some z) (hij : i ≠ j) (hil : i ≠ l) (hjl : j ≠ l) (hx : X.env.scope.names.lookup x = some .local) (hy : X.env.scope.names.lookup y = some .local) (hz : X.env.scope.names.lookup z = some .local) (hp : ps.contains i = false) (hp2 : ps.contains j = false) (hp3 : ps.contains l = false)
    (ha : PE X a (tE X.K Z w)) (hb : PE X b (tE X.K Z w2)) (hd : PE X c (tE X.K Z w3)) (hw : swappedStores [.Tuple [.Name x px, .Name y py, .Name z pz] kt pt] (.Tuple [a, b, c] k2 pt2) X.env = pure (some [x, y, z])) (hs : swapsWithSole [.Tuple [.Name x px, .Name y py, .Name z pz] kt pt] (.Tuple [a, b, c] k2 pt2) pos.line X.env = pure false := by rfl)
    (h1 : starEach [a, b, c] X.env = (false, eval a X.env) :: starEach [b, c] X.env := by rfl) (h2 : starEach [b, c] X.env = (false, eval b X.env) :: starEach [c] X.env := by rfl) (h3 : starEach [c] X.env = (false, eval c X.env) :: starEach [] X.env := by rfl) :
    PS X (.Assign [.Tuple [.Name x px, .Name y py, .Name z pz] kt pt] (.Tuple [a, b, c] k2 pt2) pos) (tS X.K Z ps (sPar [i, j, l] [w, w2, w3])) :=
  ps_to (ps_par3 hc hN hi hj hl hij hil hjl hx hy hz (pa_cons ha (pa_cons hb (pa_cons hd pa_nil h3) h2) h1) hw hs) fun D σ H q => by
    obtain ⟨B, ρ, fp, E, k, h, p⟩ := q
    refine args_ok [.ex w, .ex w2, .ex w3] k h fun ds ρ' h1 vs τ xs H' B' fp' g n k1 => ?_
    cases g with
    | ex g =>
      cases g with
      | ex g =>
        cases g with
        | ex g =>
          cases g
          obtain ⟨f2, k2, s2⟩ := par_tmp3 k1 i j l
          exact ⟨_, _, _, rfl, p.nx _ h1 _ H' B' f2 (n.less s2) k2 (((Pin.set hp).trans (Pin.set hp2)).trans (Pin.set hp3))⟩
end
def wLR1 (w : WE) : WE := fun ρ R => w ρ fun d ρ1 => asI d fun n => n ≤ szMax ∧ -1000000000 ≤ n ∧ R (.lf (rangeL 0 n.toNat)) ρ1
def wTR1 (w : WE) : WE := fun ρ R => w ρ fun d ρ1 => asI d fun n => n ≤ szMax ∧ -1000000000 ≤ n ∧ R (.fz (.tuple (rangeL 0 n.toNat))) ρ1
def wLR2 (w w2 : WE) : WE := fun ρ R => w ρ fun d ρ1 => asI d fun a => w2 ρ1 fun d2 ρ2 => asI d2 fun b => smallI a ∧ smallI b ∧ b - a ≤ szMax ∧ R (.lf (rangeL a (b - a).toNat)) ρ2
def wTR2 (w w2 : WE) : WE := fun ρ R => w ρ fun d ρ1 => asI d fun a => w2 ρ1 fun d2 ρ2 => asI d2 fun b => smallI a ∧ smallI b ∧ b - a ≤ szMax ∧ R (.fz (.tuple (rangeL a (b - a).toNat))) ρ2
theorem rfs_range {K : PySem.W.Frag} {B : Hp} (a : Int) : ∀ (l : List Nat), RFs K B (l.map fun i => V.int (a + (i : Nat))) (l.map fun i => PyData.int (a + (i : Nat)))
  | [] => .nil
  | i :: l => .cons (.int _) (rfs_range a l)
theorem rfs_rg {K : PySem.W.Frag} {B : Hp} (a b : Int) : RFs K B (rgV a b) (rangeL a (b - a).toNat) := rfs_range a _
section
variable {X : Cx} {Z : Ent} {a b : Expr} {p p2 pos pos2 : Pos} {w w2 : WE}
theorem rgOk {a b : Int} (h1 : -1000000000 ≤ a) (h2 : a ≤ 1000000000) (h3 : -1000000000 ≤ b) (h4 : b ≤ 1000000000) (h5 : b - a ≤ szMax) : RgOk a b := by
  unfold szMax at h5
  refine ⟨by omega, by omega, by omega, by omega, by omega⟩
theorem e_listRg1 (hc : X.calm = true) (hg : Gl X "list") (hm : X.mg "list" = none) (hg2 : Gl X "range") (hm2 : X.mg "range" = none) (ha : PE X a (tE X.K Z w)) (n1 : starEach [a] X.env = (false, eval a X.env) :: starEach [] X.env := by rfl) (n2 : starEach [.Call (.Name "range" p2) [a] [] pos2] X.env = (false, eval (.Call (.Name "range" p2) [a] [] pos2) X.env) :: starEach [] X.env := by rfl) :
    PE X (.Call (.Name "list" p) [.Call (.Name "range" p2) [a] [] pos2] [] pos) (tE X.K Z (wLR1 w)) := pe_to (pe_listRg hc hg hm (prg_1 hg2 hm2 ha n1) n2) fun σ H Q q => by
  obtain ⟨B, ρ, fp, R, k, h, q⟩ := q
  refine ⟨B, ρ, fp, _, k, h, fun d ρ1 h1 v H1 B1 fp1 n k1 => ?_⟩
  obtain ⟨i, rfl, h2, h3, h4⟩ := asI_iff h1
  have r := k1.headF
  obtain ⟨f2, k2, hs⟩ := k1.drop1
  cases r
  refine ⟨i, rfl, rgOk (by decide) (by decide) h3 (by unfold szMax at h2; omega) (by omega), fun q0 hq => ?_⟩
  obtain ⟨g, k3, n3⟩ := (Out.lst (rfs_rg 0 i) k2.sub hq).ok k2
  rw [Int.sub_zero] at k3
  exact q _ ρ1 h4 _ _ _ _ ((n.less hs).trans n3) k3
end
end Pt
namespace Pt
open PySem PySem.Spec L2
open PyProof.Rows (IsTup)
open Builtin
theorem turned (xs : Array Value) : ((List.range xs.size).filterMap fun (m : Nat) => xs[(((xs.size : Int) - 1) + (m : Int) * (-1)).toNat]?).toArray = xs.toList.reverse.toArray := by
  congr 1
  apply List.ext_getElem?
  intro i
  have e : (List.range xs.size).filterMap (fun (m : Nat) => xs[(((xs.size : Int) - 1) + (m : Int) * (-1)).toNat]?) = (List.range xs.size).filterMap (fun (m : Nat) => xs.toList.reverse[m]?) := by
    have cg : ∀ (l : List Nat) (f g : Nat → Option Value), (∀ m ∈ l, f m = g m) → l.filterMap f = l.filterMap g := fun l f g h => by
      induction l with
      | nil => rfl
      | cons a l ih => rw [List.filterMap_cons, List.filterMap_cons, h a (List.mem_cons_self ..), ih fun m hm => h m (List.mem_cons_of_mem _ hm)]
    refine cg _ _ _ fun m hm => ?_
    have hm' := List.mem_range.mp hm
    rw [List.getElem?_reverse (by rw [Array.length_toList]; exact hm'), Array.length_toList, Array.getElem?_toList]
    congr 1
    omega
  rw [e]
  have e2 : ∀ (l : List Value), (List.range l.length).filterMap (fun m => l[m]?) = l := fun l => by
    induction l with
    | nil => rfl
    | cons a l ih =>
      rw [List.length_cons, List.range_succ_eq_map, List.filterMap_cons, List.filterMap_map]
      show (a :: List.filterMap (fun m => l[m]?) (List.range l.length)) = a :: l
      rw [ih]
  have e3 := e2 xs.toList.reverse
  rw [List.length_reverse, Array.length_toList] at e3
  rw [e3]
theorem slice_back {prog : Program} {w : World} {A : Around} {E : Value → Shared → Prop} {s : Shared} {sl : Addr} {t : Tok} {n : Nat} {Q : Int × Int × Nat → Shared → Prop} (hs : s.heap.IsSliceOf sl .none .none (.int (-1) t)) (h : Q ((n : Int) - 1, -1, n) s) : wpAny (model prog w) A (Builtin.Slice.sliceApplied (.ref sl) (pure (n : Int))) Q E s := by
  obtain ⟨os, hos, hcs, hds⟩ := id hs
  unfold Builtin.Slice.sliceApplied Builtin.Slice.sliceFields
  refine wpAny_bind (wpAny_bind (wpAny_field hos hds (x := .none) rfl (wpAny_bind (wpAny_field hos hds (x := .none) rfl (wpAny_bind (wpAny_field hos hds (x := .int (-1) t) rfl (wpAny_pure ?_)))))))
  refine wpAny_bind (PyProof.Rows.slicePart_int ?_)
  show wpAny _ _ (if ((-1 : Int) == 0) = true then _ else _) _ _ s
  rw [if_neg (by decide)]
  refine wpAny_bind (PyProof.Rows.slicePart_none (wpAny_bind (PyProof.Rows.slicePart_none (wpAny_bind (wpAny_pure ?_)))))
  show wpAny _ _ (pure ((n : Int) - 1, (-1 : Int), Builtin.Slice.slicePlaces ((n : Int) - 1) (-1) (-1))) _ _ s
  have e : Builtin.Slice.slicePlaces ((n : Int) - 1) (-1) (-1) = n := by
    unfold Builtin.Slice.slicePlaces
    rw [if_neg (by decide)]
    split
    · rw [show (-(-1) : Int) = 1 by decide, Int.ediv_one]
      omega
    · omega
  rw [e]
  exact wpAny_pure h
theorem tup_back {prog : Program} {w : World} {A : Around} {E : Value → Shared → Prop} {s : Shared} {t sl : Addr} {items : Array Value} {k : Tok} {Q : Value → Shared → Prop} (ht : IsTup s.heap t items) (hs : s.heap.IsSliceOf sl .none .none (.int (-1) k))
    (h : Q (.ref s.heap.objs.size) { s with heap := s.heap.push { cls := .type "tuple", data := .seq items.toList.reverse.toArray } }) (hsz : items.size ≤ sizeLine) : wpAny (model prog w) A (getItem (.ref t) (.ref sl)) Q E s := by
  have hz : sizeOk (.seq items.toList.reverse.toArray) := by
    show items.toList.reverse.toArray.size ≤ sizeLine
    rw [List.size_toArray, List.length_reverse, Array.length_toList]
    exact hsz
  obtain ⟨os, hos, hcs, hds⟩ := id hs
  have hT : s.TypeIs (.ref sl) "slice" := ⟨os, hos, hcs⟩
  unfold getItem
  refine wpAny_holding ?_
  refine wpAny_bind (wpAny_sequenceKey ht.typeIs (by decide) ?_)
  refine wpAny_bind (wpAny_callSpecial?_slot (name := Str.ofString "__getitem__") ht.typeIs F.slot_tuple_getitem (wpAny_call_entry F.slot_tuple_getitem ht.typeIs F.entry_tuple_getitem ?_ (F.args_tuple_getitem_2 _ _)))
  refine wpAny_bind (m := Builtin.Tuple.tupleItemsOf (.ref t)) (PyProof.Rows.tupleItemsOf_ ht ?_)
  refine wpAny_bind (wpAny_typeOf hT ?_)
  rw [if_pos (by decide)]
  refine wpAny_bind (slice_back hs ?_)
  show wpAny _ _ (if ((items.size : Int) - 1 == 0 && (-1 : Int) == 1 && items.size == items.size) = true then _ else _) _ _ s
  rw [if_neg (by rw [show ((-1 : Int) == 1) = false by decide, Bool.and_false, Bool.false_and]; exact Bool.false_ne_true), turned]
  first
    | exact wpAny_bind (m := Builtin.Tuple.tupleExact _) (wpAny_newObj_type (wpAny_pure ⟨_, rfl, wpAny_pure h⟩) hz)
    | exact wpAny_bind (m := Builtin.Tuple.tupleExact _) (wpAny_newObj_type (wpAny_bind (wpAny_pure (wpAny_pure ⟨_, rfl, wpAny_pure h⟩))) hz)
    | exact wpAny_bind (wpAny_bind (m := Builtin.Tuple.tupleExact _) (wpAny_newObj_type (wpAny_pure (wpAny_pure ⟨_, rfl, wpAny_pure h⟩)) hz))
    | exact wpAny_bind (wpAny_bind (m := Builtin.Tuple.tupleExact _) (wpAny_newObj_type (wpAny_pure ⟨_, rfl, wpAny_pure h⟩) hz))
def rBack (K : PySem.W.Frag) (v : V) (H : Hp) (Q : VK) : Prop := ∃ a xs, v = .ref a ∧ ((SqL K H a xs ∧ ∀ p, H p = none → Q (.ref p) (upd H p (.lst xs.reverse))) ∨ (SqT K H a xs ∧ ∀ p, H p = none → Q (.ref p) (upd H p (.tup xs.reverse))))
theorem pe_back {X : Cx} {e : Expr} {te : TE} {k : Nat} {p1 p2 p3 pos : Pos} (he : PE X e te) : PE X (.Subscript e (.Slice none none (some (.UnaryOp .USub (.Constant (.int 1) k p1) p2)) p3) pos) (fun σ H Q => te σ H fun v H1 => rBack X.K v H1 Q) := by
  refine ⟨fun pins s σ H Q I h => ?_⟩
  refine PyProof.Rows.Subscript_ (thn (he.run pins s σ H _ I h) fun v s1 ⟨x, H1, I1, r1, a, xs, ex, q⟩ => ?_)
  subst ex
  cases r1
  have hst : PO X (some (.UnaryOp .USub (.Constant (.int 1) k p1) p2)) (tPart (tUn (rU fun i => .int (-i)) (tC (.int 1)))) := po_some (pe_un un_neg pe_int)
  refine wpAny_Slice (thn (po_none.run pins s1 σ H1 (fun o H2 => o = none ∧ H2 = H1) I1 ⟨rfl, rfl⟩) fun vl s2 ⟨l, H2, I2, pl, el, e2⟩ => ?_)
  cases el; cases e2; cases pl
  refine thn (po_none.run pins s2 σ H1 (fun o H3 => o = none ∧ H3 = H1) I2 ⟨rfl, rfl⟩) fun vu s3 ⟨u, H3, I3, pu, eu, e3⟩ => ?_
  cases eu; cases e3; cases pu
  refine thn (hst.run pins s3 σ H1 (fun o H4 => o = some (-1) ∧ H4 = H1) I3 ⟨1, rfl, -1, rfl, rfl, rfl⟩) fun vs s4 ⟨o, H4, I4, ps, eo, e4⟩ => ?_
  cases eo; cases e4
  cases ps with
  | int _ tk =>
    have I5 : L2.Inv X pins σ H1 { s4 with heap := s4.heap.push { cls := .type "slice", data := .fields #[.none, .none, .int (-1) tk] } } := I4.kept (t' := s4.toks) fun b ob q => Heap.get?_push_of_some _ q
    show wpAny (model X.prog X.w) X.A (PyProof.Rows.subscriptTail e (.Slice none none (some (.UnaryOp .USub (.Constant (.int 1) k p1) p2)) p3) (.ref a) (.ref s4.heap.objs.size)) (EP X pins σ Q) X.xe _
    rcases q with ⟨hq, q⟩ | ⟨hq, q⟩
    · obtain ⟨its, r, ht, hz⟩ := I5.list hq
      have hlen := r.length
      refine PyProof.Rows.tail_any (ops := [.ref a, .ref s4.heap.objs.size]) ht.isList.typeIs PySem.slot_list_getitem.lookup ?_ (by with_unfolding_all rfl)
      refine wpAny_getItem_list_slice ht.isList (Heap.IsSliceOf.new _ _ _ _) .none .none (.int (-1) tk) (by decide) ?_ (by rw [List.size_toArray]; omega)
      rw [PySem.W.krv_pick]
      exact ⟨.ref _, _, I5.laid (t' := s4.toks) (o := .lst xs.reverse) (fun b ob q => Heap.get?_push_of_some _ q) (Nat.le_refl _) ⟨by rw [List.length_reverse]; exact hz, _, 0, r.reverse, Heap.get?_push_size _ rfl⟩, rfl, q _ (I5.hok.fresh (Nat.le_refl _))⟩
    · obtain ⟨its, r, ht, hz⟩ := I5.tuple hq
      have hlen := r.length
      refine PyProof.Rows.tail_any (ops := [.ref a, .ref s4.heap.objs.size]) ht.typeIs F.slot_tuple_getitem.lookup ?_ (by with_unfolding_all rfl)
      refine tup_back ht (Heap.IsSliceOf.new _ _ _ _) ?_ (by rw [List.size_toArray]; omega)
      exact ⟨.ref _, _, I5.laid (t' := s4.toks) (o := .tup xs.reverse) (fun b ob q => Heap.get?_push_of_some _ q) (Nat.le_refl _) ⟨by rw [List.length_reverse]; exact hz, _, r.reverse, IsTup.new _ _⟩, rfl, q _ (I5.hok.fresh (Nat.le_refl _))⟩
def oBack : List O → (O → Prop) → Prop
  | [x], R => (∃ ds, vL x = some ds ∧ R (.lf ds.reverse)) ∨ (∃ ds, vT x = some ds ∧ R (.fz (.tuple ds.reverse)))
  | _, _ => False
theorem RFs.app {K : PySem.W.Frag} {B : Hp} : ∀ {vs us : List V} {ds es : List PyData}, RFs K B vs ds → RFs K B us es → RFs K B (vs ++ us) (ds ++ es)
  | _, _, _, _, .nil, r => r
  | _, _, _, _, .cons r t, r2 => .cons r (RFs.app t r2)
theorem RFs.rev {K : PySem.W.Frag} {B : Hp} : ∀ {vs : List V} {ds : List PyData}, RFs K B vs ds → RFs K B vs.reverse ds.reverse
  | _, _, .nil => .nil
  | _, _, .cons r t => by
    rw [List.reverse_cons, List.reverse_cons]
    exact (RFs.rev t).app (.cons r .nil)
theorem rd_back {K : PySem.W.Frag} : Rd K (r1L (rBack K)) oBack := fun B H vs xs f R Q s rr h q => by
  unfold oBack at h
  split at h
  · obtain ⟨v, g, rfl, r⟩ := ros1 rr
    rcases h with ⟨ds, h1, h2⟩ | ⟨ds, h1, h2⟩
    · obtain ⟨a, us, rfl, e, t⟩ := r.vL s h1
      exact ⟨a, us, rfl, .inl ⟨SqL.of e, fun p hp => q _ h2 _ B _ (Out.lst t.rev s hp)⟩⟩
    · obtain ⟨a, us, rfl, e, t⟩ := r.vT s h1
      exact ⟨a, us, rfl, .inr ⟨e, fun p hp => q _ h2 _ _ _ (Out.tup t.rev s hp)⟩⟩
  · exact h.elim
theorem e_back {X : Cx} {Z : Ent} {e : Expr} {a1 : AD} {k : Nat} {p1 p2 p3 pos : Pos} (he : PE X e (tAD X.K Z a1)) : PE X (.Subscript e (.Slice none none (some (.UnaryOp .USub (.Constant (.int 1) k p1) p2)) p3) pos) (tE X.K Z (wRd [a1] oBack)) :=
  pe_to (pe_back he) fun σ H Q q => rd_glue (rd_back (K := X.K)) q
end Pt
namespace Pt
open PySem PySem.Spec L2
open PyProof.Rows (IsTup envOfC)
section
variable {X : Cx} {Z : Ent} {tg e : Expr} {w : WE} {pos p tpos : Pos} {elts : List Expr} {kk : Nat}
def iSeq (K : PySem.W.Frag) (te : TE) : TI := fun σ H R => te σ H fun v H1 => ∃ a xs, v = .ref a ∧ ((SqL K H1 a xs ∧ R (Itl K a) H1) ∨ (SqT K H1 a xs ∧ R (Itt K a) H1))
theorem pi_seq {te : TE} (he : PE X e te) : PI X tg e (iSeq X.K te) := ⟨fun pins s σ H R I h => thn (he.run pins s σ H _ I h) fun v s1 ⟨x, H1, I1, r1, a, xs, ex, q⟩ => by
  subst ex; cases r1
  have fp : ∀ b ∈ [s1.heap.objs.size], _ := fun b hb => by
    cases List.mem_singleton.mp hb
    exact I1.fpOk (Nat.le_refl _) (I1.hok.fresh (Nat.le_refl _))
  rcases q with ⟨hq, q⟩ | ⟨hq, q⟩
  · obtain ⟨its, rv, pl, hz⟩ := I1.list hq
    exact wpAny_pyIter_list pl.isList ⟨_, [_], _, _, H1, rfl, I1.kept (t' := s1.toks) fun b o e => Heap.get?_push_of_some _ e, turn_list a _, ⟨_, Heap.get?_push_size _ rfl, rfl, rfl⟩, fp, q⟩
  · obtain ⟨its, rv, pl, hz⟩ := I1.tuple hq
    exact wpAny_pyIter_tuple (show s1.heap.IsTuple a its.toArray from pl) ⟨_, [_], _, _, H1, rfl, I1.kept (t' := s1.toks) fun b o e => Heap.get?_push_of_some _ e, turn_tuple a _, ⟨_, Heap.get?_push_size _ rfl, rfl, rfl⟩, fp, q⟩⟩
def asSf : O → (List PyData → Prop) → Prop
  | .fz (.list ds), k => k ds
  | .fz (.tuple ds), k => k ds
  | _, _ => False
theorem asSf_iff {x : O} {k : List PyData → Prop} (h : asSf x k) : ∃ ds, (x = .fz (.list ds) ∨ x = .fz (.tuple ds)) ∧ k ds := by
  unfold asSf at h
  split at h
  · exact ⟨_, .inl rfl, h⟩
  · exact ⟨_, .inr rfl, h⟩
  · exact h.elim
def wiS (w : WE) : WI := fun ρ R => wFz w ρ fun d ρ1 => asSf d fun ds => R ds ρ1
theorem i_seq (h : PE X e (tE X.K Z w)) : PI X tg e (tI X.K Z (wiS w)) := pi_to (pi_seq (e_fz h)) fun σ H R q => by
  obtain ⟨B, ρ, fp, Rd, k, h, q⟩ := q
  refine ⟨B, ρ, fp, _, k, h, fun d ρ' h1 v H' B' fp' n k1 => ?_⟩
  obtain ⟨ds, e, h2⟩ := asSf_iff h1
  obtain ⟨f2, k2, hs⟩ := k1.drop1
  rcases e with rfl | rfl
  · have r := k1.headF
    cases r with
    | @lst a vs _ hB rr => exact ⟨a, vs, rfl, .inl ⟨SqL.of (k1.sub _ _ hB), q ds ρ' h2 _ H' B' f2 (n.less hs) k2 (ItD.n _ (ItD.list (.inl (.inl hB)) rr))⟩⟩
  · have r := k1.headF
    cases r with
    | @tup a vs _ hB rr => exact ⟨a, vs, rfl, .inr ⟨k1.sub.sqT hB, q ds ρ' h2 _ H' B' f2 (n.less hs) k2 (ItD.n _ (ItD.tup hB rr))⟩⟩
def iEnumS (K : PySem.W.Frag) (ta : TA) : TI := fun σ H R => ta σ H fun vs H1 => ∃ a xs, vs = [.ref a] ∧ ((SqL K H1 a xs ∧ R (Ite K a) H1) ∨ (SqT K H1 a xs ∧ R (ItET K a) H1))
theorem pi_enumS {ta : TA} (hg : Gl X "enumerate") (hm : X.mg "enumerate" = none) (ha : PA X [e] ta) (hs : starEach [e] X.env = [(false, eval e X.env)] := by rfl) : PI X (.Tuple elts kk tpos) (.Call (.Name "enumerate" p) [e] [] pos) (iEnumS X.K ta) := ⟨fun pins s σ H R I h => by
  refine PyProof.Rows.Call_ (ld_blt I hg hm PyProof.Rows.boot_enumerate (PyProof.Rows.callWith_type1 (thn (ha.run pos pins s σ H _ I h) fun us s1 ⟨vs, H1, I1, r1, a, xs, ev, q⟩ => ?_) hs rfl))
  subst ev
  cases r1 with
  | cons r rr =>
    cases rr; cases r
    have fp : ∀ b ∈ [s1.heap.objs.size + 1, s1.heap.objs.size], _ := fun b hb => by
      have hle : s1.heap.objs.size ≤ b := by
        rcases List.mem_cons.mp hb with z | z
        · exact z ▸ Nat.le_succ _
        · exact (List.mem_singleton.mp z) ▸ Nat.le_refl _
      exact I1.fpOk hle (I1.hok.fresh hle)
    rcases q with ⟨hq, q⟩ | ⟨hq, q⟩
    · obtain ⟨its, rv, pl, hz⟩ := I1.list hq
      exact call_enumerate_list pl.isList fun h' he hit hsz hk => wpAny_pyIter_enum he ⟨_, [_, _], _, _, H1, rfl, I1.kept (t' := s1.toks) hk, turn_enum a _ _, ⟨⟨.none, he⟩, hit, Nat.succ_ne_self _⟩, fp, q⟩
    · obtain ⟨its, rv, pl, hz⟩ := I1.tuple hq
      have hal : a < s1.heap.objs.size := pl.lt
      exact enum1_call (begins_tuple a its.toArray) pl fun h' he hit hsz hk => wpAny_pyIter_enum he ⟨_, [_, _], _, _, H1, rfl, I1.kept (t' := s1.toks) hk, turn_enumT a _ _ (Nat.ne_of_lt hal), ⟨⟨.none, he⟩, ⟨_, hit, rfl, rfl⟩, Nat.succ_ne_self _, Nat.ne_of_lt (Nat.lt_succ_of_lt hal)⟩, fp, q⟩⟩
def wiE (w : WE) : WI := fun ρ R => wFz w ρ fun d ρ1 => asSf d fun ds => R (enumL ds) ρ1
theorem i_enum (hg : Gl X "enumerate") (hm : X.mg "enumerate" = none) (ha : PE X e (tE X.K Z w)) (hs : starEach [e] X.env = [(false, eval e X.env)] := by rfl) : PI X (.Tuple elts kk tpos) (.Call (.Name "enumerate" p) [e] [] pos) (tI X.K Z (wiE w)) :=
  pi_to (pi_enumS hg hm (pa_cons (e_fz ha) pa_nil hs) hs) fun σ H R q => by
    obtain ⟨B, ρ, fp, Rd, k, h, q⟩ := q
    refine ⟨B, ρ, fp, _, k, h, fun d ρ' h1 v H' B' fp' n k1 => ?_⟩
    obtain ⟨ds, e, h2⟩ := asSf_iff h1
    obtain ⟨f2, k2, hs⟩ := k1.drop1
    rcases e with rfl | rfl
    · have r := k1.headF
      cases r with
      | @lst a vs _ hB rr => exact ⟨a, vs, rfl, .inl ⟨SqL.of (k1.sub _ _ hB), q _ ρ' h2 _ H' B' f2 (n.less hs) k2 (ItD.n _ (ItD.enumL (.inl (.inl hB)) rr))⟩⟩
    · have r := k1.headF
      cases r with
      | @tup a vs _ hB rr => exact ⟨a, vs, rfl, .inr ⟨k1.sub.sqT hB, q _ ρ' h2 _ H' B' f2 (n.less hs) k2 (ItD.n _ (ItD.enumT hB rr))⟩⟩
end
def gOf (n m : Nat) (s : WS) : WF := fun ds R => ds.length = n ∧ s ⟨fun ρ => R (.fz .none) ρ, R, fun _ => False, fun _ => False, fun _ _ => False⟩ (ds ++ List.replicate (m - n) .hid)
structure Body (P : Program) (w : World) (K : PySem.W.Frag) (mg : Str → Option Value) (base : Heap) (T : List Addr) (N : List Str) (x : Str) (st : Stmt) (f : Addr) (fd : FuncData) (k : Nat) (cdv : Value) (A : Around) (outer : List Env) (s0 : Shared) (H : Hp) (E : XK) (X : Cx) (Z : Ent) : Prop where
  hX : X = cxOf (L2N.CX P w) P w K mg base N x (defScope st) f cdv A outer s0 H E
  hT : Z.T = T
  gd : X.A.guards = some []
  hr : Room k X.A
  hp : PassesOwn (model X.prog X.w) X.A X.env X.xe
  tk : L2N.Takes X Z.W
  hmg : X.mg = Z.mg
  hcd : fd.code = cdv
section
variable {P : Program} {w : World} {K : PySem.W.Frag} {mg : Str → Option Value} {base : Heap} {T : List Addr} {x : Str} {st : Stmt} {f : Addr} {fd : FuncData} {N qs : List Str} {n k : Nat} {ps : List Nat} {s : WS}
theorem fn_ofG {g : WFX} (F : Fun K x x st f fd) (S : FnScope N qs (defScope st)) (hq : qs.length = n) (hn : n ≤ N.length) (hps : ∀ i ∈ ps, i < n)
    (hg : ∀ ds Rx R, ds.length = n → g ds Rx R → ∃ Rx', (∀ x ρ, Rx' x ρ → Rx x ρ) ∧ s ⟨fun ρ => R (.fz .none) ρ, R, fun _ => False, fun _ => False, Rx'⟩ (ds ++ List.replicate (N.length - n) .hid))
    (D : ∀ (X : Cx) (cdv : Value) (A : Around) (outer : List Env) (s0 : Shared) (H : Hp) (E : XK) (Z : Ent), Body P w K mg base T N x st f fd k cdv A outer s0 H E X Z → PSs X (defBody st) (tS X.K Z ps s)) : FnG P w K mg base (L2N.CX P w) (k + 1) f fd qs (spX K T mg n ps g) :=
  FnG.of F S (fun vs H Q E h => by rw [h.1, hq]) fun cdv A outer s0 H vs Q E hcd hgd hr h => by
    obtain ⟨Z, e1, e2, e3, hz⟩ := fn_finX (s := s) hn hps h hg
    exact ⟨_, D _ cdv A outer s0 H E Z ⟨rfl, e3, hgd, hr, passes_of rfl, by rw [e1]; exact L2N.takes_of rfl rfl rfl rfl, e2.symm, hcd⟩, hz⟩
theorem fn_of (F : Fun K x x st f fd) (S : FnScope N qs (defScope st)) (hq : qs.length = n) (hn : n ≤ N.length) (hps : ∀ i ∈ ps, i < n)
    (D : ∀ (X : Cx) (cdv : Value) (A : Around) (outer : List Env) (s0 : Shared) (H : Hp) (E : XK) (Z : Ent), Body P w K mg base T N x st f fd k cdv A outer s0 H E X Z → PSs X (defBody st) (tS X.K Z ps s)) : FnG P w K mg base (L2N.CX P w) (k + 1) f fd qs (spD K T mg n ps (gOf n N.length s)) :=
  fn_ofG F S hq hn hps (fun _ _ _ _ h => ⟨fun _ _ => False, fun _ _ z => z.elim, h.2⟩) D
theorem fg_of (F : Fun K x x st f fd) (hm : mg x = some (.ref f)) (S : FnScope N qs (defScope st)) (hb : Binds K fd qs []) (hq : qs.length = n) (hn : n ≤ N.length) (hps : ∀ i ∈ ps, i < n)
    (D : ∀ (X : Cx) (cdv : Value) (A : Around) (outer : List Env) (s0 : Shared) (H : Hp) (E : XK) (Z : Ent), Body P w K mg base T N x st f fd k cdv A outer s0 H E X Z → PSs X (defBody st) (tS X.K Z ps s)) : Fg P w K mg base T (k + 1) x n ps (gOf n N.length s) :=
  ⟨f, fd, qs, fn_of F S hq hn hps D, hm, F.kp, hb⟩
end
end Pt
namespace Pt
open PySem PySem.Spec L2
def oAddI := oI2 (fun _ _ => True) fun i j => .int (i + j)
def wDict0 : WE := fun ρ R => R (.df []) ρ
def CPowA (i j : Int) : Prop := 0 ≤ j ∧ (Builtin.Int.intBits i : Int) * j ≤ 2 ^ 27
theorem op_powA {X : Cx} : OpR X (binaryOp .Pow) (rI CPowA fun i j => .int (i ^ j.toNat)) := opI fun _ _ _ _ _ _ _ hc q => PyProof.Rows.pow_int hc.1 hc.2 q
def oPowA := oI2 CPowA fun i j => .int (i ^ j.toNat)
theorem rd_powA {K : PySem.W.Frag} : Rd K (r2L (rI CPowA fun i j => .int (i ^ j.toNat))) oPowA := rd_I2 fun _ _ _ => .int _
end Pt
namespace Pt
open PySem PySem.Spec L2
theorem fn_imp {P : Program} {w : World} {K : PySem.W.Frag} {T : List Addr} {mg mg' : Str → Option Value} {base : Heap} {f : Addr} {fd : FuncData} {qs : List Str} {n k : Nat} {ps : List Nat} {g g' : WF} {CX : CXT} (F : FnG P w K mg' base CX k f fd qs (spD K T mg n ps g)) (h : ∀ ds R, g' ds R → g ds R) : FnG P w K mg' base CX k f fd qs (spD K T mg n ps g') :=
  F.imp fun vs H Q E ⟨h1, B, ds, fp, R, Rx, tb, nt, h2, h3, h4⟩ => ⟨h1, B, ds, fp, R, Rx, tb, nt, h2, h ds R h3, h4⟩
def gLaw : WF := fun ds R => ∃ ns : List Int, ds = [.scr ns] ∧ ns.length ≤ 63 ∧ ∀ ρ, R (.fz (.bool true)) ρ
open Classical in
noncomputable def noTb (H : Hp) : Hp := fun a => if ∃ ps, H a = some (.tbl ps) then none else H a
theorem noTb_sub (H : Hp) : Sub (noTb H) H := fun a o e => by
  unfold noTb at e
  split at e
  · cases e
  · exact e
theorem noTb_nt (H : Hp) : NTB (noTb H) := fun a o e ps z => by
  unfold noTb at e
  split at e
  · cases e
  · rename_i h
    exact h ⟨ps, by rw [e, z]⟩
theorem noTb_sqL {K : PySem.W.Frag} {H : Hp} {a : Addr} {vs : List V} (h : SqL K H a vs) : SqL K (noTb H) a vs := by
  have k : ∀ o, H a = some o → NT o → noTb H a = some o := fun o e n => by
    unfold noTb
    rw [if_neg]
    · exact e
    · rintro ⟨ps, z⟩
      rw [e] at z; cases z; exact n ps rfl
  rcases h with (x | ⟨o, x⟩) | x
  · exact .inl (.inl (k _ x pl_lst.1))
  · exact .inl (.inr ⟨o, k _ x pl_frz.1⟩)
  · exact .inr x
theorem law_sp {K : PySem.W.Frag} {T : List Addr} {mg : Str → Option Value} {H : Hp} {a : Addr} {ns : List Int} {ps : List Nat} {E : XK} (hl : ns.length ≤ 63) (hT : ∀ P ∈ T, H P = some (.tbl #[])) (h : SqL K H a (ns.map V.int)) : spD K T mg 1 ps gLaw [.ref a] H (fun v _ => v = .bl true) E := by
  refine ⟨rfl, noTb H, [.scr ns], [], fun d _ => d = .fz (.bool true), fun _ _ => False, fun P hP => LamX.TabS.nil (hT P hP), noTb_nt H, ⟨noTb_sub H, fun i e => ?_, .cons (f1 := []) (.scr (noTb_sqL h)) .nil, List.nodup_nil, fun a ha => (List.not_mem_nil ha).elim, ?_⟩, ⟨ns, rfl, hl, fun _ => rfl⟩, fun d ρ hd v H' B' fp' n k => ?_, fun _ _ z => z.elim⟩
  · cases i with
    | zero => cases e
    | succ i => cases e
  · exact Nxt.refl _ _ _
  · subst hd
    have r := k.headF
    cases r
    rfl
theorem law_cx {P : Program} {w : World} {H : Hp} {s : Shared} {e : Value} {s' : Shared} (h : L2N.CX P w [] H s (fun _ _ _ => False) e s') : False := by
  obtain ⟨a, B, H', cls, d, _, _, _, _, _, _, _, h⟩ := h
  exact h
def oEqA (neg : Bool) : List O → (O → Prop) → Prop
  | [.fz (.str a), .fz (.str b)], R => R (.fz (.bool (if neg then !decide (a = b) else decide (a = b))))
  | xs, R => oEq neg xs R
theorem op_eqA {X : Cx} (hu : X.A.units + 64 < cLine) : OpR X (compareOp .Eq) (fun x y H Q => rEq x y H Q ∨ rEqD X.K x y H Q) := OpR.or op_eq (op_eqD hu)
theorem op_neA {X : Cx} (hu : X.A.units + 64 < cLine) : OpR X (compareOp .NotEq) (fun x y H Q => rNe x y H Q ∨ rNeD X.K x y H Q) := OpR.or op_ne (op_neD hu)
theorem dec_str {a b : Str} : decide (V.str a = V.str b) = decide (a = b) := by
  by_cases h : a = b
  · rw [h]
    simp
  · rw [decide_eq_false h]
    exact decide_eq_false fun z => h (V.str.inj z)
theorem rd_eqA {K : PySem.W.Frag} : Rd K (r2L fun x y H Q => rEq x y H Q ∨ rEqD K x y H Q) (oEqA false) := fun B H vs xs f R Q s rr h q => by
  have gen : oEq false xs R → r2L (fun x y H Q => rEq x y H Q ∨ rEqD K x y H Q) vs H Q := fun h => by
    have z := rd_eq B H vs xs f R Q s rr h q
    cases vs with
    | nil => exact z
    | cons a vs =>
      cases vs with
      | nil => exact z
      | cons b vs =>
        cases vs with
        | nil => exact .inr z
        | cons _ _ => exact z
  unfold oEqA at h
  split at h
  · obtain ⟨v, w, _, _, rfl, r1, r2⟩ := ros2 rr
    cases r1 with
    | fz r1 =>
      cases r1
      cases r2 with
      | fz r2 =>
        cases r2
        refine .inl ⟨rfl, ?_⟩
        rw [dec_str]
        exact q _ h _ B H (Out.here (.bl _) s)
  · exact gen h
theorem rd_neA {K : PySem.W.Frag} : Rd K (r2L fun x y H Q => rNe x y H Q ∨ rNeD K x y H Q) (oEqA true) := fun B H vs xs f R Q s rr h q => by
  have gen : oEq true xs R → r2L (fun x y H Q => rNe x y H Q ∨ rNeD K x y H Q) vs H Q := fun h => by
    have z := rd_ne B H vs xs f R Q s rr h q
    cases vs with
    | nil => exact z
    | cons a vs =>
      cases vs with
      | nil => exact z
      | cons b vs =>
        cases vs with
        | nil => exact .inr z
        | cons _ _ => exact z
  unfold oEqA at h
  split at h
  · obtain ⟨v, w, _, _, rfl, r1, r2⟩ := ros2 rr
    cases r1 with
    | fz r1 =>
      cases r1
      cases r2 with
      | fz r2 =>
        cases r2
        refine .inl ⟨rfl, ?_⟩
        rw [dec_str]
        exact q _ h _ B H (Out.here (.bl _) s)
  · exact gen h
end Pt
namespace Pt
open PySem PySem.Spec L2
@[simp] theorem unf_map : ∀ ds : List PyData, unf (ds.map O.fz) = some ds
  | [] => rfl
  | d :: ds => by
    show (unf (ds.map O.fz)).map (d :: ·) = _
    rw [unf_map ds]
    rfl
section
variable {ρ : En} {R : O → En → Prop} {T : Bool → En → Prop} {E : DE} {w w2 w3 : WE} {wt wt2 : WT} {s s2 : WS} {i j : Nat} {as : List AD} {op op2 : List O → (O → Prop) → Prop} {g : WF} {f d : PyData} {k : O → Prop} {own : List Nat} {gg : WG} {wi : WI}
@[simp] theorem nth_zero {x : O} {r : En} : nth (x :: r) 0 = x := rfl
@[simp] theorem nth_succ {x : O} {r : En} : nth (x :: r) (i + 1) = nth r i := rfl
@[simp] theorem x_wC : wC f ρ R = R (.fz f) ρ := rfl
@[simp] theorem x_wV : wV i ρ R = asF (nth ρ i) fun f => R (.fz f) ρ := rfl
@[simp] theorem x_wM : wM i ρ R = notHid (nth ρ i) (R (nth ρ i) (ρ.set i .hid)) := rfl
@[simp] theorem x_asF {k : PyData → Prop} : asF (.fz f) k = k f := rfl
@[simp] theorem x_asI {a : Int} {k : Int → Prop} : asI (.fz (.int a)) k = k a := rfl
@[simp] theorem x_asB {b : Bool} {k : Bool → Prop} : asB (.fz (.bool b)) k = k b := rfl
@[simp] theorem x_nh1 {p : Prop} : notHid (.fz f) p = p := rfl
@[simp] theorem x_nh2 {p : Prop} {ds : List PyData} : notHid (.lf ds) p = p := rfl
@[simp] theorem x_nh3 {p : Prop} {ds : List O} : notHid (.ol ds) p = p := rfl
@[simp] theorem x_nh4 {p : Prop} {ns : List Int} : notHid (.scr ns) p = p := rfl
@[simp] theorem x_nh5 {p : Prop} {ds : List (Key × PyData)} : notHid (.df ds) p = p := rfl
@[simp] theorem x_wRd : wRd as op ρ R = wADs as ρ fun ds ρ1 => op (fillA as ds ρ1) fun z => R z ρ1 := rfl
@[simp] theorem x_ads0 {R : List (Option O) → En → Prop} : wADs [] ρ R = R [] ρ := rfl
@[simp] theorem x_ads1 {R : List (Option O) → En → Prop} : wADs (.ex w :: as) ρ R = w ρ fun d ρ1 => wADs as ρ1 fun ds ρ2 => R (some d :: ds) ρ2 := rfl
@[simp] theorem x_ads2 {R : List (Option O) → En → Prop} : wADs (.nm i :: as) ρ R = notHid (nth ρ i) (wADs as ρ fun ds ρ2 => R (none :: ds) ρ2) := rfl
@[simp] theorem x_fill0 {ds : List (Option O)} : fillA [] ds ρ = [] := rfl
@[simp] theorem x_fill1 {ds : List (Option O)} {x : O} : fillA (.ex w :: as) (some x :: ds) ρ = x :: fillA as ds ρ := rfl
@[simp] theorem x_fill2 {ds : List (Option O)} {x : Option O} : fillA (.nm i :: as) (x :: ds) ρ = nth ρ i :: fillA as ds ρ := rfl
@[simp] theorem x_wTb : wTb w ρ T = w ρ fun d ρ1 => asB d fun b => T b ρ1 := rfl
@[simp] theorem x_wTnot : wTnot wt ρ T = wt ρ fun b ρ1 => T (!b) ρ1 := rfl
@[simp] theorem x_wTand : wTand wt wt2 ρ T = wt ρ fun b ρ1 => br b (wt2 ρ1 T) (T false ρ1) := rfl
@[simp] theorem x_wTor : wTor wt wt2 ρ T = wt ρ fun b ρ1 => br b (T true ρ1) (wt2 ρ1 T) := rfl
@[simp] theorem x_wAndV : wAndV w w2 ρ R = w ρ fun d ρ1 => asB d fun b => br b (w2 ρ1 R) (R (.fz (.bool false)) ρ1) := rfl
@[simp] theorem x_wOrV : wOrV w w2 ρ R = w ρ fun d ρ1 => asB d fun b => br b (R (.fz (.bool true)) ρ1) (w2 ρ1 R) := rfl
@[simp] theorem x_wNotV : wNotV w ρ R = w ρ fun d ρ1 => asB d fun b => R (.fz (.bool (!b))) ρ1 := rfl
@[simp] theorem x_wIf : wIf wt w w2 ρ R = wt ρ fun b ρ1 => br b (w ρ1 R) (w2 ρ1 R) := rfl
@[simp] theorem x_brT {P Q : Prop} : br true P Q = P := rfl
@[simp] theorem x_brF {P Q : Prop} : br false P Q = Q := rfl
@[simp] theorem x_wFz : wFz w ρ R = w ρ fun d ρ1 => ∃ f, frO d = some f ∧ R (.fz f) ρ1 := rfl
@[simp] theorem x_wLf : wLf w ρ R = w ρ fun d ρ1 => toLf d fun d' => R d' ρ1 := rfl
@[simp] theorem x_toLf {ds : List PyData} : toLf (.lf ds) k = k (.lf ds) := rfl
@[simp] theorem x_frO1 : frO (.fz f) = some f := rfl
@[simp] theorem x_frO2 {ds : List PyData} : frO (.lf ds) = some (.list ds) := rfl
@[simp] theorem x_frO3 {ds : List (Key × PyData)} : frO (.df ds) = some (.dict (ds.map fun p => (kD p.1, p.2))) := rfl
@[simp] theorem x_wCh {w1 : WE} : wCh w1 w2 w3 op op2 ρ R = w1 ρ fun d1 ρ1 => asF d1 fun f1 => w2 ρ1 fun d2 ρ2 => asF d2 fun f2 => op [.fz f1, .fz f2] fun z => asB z fun k => br k (w3 ρ2 fun d3 ρ3 => asF d3 fun f3 => op2 [.fz f2, .fz f3] fun z2 => R z2 ρ3) (R (.fz (.bool false)) ρ2) := rfl
@[simp] theorem x_sNext : sNext E ρ = E.nx ρ := rfl
@[simp] theorem x_sSeq : sSeq s s2 E ρ = s { E with nx := s2 E } ρ := rfl
@[simp] theorem x_sBreak : sBreak E ρ = E.bk ρ := rfl
@[simp] theorem x_sCont : sCont E ρ = E.ct ρ := rfl
@[simp] theorem x_sNever : sNever E ρ = False := rfl
@[simp] theorem x_sDrop : sDrop w E ρ = w ρ fun _ ρ1 => E.nx ρ1 := rfl
@[simp] theorem x_sRet : sRet w E ρ = w ρ fun d ρ1 => E.rt d ρ1 := rfl
@[simp] theorem x_sRetN : sRetN E ρ = E.rt (.fz .none) ρ := rfl
@[simp] theorem x_sIf : sIf wt s s2 E ρ = wt ρ fun b ρ1 => br b (s E ρ1) (s2 E ρ1) := rfl
@[simp] theorem x_sStore : sStore i w E ρ = w ρ fun d ρ1 => E.nx (ρ1.set i d) := rfl
@[simp] theorem x_sGf : sGf i s E ρ = ∃ f, frO (nth ρ i) = some f ∧ s E (ρ.set i (.fz f)) := rfl
@[simp] theorem x_sAsg : sAsg gg w E ρ = w ρ fun d ρ1 => gg d ρ1 E.nx := rfl
@[simp] theorem x_gN {d : O} {R : En → Prop} : gN i d ρ R = R (ρ.set i d) := rfl
@[simp] theorem x_gsN {ds : List O} {R : En → Prop} : gsN ds ρ R = (ds = [] ∧ R ρ) := rfl
@[simp] theorem x_gsC {gs : List O → En → (En → Prop) → Prop} {d : O} {ds : List O} {R : En → Prop} : gsC gg gs (d :: ds) ρ R = gg d ρ fun ρ' => gs ds ρ' R := rfl
@[simp] theorem x_gT {n : Nat} {gs : List O → En → (En → Prop) → Prop} {d : O} {R : En → Prop} : gT n gs d ρ R = asT d fun xs => xs.length = n ∧ gs xs ρ R := rfl
@[simp] theorem x_asT {ds : List PyData} {k : List O → Prop} : asT (.fz (.tuple ds)) k = k (ds.map O.fz) := rfl
@[simp] theorem x_sFor : sFor wi gg s E ρ = wi ρ fun items ρ1 => forN gg s E items ρ1 := rfl
@[simp] theorem x_wCall : wCall as g ρ R = wADs as ρ fun ds ρ1 => callA as ds ρ1 fun xs ρ2 => g xs fun d ρf => R d (backA as ρf ρ2) := rfl
@[simp] theorem x_callA0 {k : List O → En → Prop} {ds : List (Option O)} : callA [] ds ρ k = k [] ρ := by cases ds <;> rfl
@[simp] theorem x_callA1 {k : List O → En → Prop} {ds : List (Option O)} {x : O} : callA (.ex w :: as) (some x :: ds) ρ k = callA as ds ρ fun xs ρ' => k (x :: xs) ρ' := rfl
@[simp] theorem x_callA2 {k : List O → En → Prop} {ds : List (Option O)} {x : Option O} : callA (.nm i :: as) (x :: ds) ρ k = notHid (nth ρ i) (callA as ds (ρ.set i .hid) fun xs ρ' => k (nth ρ i :: xs) ρ') := rfl
@[simp] theorem x_back0 {xs : List O} : backA [] xs ρ = ρ := by cases xs <;> rfl
@[simp] theorem x_back1 {xs : List O} : backA (.ex w :: as) xs ρ = backA as xs.tail ρ := rfl
@[simp] theorem x_back2 {xs : List O} : backA (.nm i :: as) xs ρ = backA as xs.tail (ρ.set i (hd0 xs)) := rfl
@[simp] theorem x_hd0 {x : O} {xs : List O} : hd0 (x :: xs) = x := rfl
@[simp] theorem x_wMu {ws : List WE} {lm : O → List O → (O → O → Prop) → Prop} : wMu "list" i ws lm ρ R = (isLst (nth ρ i) = true ∧ wADs (exs ws) ρ fun ds ρ1 => (isLst (nth ρ1 i) || isDct (nth ρ1 i)) = true ∧ lm (nth ρ1 i) (fillA (exs ws) ds ρ1) fun x' z => R z (ρ1.set i x')) := rfl
@[simp] theorem x_exs0 : exs [] = [] := rfl
@[simp] theorem x_exs1 {ws : List WE} : exs (w :: ws) = .ex w :: exs ws := rfl
@[simp] theorem x_isLst1 {ds : List PyData} : isLst (.lf ds) = true := rfl
@[simp] theorem x_isLst2 {ds : List O} : isLst (.ol ds) = true := rfl
@[simp] theorem x_lmA1 {ds : List PyData} {R : O → O → Prop} : lmAppend (.lf ds) [.fz f] R = (ds.length < szMax ∧ R (.lf (ds ++ [f])) (.fz .none)) := rfl
@[simp] theorem x_lmA2 {ds : List O} {d : O} {R : O → O → Prop} : lmAppend (.ol ds) [d] R = (ds.length < szMax ∧ R (.ol (ds ++ [d])) (.fz .none)) := rfl
@[simp] theorem x_lmC1 {ds : List PyData} {R : O → O → Prop} : lmClear (.lf ds) [] R = R (.lf []) (.fz .none) := rfl
@[simp] theorem x_lmC2 {ds : List O} {R : O → O → Prop} : lmClear (.ol ds) [] R = R (.lf []) (.fz .none) := rfl
@[simp] theorem x_lmPA {ds : List PyData} {a : Int} {R : O → O → Prop} : lmPopAt (.lf ds) [.fz (.int a)] R = ∃ f, 0 ≤ a ∧ a < 1000000000 ∧ ds[a.toNat]? = some f ∧ R (.lf (ds.eraseIdx a.toNat)) (.fz f) := rfl
@[simp] theorem x_lmP {ds : List PyData} {R : O → O → Prop} : lmPop (.lf ds) [] R = ∃ f, ds[ds.length - 1]? = some f ∧ R (.lf ds.dropLast) (.fz f) := rfl
@[simp] theorem x_sSetI {we wk : WE} : sSetI i we wk = sDrop (wMu "list" i [we, wk] lmSet) := rfl
@[simp] theorem x_lmS {ds : List PyData} {a : Int} {R : O → O → Prop} : lmSet (.lf ds) [.fz f, .fz (.int a)] R = ∃ j, ixN ds.length a = some j ∧ R (.lf (ds.set j f)) (.fz .none) := rfl
@[simp] theorem x_sAugI {wk we : WE} {od : List O → (O → Prop) → Prop} : sAugI i wk we od E ρ = (isLst (nth ρ i) = true ∧ wk ρ fun kd ρ1 => asI kd fun k => 0 ≤ k ∧ k < 1000000000 ∧ isLst (nth ρ1 i) = true ∧ ∃ f, itemO (nth ρ1 i) k = some f ∧ we ρ1 fun d ρ2 => isLst (nth ρ2 i) = true ∧ od [.fz f, d] fun z => asF z fun g => lmSet (nth ρ2 i) [.fz g, .fz (.int k)] fun x' _ => E.nx (ρ2.set i x')) := rfl
@[simp] theorem x_sAug {od : List O → (O → Prop) → Prop} : sAug i w od E ρ = notHid (nth ρ i) (w ρ fun d ρ1 => notHid (nth ρ1 i) (od [nth ρ1 i, d] fun z => E.nx (ρ1.set i z))) := rfl
@[simp] theorem x_sPar {is : List Nat} {ws : List WE} : sPar is ws E ρ = wADs (ws.map .ex) ρ fun ds ρ1 => E.nx (parE is ds ρ1) := rfl
@[simp] theorem x_parE0 {ds : List (Option O)} : parE [] ds ρ = ρ := by cases ds <;> rfl
@[simp] theorem x_parE1 {ds : List (Option O)} {is : List Nat} {x : O} : parE (i :: is) (some x :: ds) ρ = parE is ds (ρ.set i x) := rfl
@[simp] theorem x_oI2 {C : Int → Int → Prop} {h : Int → Int → PyData} {a b : Int} : oI2 C h [.fz (.int a), .fz (.int b)] k = (C a b ∧ k (.fz (h a b))) := rfl
@[simp] theorem x_oSub {a b : Int} : oSub [.fz (.int a), .fz (.int b)] k = k (.fz (.int (a - b))) := propext ⟨fun h => h.2, fun h => ⟨trivial, h⟩⟩
@[simp] theorem x_oDiv {a b : Int} : oDiv [.fz (.int a), .fz (.int b)] k = (CDivW a b ∧ k (.fz (.int (a / b)))) := rfl
@[simp] theorem x_oMod {a b : Int} : oMod [.fz (.int a), .fz (.int b)] k = (0 < b ∧ k (.fz (.int (a % b)))) := rfl
@[simp] theorem x_oPowA {a b : Int} : oPowA [.fz (.int a), .fz (.int b)] k = (CPowA a b ∧ k (.fz (.int (a ^ b.toNat)))) := rfl
@[simp] theorem x_oMulI {a b : Int} : oMul [.fz (.int a), .fz (.int b)] k = (CMulW a b ∧ k (.fz (.int (a * b)))) := rfl
@[simp] theorem x_oLt {a b : Int} : oLt [.fz (.int a), .fz (.int b)] k = k (.fz (.bool (decide (a < b)))) := propext ⟨fun h => h.2, fun h => ⟨trivial, h⟩⟩
@[simp] theorem x_oLe {a b : Int} : oLe [.fz (.int a), .fz (.int b)] k = k (.fz (.bool (decide (a ≤ b)))) := propext ⟨fun h => h.2, fun h => ⟨trivial, h⟩⟩
@[simp] theorem x_oGt {a b : Int} : oGt [.fz (.int a), .fz (.int b)] k = k (.fz (.bool (decide (b < a)))) := propext ⟨fun h => h.2, fun h => ⟨trivial, h⟩⟩
@[simp] theorem x_oGe {a b : Int} : oGe [.fz (.int a), .fz (.int b)] k = k (.fz (.bool (decide (b ≤ a)))) := propext ⟨fun h => h.2, fun h => ⟨trivial, h⟩⟩
@[simp] theorem x_oAddI {a b : Int} : oAddI [.fz (.int a), .fz (.int b)] k = k (.fz (.int (a + b))) := propext ⟨fun h => h.2, fun h => ⟨trivial, h⟩⟩
@[simp] theorem x_oNeg {a : Int} : oNeg [.fz (.int a)] k = k (.fz (.int (-a))) := rfl
@[simp] theorem x_oAdd1 {a b : Int} : oAdd [.fz (.int a), .fz (.int b)] k = k (.fz (.int (a + b))) := rfl
@[simp] theorem x_oAdd2 {a b : Str} : oAdd [.fz (.str a), .fz (.str b)] k = (a.length + b.length ≤ szMax ∧ k (.fz (.str (a ++ b)))) := rfl
@[simp] theorem x_vL1 {ds : List PyData} : vL (.lf ds) = some ds := rfl
@[simp] theorem x_vL2 {ds : List PyData} : vL (.fz (.list ds)) = some ds := rfl
@[simp] theorem x_vL3 {ds : List PyData} : vL (.fz (.tuple ds)) = none := rfl
@[simp] theorem x_vL4 {ds : List PyData} : vL (.ol (ds.map O.fz)) = some ds := unf_map ds
@[simp] theorem x_vT1 {ds : List PyData} : vT (.fz (.tuple ds)) = some ds := rfl
@[simp] theorem x_vT2 {ds : List PyData} : vT (.fz (.list ds)) = none := rfl
@[simp] theorem x_vT3 {ds : List PyData} : vT (.lf ds) = none := rfl
@[simp] theorem x_unf0 : unf [] = some [] := rfl
@[simp] theorem x_unf1 {xs : List O} : unf (.fz f :: xs) = (unf xs).map (f :: ·) := rfl
@[simp] theorem x_oLst {xs : List O} : oLst xs k = ∃ ds, unf xs = some ds ∧ ds.length ≤ szMax ∧ k (.lf ds) := rfl
@[simp] theorem x_oTup {xs : List O} : oTup xs k = ∃ ds, unf xs = some ds ∧ ds.length ≤ szMax ∧ k (.fz (.tuple ds)) := rfl
@[simp] theorem x_oAdd3 {ds es : List PyData} : oAdd [.lf ds, .lf es] k = (ds.length + es.length ≤ szMax ∧ k (.lf (ds ++ es))) := by simp [oAdd]
@[simp] theorem x_oAdd4 {ds es : List PyData} : oAdd [.lf ds, .fz (.list es)] k = (ds.length + es.length ≤ szMax ∧ k (.lf (ds ++ es))) := by simp [oAdd]
@[simp] theorem x_oAdd5 {ds es : List PyData} : oAdd [.fz (.list ds), .lf es] k = (ds.length + es.length ≤ szMax ∧ k (.lf (ds ++ es))) := by simp [oAdd]
@[simp] theorem x_oAdd6 {ds es : List PyData} : oAdd [.fz (.list ds), .fz (.list es)] k = (ds.length + es.length ≤ szMax ∧ k (.lf (ds ++ es))) := by simp [oAdd]
@[simp] theorem x_oAdd7 {ds es : List PyData} : oAdd [.fz (.tuple ds), .fz (.tuple es)] k = (ds.length + es.length ≤ szMax ∧ k (.fz (.tuple (ds ++ es)))) := by simp [oAdd]
@[simp] theorem x_oMulA1 {a b : Int} : oMulA [.fz (.int a), .fz (.int b)] k = (CMulW a b ∧ k (.fz (.int (a * b)))) := rfl
@[simp] theorem x_oMulA2 {ds : List PyData} {a : Int} : oMulA [.lf ds, .fz (.int a)] k = (a ≤ 1000000 ∧ -1000000 ≤ a ∧ ds.length * a.toNat ≤ szMax ∧ k (.lf (List.replicate a.toNat ds).flatten)) := by simp [oMulA]
@[simp] theorem x_toP1 : toP (.fz f) = f := rfl
@[simp] theorem x_toP2 {ds : List PyData} : toP (.lf ds) = .list ds := rfl
@[simp] theorem x_oEqI {a b : Int} {neg : Bool} : oEqA neg [.fz (.int a), .fz (.int b)] k = k (.fz (.bool (if neg then !decide (a = b) else decide (a = b)))) := propext ⟨fun h => h.2.2, fun h => ⟨rfl, rfl, h⟩⟩
@[simp] theorem x_oEqS {a b : Str} {neg : Bool} : oEqA neg [.fz (.str a), .fz (.str b)] k = k (.fz (.bool (if neg then !decide (a = b) else decide (a = b)))) := rfl
theorem x_oEqG {x y : O} {neg : Bool} (h1 : SeqAt.shaped (toP x) = true) (h2 : SeqAt.shaped (toP y) = true) (h : k (.fz (.bool (if neg then !PyData.eqv (toP x) (toP y) else PyData.eqv (toP x) (toP y))))) : oEqA neg [x, y] k := by
  unfold oEqA
  split
  · rename_i a b e
    simp only [List.cons.injEq, and_true] at e
    obtain ⟨rfl, rfl⟩ := e
    have z : PyData.eqv (.str a) (.str b) = decide (a = b) := by
      rw [Bool.eq_iff_iff]
      simp [PyData.eqv]
    simp only [x_toP1, z] at h
    exact h
  · exact ⟨h1, h2, h⟩
@[simp] theorem x_isN {neg : Bool} : oIsN neg [.fz f, .fz .none] k = k (.fz (.bool (if neg then !isNoneO (.fz f) else isNoneO (.fz f)))) := rfl
@[simp] theorem x_isNo1 : isNoneO (.fz .none) = true := rfl
@[simp] theorem x_isNo2 {a : Int} : isNoneO (.fz (.int a)) = false := rfl
@[simp] theorem x_isNo3 {ds : List PyData} : isNoneO (.fz (.tuple ds)) = false := rfl
@[simp] theorem x_isNo4 {ds : List PyData} : isNoneO (.fz (.list ds)) = false := rfl
@[simp] theorem x_len1 {ds : List PyData} : oLen [.fz (.list ds)] k = k (.fz (.int ds.length)) := by simp [oLen, lenO]
@[simp] theorem x_len2 {ds : List PyData} : oLen [.fz (.tuple ds)] k = k (.fz (.int ds.length)) := by simp [oLen, lenO]
@[simp] theorem x_len3 {ds : List PyData} : oLen [.lf ds] k = k (.fz (.int ds.length)) := by simp [oLen, lenO]
@[simp] theorem x_len4 {ns : List Int} : oLen [.scr ns] k = k (.fz (.int ns.length)) := by simp [oLen, lenO]
@[simp] theorem x_ix1 {ds : List PyData} {a : Int} : oIx [.fz (.list ds), .fz (.int a)] k = ∃ d, atI ds a = some d ∧ k (.fz d) := by simp [oIx, itemO, seqO]
@[simp] theorem x_ix2 {ds : List PyData} {a : Int} : oIx [.fz (.tuple ds), .fz (.int a)] k = ∃ d, atI ds a = some d ∧ k (.fz d) := by simp [oIx, itemO, seqO]
@[simp] theorem x_ix3 {ds : List PyData} {a : Int} : oIx [.lf ds, .fz (.int a)] k = ∃ d, atI ds a = some d ∧ k (.fz d) := by simp [oIx, itemO, seqO]
@[simp] theorem x_ix4 {ns : List Int} {a : Int} : oIx [.scr ns, .fz (.int a)] k = ∃ d, atI (ns.map PyData.int) a = some d ∧ k (.fz d) := by simp [oIx, itemO, seqO]
@[simp] theorem x_item {ds : List PyData} {a : Int} : itemO (.lf ds) a = atI ds a := by simp [itemO, seqO]
@[simp] theorem x_max2 {a b : Int} : oMax2 [.fz (.int a), .fz (.int b)] k = k (.fz (.int (max a b))) := by
  show k (.fz (.int (if b > a then b else a))) = _
  congr 3
  omega
@[simp] theorem x_min2 {a b : Int} : oMin2 [.fz (.int a), .fz (.int b)] k = k (.fz (.int (min a b))) := by
  show k (.fz (.int (if b < a then b else a))) = _
  congr 3
  omega
@[simp] theorem x_list1 {ds : List PyData} : oList [.fz (.tuple ds)] k = k (.lf ds) := by simp [oList]
@[simp] theorem x_list2 {ds : List PyData} : oList [.fz (.list ds)] k = k (.lf ds) := by simp [oList]
@[simp] theorem x_list3 {ds : List PyData} : oList [.lf ds] k = k (.lf ds) := by simp [oList]
@[simp] theorem x_tuple1 {ds : List PyData} : oTuple [.fz (.tuple ds)] k = k (.fz (.tuple ds)) := by simp [oTuple]
@[simp] theorem x_tuple2 {ds : List PyData} : oTuple [.fz (.list ds)] k = k (.fz (.tuple ds)) := by simp [oTuple]
@[simp] theorem x_tuple3 {ds : List PyData} : oTuple [.lf ds] k = k (.fz (.tuple ds)) := by simp [oTuple]
@[simp] theorem x_back_L {ds : List PyData} : oBack [.lf ds] k = k (.lf ds.reverse) := by simp [oBack]
@[simp] theorem x_back_F {ds : List PyData} : oBack [.fz (.list ds)] k = k (.lf ds.reverse) := by simp [oBack]
@[simp] theorem x_back_T {ds : List PyData} : oBack [.fz (.tuple ds)] k = k (.fz (.tuple ds.reverse)) := by simp [oBack]
@[simp] theorem x_sl1 {ds : List PyData} {lo hi : Option Int} : oSl lo hi (.lf ds) k = k (.lf (cutP ds lo hi)) := by simp [oSl]
@[simp] theorem x_sl2 {ds : List PyData} {lo hi : Option Int} : oSl lo hi (.fz (.list ds)) k = k (.lf (cutP ds lo hi)) := by simp [oSl]
@[simp] theorem x_sl3 {ds : List PyData} {lo hi : Option Int} : oSl lo hi (.fz (.tuple ds)) k = k (.fz (.tuple (cutP ds lo hi))) := by simp [oSl]
@[simp] theorem x_sl4 {ns : List Int} {lo hi : Option Int} : oSl lo hi (.scr ns) k = k (.lf ((cutP ns lo hi).map PyData.int)) := rfl
@[simp] theorem x_sl5 {x : Str} {lo hi : Option Int} : oSl lo hi (.fz (.str x)) k = (x.length ≤ szMax ∧ k (.fz (.str (cutS x lo hi)))) := rfl
@[simp] theorem x_pb0 {k : Option Int → En → Prop} : wPB .no ρ k = k none ρ := rfl
@[simp] theorem x_pb1 {k : Option Int → En → Prop} : wPB (.of w) ρ k = w ρ fun d ρ1 => asI d fun i => k (some i) ρ1 := rfl
@[simp] theorem x_wSlE {lo hi : PB} : wSl (.ex w) lo hi ρ R = w ρ fun d ρ1 => wPB lo ρ1 fun l ρ2 => wPB hi ρ2 fun u ρ3 => oSl l u d fun z => R z ρ3 := rfl
@[simp] theorem x_wSlN {lo hi : PB} : wSl (.nm i) lo hi ρ R = notHid (nth ρ i) (wPB lo ρ fun l ρ2 => wPB hi ρ2 fun u ρ3 => oSl l u (nth ρ3 i) fun z => R z ρ3) := rfl
@[simp] theorem x_wiS {R : List PyData → En → Prop} : wiS w ρ R = w ρ fun d ρ1 => ∃ f, frO d = some f ∧ asSf (.fz f) fun ds => R ds ρ1 := rfl
@[simp] theorem x_wiE {R : List PyData → En → Prop} : wiE w ρ R = w ρ fun d ρ1 => ∃ f, frO d = some f ∧ asSf (.fz f) fun ds => R (enumL ds) ρ1 := rfl
@[simp] theorem x_asS1 {ds : List PyData} {k : List PyData → Prop} : asSf (.fz (.list ds)) k = k ds := rfl
@[simp] theorem x_asS2 {ds : List PyData} {k : List PyData → Prop} : asSf (.fz (.tuple ds)) k = k ds := rfl
@[simp] theorem x_wiR1 {R : List PyData → En → Prop} : wiR1 w ρ R = w ρ fun d ρ1 => asI d fun n => smallI n ∧ R (rangeL 0 n.toNat) ρ1 := rfl
@[simp] theorem x_wiR2 {R : List PyData → En → Prop} : wiR2 w w2 ρ R = w ρ fun d ρ1 => asI d fun a => w2 ρ1 fun d2 ρ2 => asI d2 fun b => smallI a ∧ smallI b ∧ R (rangeL a (b - a).toNat) ρ2 := rfl
@[simp] theorem x_wiR3 {R : List PyData → En → Prop} : wiR3 w w2 w3 ρ R = w ρ fun d ρ1 => asI d fun a => w2 ρ1 fun d2 ρ2 => asI d2 fun b => w3 ρ2 fun d3 ρ3 => asI d3 fun c => c = -1 ∧ smallI a ∧ smallI b ∧ R (rangeC a (-1) (a - b).toNat) ρ3 := rfl
@[simp] theorem x_wLc {own : List Nat} : wLc wi gg wt w own ρ R = wi ρ fun items ρ1 => items.length ≤ szMax ∧ lcN gg wt w own (fun out ρ2 => R (.ol out) (wipeO ρ2 own)) items ρ1 [] := rfl
@[simp] theorem x_wYes : wYes ρ T = T true ρ := rfl
@[simp] theorem x_wipe0 : wipeO ρ [] = ρ := rfl
@[simp] theorem x_wipe1 {v : Nat} {vs : List Nat} : wipeO ρ (v :: vs) = (wipeO ρ vs).set v .hid := rfl
@[simp] theorem x_dict0 : wDict0 ρ R = R (.df []) ρ := rfl
@[simp] theorem x_repr : oRepr [.fz f] k = (okP f = true ∧ f.depth ≤ 40 ∧ k (.fz (.str f.shown))) := by simp [oRepr, plainO]
@[simp] theorem x_reprL {ds : List PyData} : oRepr [.lf ds] k = (okP (.list ds) = true ∧ (PyData.list ds).depth ≤ 40 ∧ k (.fz (.str (PyData.list ds).shown))) := by simp [oRepr, plainO]
@[simp] theorem x_isi {T : String} : oIsi T [.fz f] k = ∃ t, tyO (.fz f) = some t ∧ k (.fz (.bool (isSub t T))) := rfl
@[simp] theorem x_in1 {ds : List PyData} {neg : Bool} : oIn neg [.fz d, .fz (.tuple ds)] k = (flatD d = true ∧ ds.all flatD = true ∧ k (.fz (.bool (if neg then !inD d ds else inD d ds)))) := by simp [oIn, vS]
@[simp] theorem x_in2 {ds : List PyData} {neg : Bool} : oIn neg [.fz d, .fz (.list ds)] k = (flatD d = true ∧ ds.all flatD = true ∧ k (.fz (.bool (if neg then !inD d ds else inD d ds)))) := by simp [oIn, vS]
@[simp] theorem x_wTR1 : wTR1 w ρ R = w ρ fun d ρ1 => asI d fun n => n ≤ szMax ∧ -1000000000 ≤ n ∧ R (.fz (.tuple (rangeL 0 n.toNat))) ρ1 := rfl
@[simp] theorem x_wLR1 : wLR1 w ρ R = w ρ fun d ρ1 => asI d fun n => n ≤ szMax ∧ -1000000000 ≤ n ∧ R (.lf (rangeL 0 n.toNat)) ρ1 := rfl
@[simp] theorem x_wTR2 : wTR2 w w2 ρ R = w ρ fun d ρ1 => asI d fun a => w2 ρ1 fun d2 ρ2 => asI d2 fun b => smallI a ∧ smallI b ∧ b - a ≤ szMax ∧ R (.fz (.tuple (rangeL a (b - a).toNat))) ρ2 := rfl
@[simp] theorem x_wLR2 : wLR2 w w2 ρ R = w ρ fun d ρ1 => asI d fun a => w2 ρ1 fun d2 ρ2 => asI d2 fun b => smallI a ∧ smallI b ∧ b - a ≤ szMax ∧ R (.lf (rangeL a (b - a).toNat)) ρ2 := rfl
@[simp] theorem x_wJoin : wJoin w w2 ρ R = w ρ fun d ρ1 => asF d fun f => match f with
  | .str a => w2 ρ1 fun d2 ρ2 => ∃ ds ys, vS d2 = some ds ∧ asStrs ds = some ys ∧ (ys.map (·.length)).sum + ys.length * a.length ≤ szMax ∧ R (.fz (.str (Txt.join a ys))) ρ2
  | _ => False := rfl
@[simp] theorem x_forN0 : forN gg s E [] ρ = E.nx ρ := rfl
end
end Pt
namespace Pt
open PySem PySem.Spec L2
section
variable {g : WG} {s : WS} {E : DE} {wt : WT} {w : WE} {own : List Nat} {k : List O → En → Prop} {R : En → Prop}
theorem for_go : ∀ (items : List PyData) (P : Nat → En → Prop) (ρ : En), (∀ i d, items[i]? = some d → ∀ ρ, P i ρ → ∀ N : En → Prop, (∀ ρ', P (i + 1) ρ' → N ρ') → g (.fz d) ρ fun ρ1 => s { E with nx := N, ct := N, bk := E.nx } ρ1) → P 0 ρ → (∀ ρ', P items.length ρ' → E.nx ρ') → forN g s E items ρ
  | [], P, ρ, h, h0, hn => hn ρ h0
  | d :: r, P, ρ, h, h0, hn => h 0 d rfl ρ h0 (forN g s E r) fun ρ' h1 => for_go r (fun i => P (i + 1)) ρ' (fun i d e => h (i + 1) d e) h1 hn
theorem lc_go : ∀ (items : List PyData) (P : Nat → List O → En → Prop) (ρ : En) (acc : List O), (∀ i d, items[i]? = some d → ∀ acc ρ, P i acc ρ → ∀ (K1 : O → En → Prop) (K0 : En → Prop), (∀ y ρ3, P (i + 1) (acc ++ [y]) ρ3 → K1 y ρ3) → (∀ ρ2, P (i + 1) acc ρ2 → K0 ρ2) → g (.fz d) (wipeO ρ own) fun ρ1 => wt ρ1 fun b ρ2 => br b (w ρ2 K1) (K0 ρ2)) →
    P 0 acc ρ → (∀ acc' ρ', P items.length acc' ρ' → k acc' ρ') → lcN g wt w own k items ρ acc
  | [], P, ρ, acc, h, h0, hn => hn acc ρ h0
  | d :: r, P, ρ, acc, h, h0, hn => h 0 d rfl acc ρ h0 (fun y ρ3 => lcN g wt w own k r ρ3 (acc ++ [y])) (fun ρ2 => lcN g wt w own k r ρ2 acc) (fun y ρ3 h1 => lc_go r (fun i => P (i + 1)) ρ3 _ (fun i d e => h (i + 1) d e) h1 hn) fun ρ2 h1 => lc_go r (fun i => P (i + 1)) ρ2 _ (fun i d e => h (i + 1) d e) h1 hn
theorem lc_map (items : List PyData) (P : En → Prop) (keep : PyData → Bool) (f : PyData → PyData) (ρ : En) (h : ∀ d ∈ items, ∀ ρ, P ρ → ∀ (K1 : O → En → Prop) (K0 : En → Prop), (keep d = true → ∀ ρ', P ρ' → K1 (.fz (f d)) ρ') → (keep d = false → ∀ ρ', P ρ' → K0 ρ') → g (.fz d) (wipeO ρ own) fun ρ1 => wt ρ1 fun b ρ2 => br b (w ρ2 K1) (K0 ρ2))
    (h0 : P ρ) (hn : ∀ ρ', P ρ' → k (((items.filter keep).map f).map O.fz) ρ') : lcN g wt w own k items ρ [] := by
  refine lc_go items (fun i acc ρ => P ρ ∧ acc = (((items.take i).filter keep).map f).map O.fz) ρ [] (fun i d e acc ρ ⟨hp, ha⟩ K1 K0 h1 h2 => ?_) ⟨h0, by simp⟩ fun acc ρ ⟨hp, ha⟩ => ?_
  · have et : (items.take (i + 1)) = items.take i ++ [d] := by
      rw [List.take_add_one, e]
      rfl
    refine h d (List.mem_of_getElem? e) ρ hp K1 K0 (fun hk ρ' hp' => h1 _ _ ⟨hp', ?_⟩) fun hk ρ' hp' => h2 _ ⟨hp', ?_⟩
    · rw [et, List.filter_append, ha]
      simp [hk]
    · rw [et, List.filter_append, ha]
      simp [hk]
  · rw [List.take_length] at ha
    subst ha
    exact hn ρ hp
theorem while_go (P : Nat → En → Prop) (h : ∀ m ρ, P m ρ → ∀ N : En → Prop, (∀ m' ρ', m = m' + 1 → P m' ρ' → N ρ') → wt ρ fun b ρ1 => br b (s { E with nx := N, ct := N, bk := E.nx } ρ1) (E.nx ρ1)) : ∀ (m : Nat) (ρ : En), P m ρ → whileN wt s E (m + 1) ρ
  | 0, ρ, h0 => h 0 ρ h0 _ fun m' ρ' e => nomatch e
  | m + 1, ρ, h0 => h (m + 1) ρ h0 (whileN wt s E (m + 1)) fun m' ρ' e h1 => by
    cases e
    exact while_go P h m ρ' h1
theorem while_at (P : Nat → En → Prop) (m : Nat) (ρ : En) (h : ∀ m ρ, P m ρ → ∀ N : En → Prop, (∀ m' ρ', m = m' + 1 → P m' ρ' → N ρ') → wt ρ fun b ρ1 => br b (s { E with nx := N, ct := N, bk := E.nx } ρ1) (E.nx ρ1)) (h0 : P m ρ) : sWhile wt s E ρ := ⟨m + 1, while_go P h m ρ h0⟩
end
mutual
def wgt : PyData → Nat
  | .none => 4
  | .bool _ => 5
  | .int i => i.natAbs.log2 + 2
  | .str x => 10 * x.length + 2
  | .list ds => 2 + wgts ds
  | .tuple ds => 3 + wgts ds
  | .dict kvs => 2 + wgtk kvs
def wgts : List PyData → Nat
  | [] => 0
  | d :: ds => wgt d + 2 + wgts ds
def wgtk : List (PyData × PyData) → Nat
  | [] => 0
  | (k, v) :: r => wgt k + wgt v + 4 + wgtk r
end
mutual
def valD : PyData → Bool
  | .none => true
  | .bool _ => true
  | .int i => decide (i.natAbs.log2 < 1920)
  | .str x => x.cps.toList.all fun c => decide (c < 16 ^ 8)
  | .list ds => valDs ds
  | .tuple ds => valDs ds
  | .dict kvs => valDk kvs
def valDs : List PyData → Bool
  | [] => true
  | d :: ds => valD d && valDs ds
def valDk : List (PyData × PyData) → Bool
  | [] => true
  | (k, v) :: r => keyP k && valD k && valD v && valDk r
end
theorem wgts_le {c : Nat} : ∀ {ds : List PyData}, (∀ d ∈ ds, wgt d ≤ c) → wgts ds ≤ ds.length * (c + 2)
  | [], _ => Nat.zero_le _
  | d :: ds, h => by
    have h1 := h d (List.mem_cons_self ..)
    have h2 := wgts_le (c := c) fun x hx => h x (List.mem_cons_of_mem _ hx)
    show wgt d + 2 + wgts ds ≤ (ds.length + 1) * (c + 2)
    rw [Nat.add_mul]
    omega
theorem valDs_iff : ∀ {ds : List PyData}, valDs ds = true ↔ ∀ d ∈ ds, valD d = true
  | [] => by simp [valDs]
  | d :: ds => by simp [valDs, valDs_iff (ds := ds)]
theorem piled_text {ts : List Str} : (listText ts).length ≤ piled ts + 2 := by
  unfold listText
  rw [strLen_append]
  cases ts with
  | nil => decide
  | cons t r =>
    have e : textFrom 0 "[" (t :: r) = textFrom 1 (("[" : Str) ++ ("" : String) ++ t) r := rfl
    rw [e, textFrom_length_pos r 1 _ (by decide), strLen_append, strLen_append, piled_cons]
    show 1 + 0 + t.length + piled r + 1 ≤ _
    omega
theorem join_len : ∀ ts : List Str, (Str.join ", " ts).length ≤ piled ts
  | [] => Nat.le_refl _
  | t :: r => by
    have := join_length_add (t :: r) (List.cons_ne_nil _ _)
    omega
mutual
theorem shown_le : ∀ d : PyData, valD d = true → d.shown.length ≤ wgt d
  | .none, _ => by simp only [PyData.shown, wgt]; decide
  | .bool b, _ => by cases b <;> simp only [PyData.shown, wgt] <;> decide
  | .int i, h => by
    simp only [valD, decide_eq_true_eq] at h
    simp only [PyData.shown, wgt]
    rw [ofString_length]
    exact int_text_length_le (k := i.natAbs.log2 + 1) (Nat.succ_pos _) (Nat.lt_succ_self _)
  | .str x, h => by
    simp only [PyData.shown, wgt]
    simp only [valD, List.all_eq_true, decide_eq_true_eq] at h
    exact PySem.StrLaws.reprText_len x h
  | .list ds, h => by
    simp only [PyData.shown, wgt]
    have := shownAll_le ds h
    have := piled_text (ts := PyData.shownAll ds)
    omega
  | .tuple ds, h => by
    simp only [PyData.shown, wgt]
    have := shownAll_le ds h
    have := join_len (PyData.shownAll ds)
    unfold tupleText
    rw [strLen_append, strLen_append]
    have e : (Str.ofString (if ((PyData.shownAll ds).length == 1) = true then ",)" else ")")).length ≤ 2 := by
      split <;> decide
    have e1 : ("(" : Str).length = 1 := rfl
    omega
  | .dict kvs, h => by
    simp only [PyData.shown, wgt]
    have := shownKv_le kvs h
    have := join_len (PyData.shownKv kvs)
    unfold dictText
    rw [strLen_append, strLen_append]
    have e1 : ("{" : Str).length = 1 := rfl
    have e2 : ("}" : Str).length = 1 := rfl
    omega
theorem shownAll_le : ∀ ds : List PyData, valDs ds = true → piled (PyData.shownAll ds) ≤ wgts ds
  | [], _ => by simp only [PyData.shownAll, wgts]; decide
  | d :: ds, h => by
    simp only [valDs, Bool.and_eq_true] at h
    simp only [PyData.shownAll, wgts, piled_cons]
    have := shown_le d h.1
    have := shownAll_le ds h.2
    omega
theorem shownKv_le : ∀ ds : List (PyData × PyData), valDk ds = true → piled (PyData.shownKv ds) ≤ wgtk ds
  | [], _ => by simp only [PyData.shownKv, wgtk]; decide
  | (k, v) :: ds, h => by
    simp only [valDk, Bool.and_eq_true] at h
    simp only [PyData.shownKv, wgtk, piled_cons]
    rw [strLen_append, strLen_append]
    have := shown_le k h.1.1.2
    have := shown_le v h.1.2
    have := shownKv_le ds h.2
    have e1 : (": " : Str).length = 2 := rfl
    omega
end
mutual
theorem okP_of : ∀ d : PyData, valD d = true → wgt d ≤ szMax → okP d = true
  | .none, _, _ => rfl
  | .bool _, _, _ => rfl
  | .int i, h, _ => h
  | .str x, h, hz => decide_eq_true (Nat.le_trans (shown_le (.str x) h) hz)
  | .list ds, h, hz => by
    have z := Nat.le_trans (shown_le (.list ds) h) hz
    simp only [wgt] at hz
    simp only [okP, okPs_of ds h (by omega), decide_eq_true z, Bool.and_self]
  | .tuple ds, h, hz => by
    have z := Nat.le_trans (shown_le (.tuple ds) h) hz
    simp only [wgt] at hz
    simp only [okP, okPs_of ds h (by omega), decide_eq_true z, Bool.and_self]
  | .dict ds, h, hz => by
    have z := Nat.le_trans (shown_le (.dict ds) h) hz
    simp only [wgt] at hz
    simp only [okP, okKv_of ds h (by omega), decide_eq_true z, Bool.and_self]
theorem okPs_of : ∀ ds : List PyData, valDs ds = true → wgts ds ≤ szMax → okPs ds = true
  | [], _, _ => rfl
  | d :: ds, h, hz => by
    simp only [valDs, Bool.and_eq_true] at h
    simp only [wgts] at hz
    simp only [okPs, okP_of d h.1 (by omega), okPs_of ds h.2 (by omega), Bool.and_self]
theorem okKv_of : ∀ ds : List (PyData × PyData), valDk ds = true → wgtk ds ≤ szMax → okKv ds = true
  | [], _, _ => rfl
  | (k, v) :: ds, h, hz => by
    simp only [valDk, Bool.and_eq_true] at h
    simp only [wgtk] at hz
    simp only [okKv, h.1.1.1, okP_of k h.1.1.2 (by omega), okP_of v h.1.2 (by omega), okKv_of ds h.2 (by omega), Bool.and_self]
end
theorem cmul_ok {i j : Int} (a1 : -(2 ^ 400) < i) (a2 : i < 2 ^ 400) (b1 : -(2 ^ 400) < j) (b2 : j < 2 ^ 400) : CMulW i j := wide_mul (a := 400) (b := 400) (by omega) (by omega) (by decide) (by decide) (by decide)
theorem cdiv_ok {i j : Int} (h : 0 < j) (b2 : j < 2 ^ 400) : CDivW i j := wide_div (b := 400) h (by omega) (by decide) (by decide)
theorem enumL_at {ds : List PyData} {i : Nat} {d : PyData} (h : (enumL ds)[i]? = some d) : ∃ x, ds[i]? = some x ∧ d = .tuple [.int (i : Nat), x] := by
  unfold enumL at h
  rw [List.getElem?_map, List.getElem?_zipIdx] at h
  cases q : ds[i]? with
  | none => rw [q] at h; cases h
  | some x =>
    rw [q] at h
    cases h
    exact ⟨x, rfl, by simp⟩
theorem rangeL_at {lo : Int} {n i : Nat} {d : PyData} (h : (rangeL lo n)[i]? = some d) : i < n ∧ d = .int (lo + (i : Nat)) := by
  unfold rangeL at h
  rw [List.getElem?_map] at h
  cases q : (List.range n)[i]? with
  | none => rw [q] at h; cases h
  | some x =>
    rw [q] at h
    cases h
    obtain ⟨h1, h2⟩ := List.getElem?_eq_some_iff.mp q
    rw [List.length_range] at h1
    rw [List.getElem_range] at h2
    exact ⟨h1, by rw [h2]⟩
@[simp] theorem rangeL_len {lo : Int} {n : Nat} : (rangeL lo n).length = n := by simp [rangeL]
@[simp] theorem rangeC_len {lo c : Int} {n : Nat} : (rangeC lo c n).length = n := by simp [rangeC]
@[simp] theorem enumL_lenS {ds : List PyData} : (enumL ds).length = ds.length := enumL_len ds
@[simp] theorem x_toLf2 {ds : List PyData} {k : O → Prop} : toLf (.ol (ds.map O.fz)) k = k (.lf ds) := propext ⟨fun ⟨es, e, h⟩ => by
  have : ds = es := by
    have := congrArg unf e
    simpa using this
  rw [this]
  exact h, fun h => ⟨ds, rfl, h⟩⟩
@[simp] theorem x_oAll {bs : List Bool} {k : O → Prop} : oAll [.lf (bs.map PyData.bool)] k = k (.fz (.bool (bs.all id))) := by simp [oAll, asBools_map]
theorem lc_eq {g : WG} {wt : WT} {w : WE} {own : List Nat} {k : List O → En → Prop} {items : List PyData} {ρ : En} (F : List PyData) (P : En → Prop) (hF : F.length = items.length) (h : ∀ (i : Nat) (d y : PyData), items[i]? = some d → F[i]? = some y → ∀ ρ, P ρ → ∀ (K1 : O → En → Prop) (K0 : En → Prop), (∀ ρ', P ρ' → K1 (.fz y) ρ') → g (.fz d) (wipeO ρ own) fun ρ1 => wt ρ1 fun b ρ2 => br b (w ρ2 K1) (K0 ρ2))
    (h0 : P ρ) (hn : ∀ ρ', P ρ' → k (F.map O.fz) ρ') : lcN g wt w own k items ρ [] := by
  refine lc_go items (fun i acc ρ => P ρ ∧ acc = (F.take i).map O.fz) ρ [] (fun i d e acc ρ ⟨hp, ha⟩ K1 K0 h1 h2 => ?_) ⟨h0, by simp⟩ fun acc ρ ⟨hp, ha⟩ => ?_
  · have hi : i < F.length := by rw [hF]; exact (List.getElem?_eq_some_iff.mp e).1
    have ey : F[i]? = some F[i] := List.getElem?_eq_getElem hi
    refine h i d _ e ey ρ hp K1 K0 fun ρ' hp' => h1 _ _ ⟨hp', ?_⟩
    rw [ha, List.take_add_one, ey, List.map_append]
    rfl
  · rw [← hF, List.take_length] at ha
    subst ha
    exact hn ρ hp
end Pt
namespace Pt
open PySem PySem.Spec L2
def nI (l : List Nat) : List PyData := l.map fun n => .int (n : Nat)
@[simp] theorem nI_nil : nI [] = [] := rfl
@[simp] theorem nI_cons {x : Nat} {l : List Nat} : nI (x :: l) = .int (x : Nat) :: nI l := rfl
@[simp] theorem nI_len {l : List Nat} : (nI l).length = l.length := List.length_map _
@[simp] theorem nI_get {l : List Nat} {i : Nat} : (nI l)[i]? = (l[i]?).map fun n => PyData.int (n : Nat) := by simp [nI]
theorem nI_append {l r : List Nat} : nI (l ++ r) = nI l ++ nI r := List.map_append ..
theorem at_nat {ds : List PyData} {i : Nat} {d : PyData} (h : ds[i]? = some d) : atI ds (i : Nat) = some d := by
  have hi := (List.getElem?_eq_some_iff.mp h).1
  unfold atI ixN
  rw [if_pos (by omega), if_pos (by omega)]
  exact h
theorem at_int {ds : List PyData} {i : Nat} {j : Int} {d : PyData} (e : j = (i : Nat)) (h : ds[i]? = some d) : atI ds j = some d := by
  rw [e]
  exact at_nat h
theorem at_last {ds : List PyData} {d : PyData} : atI (ds ++ [d]) (-1) = some d := by
  unfold atI ixN
  rw [if_neg (by omega), if_pos (by rw [List.length_append]; show -(((ds.length + 1 : Nat)) : Int) ≤ -1; omega)]
  have e : (-1 + ((ds ++ [d]).length : Int)).toNat = ds.length := by
    rw [List.length_append]
    show (-1 + ((ds.length + 1 : Nat) : Int)).toNat = ds.length
    omega
  show (ds ++ [d])[(-1 + ((ds ++ [d]).length : Int)).toNat]? = some d
  rw [e]
  simp
theorem ix_nat {n i : Nat} (h : i < n) : ixN n (i : Nat) = some i := by
  unfold ixN
  rw [if_pos (by omega), if_pos (by omega)]
  rfl
theorem log_lt {x b : Nat} (h0 : 0 < b) (h : x < 2 ^ b) : x.log2 < b := PySem.Flt.log2_lt_of h0 h
theorem int_val {i : Int} (h : i.natAbs < 2 ^ 200) : valD (.int i) = true := by
  have := log_lt (b := 200) (by decide) h
  simp only [valD, decide_eq_true_eq]
  omega
theorem int_wgt {i : Int} {b : Nat} (h0 : 0 < b) (h : i.natAbs < 2 ^ b) : wgt (.int i) ≤ b + 1 := by
  have := log_lt h0 h
  simp only [wgt]
  omega
theorem nI_val {l : List Nat} (h : ∀ x ∈ l, x < 2 ^ 64) : valDs (nI l) = true := by
  rw [valDs_iff]
  intro d hd
  obtain ⟨x, hx, rfl⟩ := List.mem_map.mp hd
  exact int_val (Nat.lt_trans (h x hx) (by decide))
theorem nI_wgt {l : List Nat} (h : ∀ x ∈ l, x < 2 ^ 64) : wgts (nI l) ≤ l.length * 67 := by
  have := wgts_le (c := 65) (ds := nI l) fun d hd => by
    obtain ⟨x, hx, rfl⟩ := List.mem_map.mp hd
    exact int_wgt (b := 64) (by decide) (h x hx)
  simpa using this
mutual
theorem depth_flat : ∀ ds : List PyData, ds.all flatD = true → PyData.depthAll ds = 0
  | [], _ => rfl
  | d :: ds, h => by
    rw [List.all_cons, Bool.and_eq_true] at h
    simp only [PyData.depthAll, depth_flat ds h.2]
    cases d <;> simp_all [flatD, PyData.depth]
end
theorem nI_flat (l : List Nat) : (nI l).all flatD = true := by
  rw [List.all_eq_true]
  intro d hd
  obtain ⟨x, _, rfl⟩ := List.mem_map.mp hd
  rfl
theorem nI_okL {l : List Nat} (h : ∀ x ∈ l, x < 2 ^ 64) (hl : l.length ≤ 1000) : okP (.list (nI l)) = true ∧ (PyData.list (nI l)).depth ≤ 40 := by
  refine ⟨okP_of _ (nI_val h) ?_, ?_⟩
  · have := nI_wgt h
    simp only [wgt, szMax]
    omega
  · simp only [PyData.depth, depth_flat _ (nI_flat l)]
    decide
def PlantOk (p : List Nat) : Prop := p.length < 40 ∧ ∀ (i x : Nat), p[i]? = some x → x ≤ i
def tupN (p : List Nat) : PyData := .tuple (nI p)
theorem PlantOk.small {p : List Nat} (h : PlantOk p) : ∀ x ∈ p, x < 40 := fun x hx => by
  obtain ⟨i, hi⟩ := List.getElem?_of_mem hx
  have h1 := h.2 i x hi
  have h2 := (List.getElem?_eq_some_iff.mp hi).1
  have h3 := h.1
  omega
theorem PlantOk.le {p : List Nat} (h : PlantOk p) {i : Nat} (hi : i < p.length) : p[i] ≤ i := h.2 i _ (List.getElem?_eq_getElem hi)
theorem PlantOk.nil : PlantOk [] := ⟨by decide, fun i x h => by simp at h⟩
theorem PlantOk.push {p : List Nat} (h : PlantOk p) {x : Nat} (hx : x ≤ p.length) (hl : p.length + 1 < 40) : PlantOk (p ++ [x]) := by
  refine ⟨by rw [List.length_append]; exact hl, fun i y e => ?_⟩
  by_cases hi : i < p.length
  · rw [List.getElem?_append_left hi] at e
    exact h.2 i y e
  · rw [List.getElem?_append_right (by omega)] at e
    have z := (List.getElem?_eq_some_iff.mp e).1
    have e2 : i - p.length = 0 := by simp at z; omega
    rw [e2] at e
    cases e
    omega
def path (p : List Nat) : Nat → Nat → List Nat
  | 0, _ => []
  | _ + 1, 0 => [0]
  | k + 1, s + 1 => (s + 1) :: path p k (p[s]?.getD 0)
def way (p : List Nat) (s : Nat) : List Nat := path p (s + 1) s
theorem path_fuel {p : List Nat} (h : PlantOk p) : ∀ k s, s < k → path p k s = way p s := by
  have main : ∀ k j s, s < k → s < j → path p k s = path p j s := fun k => by
    induction k with
    | zero => intro j s h1; omega
    | succ k ih =>
      intro j s h1 h2
      cases j with
      | zero => omega
      | succ j =>
        cases s with
        | zero => rfl
        | succ s =>
          show (s + 1) :: _ = (s + 1) :: _
          have hs : p[s]?.getD 0 ≤ s := by
            cases e : p[s]? with
            | none => exact Nat.zero_le _
            | some x => exact h.2 s x e
          rw [ih j _ (by omega) (by omega)]
  exact fun k s hs => main k (s + 1) s hs (Nat.lt_succ_self s)
theorem way_zero (p : List Nat) : way p 0 = [0] := rfl
theorem way_succ {p : List Nat} (h : PlantOk p) {s x : Nat} (e : p[s]? = some x) : way p (s + 1) = (s + 1) :: way p x := by
  have hx := h.2 s x e
  show (s + 1) :: path p (s + 1) (p[s]?.getD 0) = _
  rw [e]
  exact congrArg _ (path_fuel h _ _ (show x < s + 1 by omega))
theorem way_le {p : List Nat} (h : PlantOk p) : ∀ s x, x ∈ way p s → x ≤ s := by
  have main : ∀ k s x, x ∈ path p k s → x ≤ s := fun k => by
    induction k with
    | zero => intro s x hx; cases hx
    | succ k ih =>
      intro s x hx
      cases s with
      | zero =>
        rw [show path p (k + 1) 0 = [0] from rfl] at hx
        simp at hx
        omega
      | succ s =>
        rcases List.mem_cons.mp hx with rfl | hx
        · exact Nat.le_refl _
        · have := ih _ x hx
          have hs : p[s]?.getD 0 ≤ s := by
            cases e : p[s]? with
            | none => exact Nat.zero_le _
            | some x => exact h.2 s x e
          omega
  exact fun s x hx => main _ s x hx
theorem way_len {p : List Nat} (h : PlantOk p) (s : Nat) : (way p s).length ≤ s + 1 := by
  have main : ∀ k s, (path p k s).length ≤ k := fun k => by
    induction k with
    | zero => exact fun s => Nat.le_refl _
    | succ k ih =>
      intro s
      cases s with
      | zero => exact Nat.succ_le_succ (Nat.zero_le _)
      | succ s => exact Nat.succ_le_succ (ih _)
  exact main _ _
def under (p : List Nat) (i s : Nat) : List Nat := ((List.range i).filter fun k => p[k]? == some s).map (· + 1)
theorem under_succ (p : List Nat) (i s : Nat) : under p (i + 1) s = under p i s ++ (if p[i]? == some s then [i + 1] else []) := by
  unfold under
  rw [List.range_succ, List.filter_append, List.map_append]
  congr 1
  by_cases h : (p[i]? == some s) = true
  · simp [h]
  · simp [h]
theorem under_len {p : List Nat} {i s : Nat} : (under p i s).length ≤ i := by
  unfold under
  rw [List.length_map]
  exact Nat.le_trans (List.length_filter_le ..) (by simp)
@[simp] theorem x_wMu2 {i : Nat} {wk : WE} {ws : List WE} {lm : O → List O → (O → O → Prop) → Prop} {ρ : En} {R : O → En → Prop} : wMu2 i wk ws lm ρ R = notHid (nth ρ i) (wk ρ fun kd ρ1 => asI kd fun k => asOl (nth ρ1 i) fun xs => ∃ j y, ixN xs.length k = some j ∧ xs[j]? = some y ∧ isLst y = true ∧ wADs (exs ws) (ρ1.set i .hid) fun ds ρ2 => nth ρ2 i = .hid ∧ lm y (fillA (exs ws) ds ρ2) fun y' z => R z (ρ2.set i (.ol (xs.set j y')))) := rfl
@[simp] theorem x_asOl {xs : List O} {k : List O → Prop} : asOl (.ol xs) k = k xs := rfl
theorem way_self {p : List Nat} (h : PlantOk p) {s : Nat} (hs : s ≤ p.length) : s ∈ way p s := by
  cases s with
  | zero => exact List.mem_cons_self ..
  | succ s => rw [way_succ h (List.getElem?_eq_getElem (show s < p.length by omega))]; exact List.mem_cons_self ..
def cntP (p : List Nat) (m s t : Nat) : Bool := (way p t).contains s && (way p t).all fun x => decide (x ≤ s) || decide (m < x)
def cnt (p : List Nat) (m s : Nat) : Nat := (List.range (p.length + 1)).countP (cntP p m s)
theorem cnt_le (p : List Nat) (m s : Nat) : cnt p m s ≤ p.length + 1 := by
  unfold cnt
  exact Nat.le_trans List.countP_le_length (by simp)
end Pt
namespace Pt
open PySem PySem.Spec L2
def ixOk : List (Option O) → (O → Prop) → Prop
  | [some (.ol xs), some (.fz (.int i))], R => ∃ j y, ixN xs.length i = some j ∧ xs[j]? = some y ∧ R y
  | _, _ => False
def wIxO (w w2 : WE) : WE := fun ρ R => wADs [.ex w, .ex w2] ρ fun ds ρ1 => ixOk ds fun y => R y ρ1
@[simp] theorem x_wIxO {w w2 : WE} {ρ : En} {R : O → En → Prop} : wIxO w w2 ρ R = w ρ fun d ρ1 => w2 ρ1 fun d2 ρ2 => ixOk [some d, some d2] fun y => R y ρ2 := rfl
@[simp] theorem x_ixOk {xs : List O} {i : Int} {k : O → Prop} : ixOk [some (.ol xs), some (.fz (.int i))] k = ∃ j y, ixN xs.length i = some j ∧ xs[j]? = some y ∧ k y := rfl
end Pt
namespace Pt
open PySem PySem.Spec L2
theorem canLay_nI : ∀ l : List Nat, (PyData.list (nI l)).canLay0 = true := fun l => by
  simp only [PyData.canLay0]
  induction l with
  | nil => rfl
  | cons a l ih => simp only [nI_cons, PyData.canLayAll0, PyData.canLay0, ih, Bool.and_self]
def shortD (n k : Nat) (d : PyData) : Prop := valD d = true ∧ wgt d ≤ n ∧ d.depth ≤ k
theorem depthAll_le {k : Nat} : ∀ {ds : List PyData}, (∀ d ∈ ds, d.depth ≤ k) → PyData.depthAll ds ≤ k
  | [], _ => Nat.zero_le _
  | d :: ds, h => by
    simp only [PyData.depthAll]
    exact Nat.max_le.mpr ⟨h d (List.mem_cons_self ..), depthAll_le fun x hx => h x (List.mem_cons_of_mem _ hx)⟩
theorem short_tup {n k : Nat} {ds : List PyData} (h : ∀ d ∈ ds, shortD n k d) : shortD (3 + ds.length * (n + 2)) (k + 1) (.tuple ds) := by
  refine ⟨?_, ?_, ?_⟩
  · simp only [valD]
    exact valDs_iff.mpr fun d hd => (h d hd).1
  · simp only [wgt]
    have := wgts_le (c := n) fun d hd => (h d hd).2.1
    omega
  · simp only [PyData.depth]
    have := depthAll_le (k := k) fun d hd => (h d hd).2.2
    omega
theorem short_list {n k : Nat} {ds : List PyData} (h : ∀ d ∈ ds, shortD n k d) : shortD (3 + ds.length * (n + 2)) (k + 1) (.list ds) := by
  refine ⟨?_, ?_, ?_⟩
  · simp only [valD]
    exact valDs_iff.mpr fun d hd => (h d hd).1
  · simp only [wgt]
    have := wgts_le (c := n) fun d hd => (h d hd).2.1
    omega
  · simp only [PyData.depth]
    have := depthAll_le (k := k) fun d hd => (h d hd).2.2
    omega
theorem shortD.mono {n k n2 k2 : Nat} {d : PyData} (h : shortD n k d) (h1 : n ≤ n2) (h2 : k ≤ k2) : shortD n2 k2 d := ⟨h.1, Nat.le_trans h.2.1 h1, Nat.le_trans h.2.2 h2⟩
theorem short_ok {d : PyData} (h : shortD 900000 40 d) : okP d = true ∧ d.depth ≤ 40 := ⟨okP_of d h.1 (Nat.le_trans h.2.1 (by decide)), h.2.2⟩
theorem cut_mem {α : Type} {xs : List α} {lo hi : Option Int} {x : α} (h : x ∈ cutP xs lo hi) : x ∈ xs := List.mem_of_mem_drop (List.mem_of_mem_take h)
theorem cut_len {α : Type} (xs : List α) (lo hi : Option Int) : (cutP xs lo hi).length ≤ xs.length := by
  unfold cutP
  rw [List.length_take, List.length_drop]
  omega
theorem seq_to {s s2 : WS} {E : DE} {ρ : En} (P : En → Prop) (h1 : ∀ N : En → Prop, (∀ ρ', P ρ' → N ρ') → s { E with nx := N } ρ) (h2 : ∀ ρ', P ρ' → s2 E ρ') : sSeq s s2 E ρ := h1 (s2 E) h2
theorem inD_nI (s : Nat) (l : List Nat) : inD (.int (s : Nat)) (nI l) = l.contains s := by
  unfold inD
  induction l with
  | nil => rfl
  | cons a l ih =>
    rw [nI_cons, List.any_cons, ih, List.contains_cons]
    congr 1
    rw [Bool.eq_iff_iff]
    simp [PyData.eqv]
    omega
end Pt
namespace Pt
open PySem PySem.Spec L2 PySem.Calls PyProof.Rows PySem.W
def heap1 (h : Heap) (us : List Value) : Heap := (h.push (seqObj "list" #[] 0)).update h.objs.size (Obj.mapSeq (· ++ us.toArray))
section
variable {prog : Program} {w : World} {A : Around} {E : Value → Shared → Prop} {s : Shared}
theorem gather {q : Addr} {T : String} {us : List Value} {ob : Obj} {m : Nat} {Q : List Value → Shared → Prop} (hT : T = "list" ∨ T = "tuple") (ho : s.heap.get? q = some ob) (hc : ob.cls = .type T) (hd : ob.data = .seq us.toArray m) (z : us.length ≤ sizeLine)
    (h : Q us { s with heap := heap1 s.heap us }) : wpAny (model prog w) A (collect (.ref q)) Q E s := by
  have ho2 : (s.heap.push (seqObj "list" #[] 0)).get? q = some ob := Heap.get?_push_of_some _ ho
  unfold collect
  refine wpAny_bind (wpAny_runValue (codeAny_builtin PyProof.Rows.entry_proto_collect' ?_)); show wpAny _ _ (do again (.builtin "list.__iadd__" ⟨[← newList [], .ref q], []⟩)) _ _ s
  refine wpAny_bind (wpAny_newList (wpAny_pure ⟨Code.quiet_builtin _ (by decide +kernel), codeAny_builtin entry_list_iadd' ?_⟩)); show wpAny _ _ (Builtin.List.listExtendWith (.ref s.heap.objs.size) (.ref q) (.ref s.heap.objs.size)) _ _ { s with heap := s.heap.push (seqObj "list" #[] 0) }
  unfold Builtin.List.listExtendWith
  refine wpAny_bind (wpAny_typeOf (T := T) ⟨ob, ho2, hc⟩ ?_); rw [if_pos (by rcases hT with rfl | rfl <;> simp <;> first | (right; decide) | (left; decide) | decide)]
  refine wpAny_bind (listItems_at ho2 hd ?_); refine wpAny_bind (listItems_at (xs := #[]) (n := 0) (Heap.get?_push_size _ rfl) rfl ?_); rw [if_neg (by simp)]
  refine wpAny_bind (listUpdate_at (xs := #[]) (n := 0) (Heap.get?_push_size _ rfl) rfl ?_ (Nat.zero_le _) (by show (#[] ++ us.toArray).size ≤ sizeLine + 1; simp only [Array.size_append, List.size_toArray, List.length_nil]; omega))
  refine wpAny_pure ?_
  show wpAny (model prog w) A (do
      let oo ← load s.heap.objs.size
      match oo.data with
      | .seq ys _ => pure ys.toList
      | _ => unsupported "internal:collect") Q E { s with heap := heap1 s.heap us }
  refine wpAny_bind (wpAny_load (get?_update_seq (Heap.get?_push_size _ rfl) _) ?_); show wpAny _ _ (pure ((#[] : Array Value) ++ us.toArray).toList) Q E _
  rw [show ((#[] : Array Value) ++ us.toArray).toList = us by simp]; exact wpAny_pure h
theorem sort_any {β : Type} {q : Addr} {T : String} {ob : Obj} {m : Nat} {us : List Value} {bs : List β} {enc : β → PyData} {R : Value → β → Prop} {rev : Bool} {Q : Value → Shared → Prop}
    (hT : T = "list" ∨ T = "tuple") (ho : s.heap.get? q = some ob) (hc : ob.cls = .type T) (hd : ob.data = .seq us.toArray m)
    (e : EachIs R us bs) (er : EachIs (fun v b => ∃ as, Reads s.heap v (enc b) as) us bs) (hal : AllAlike (bs.map enc)) (hk : Sortable (bs.map enc)) (hL : bs.length ≤ sizeLine)
    (hu : ∀ b, b ∈ bs → A.units + 2 + (enc b).depth < cLine) (kw : List (Str × Value)) (hkw : (rev = false ∧ kw = []) ∨ kw = [(Str.ofString "reverse", .bool rev)])
    (h : ∀ out, out.length = bs.length → EachIs R out (bs.mergeSort (dataLe rev enc)) → Q (.ref (s.heap.objs.size + 1)) { s with heap := sortedAll s.heap us (List.toArray out) }) :
    wpAny (model prog w) A (call (.builtin "sorted") [.ref q] kw) Q E s := by
  have hlen : us.length = bs.length := e.length
  have z : us.length ≤ sizeLine := by rw [hlen]; exact hL
  have a1 : argsOk "sorted" ⟨[.ref q], kw⟩ := by
    rcases hkw with ⟨_, rfl⟩ | rfl
    · exact args_sorted1 _
    · exact args_sorted_rev _ _
  have a2 : ∀ x, argsOk "list.sort" ⟨[.ref x], kw⟩ := fun x => by
    rcases hkw with ⟨_, rfl⟩ | rfl
    · exact args_list_sort _
    · exact args_list_sort_rev _ _
  refine call_function_entry_kw kind_sorted plain_sorted entry_sorted a1 ?_
  unfold Builtin.«sorted»; refine wpAny_bind (m := checkCount "sorted" 1 1 _) (wpAny_pure ?_); refine wpAny_bind (gather hT ho hc hd z ?_)
  refine wpAny_bind (wpAny_newList ?_ z)
  have hsz : (heap1 s.heap us).objs.size = s.heap.objs.size + 1 := by unfold heap1; rw [Heap.size_update, size_push']
  show wpAny _ _ _ _ _ { s with heap := copyHeap s.heap us }
  rw [hsz]
  have er2 : EachIs (fun v b => ∃ as, Reads (sortingHeap (copyHeap s.heap us) (s.heap.objs.size + 1) us) v (enc b) as) us bs := er.mono fun _ _ ⟨as, r⟩ => ⟨as, PyProof.Rows.Reads.keeps (fun _ _ => sorting_copy_old) r⟩
  have S := SortsAt.data (prog := prog) (w := w) (A := A.in1.in1) (s := { s with heap := sortingHeap (copyHeap s.heap us) (s.heap.objs.size + 1) us }) (each_map (R := fun v d => ∃ as, Reads (sortingHeap (copyHeap s.heap us) (s.heap.objs.size + 1) us) v d as) enc er2) hal hk (bound_map hu)
  have fin := h (sortVals (dataKind (sortingHeap (copyHeap s.heap us) (s.heap.objs.size + 1) us) (bs.map enc)) rev us us) (by rw [sortVals_length rev rfl]; exact hlen) (sortVals_data rev e er2 hal)
  refine wpAny_bind (wpAny_holding (wpAny_call_entry_kw slot_list_sort ⟨_, copyHeap_at s.heap us, rfl⟩ entry_list_sort ?_ (a2 _)))
  rcases hkw with ⟨rfl, rfl⟩ | rfl
  · exact list_sort_vals (s := { s with heap := copyHeap s.heap us }) (copyHeap_at s.heap us) S z ⟨_, rfl, wpAny_pure ⟨_, rfl, fin⟩⟩
  · exact list_sort_rev_vals (s := { s with heap := copyHeap s.heap us }) (copyHeap_at s.heap us) S z ⟨_, rfl, wpAny_pure ⟨_, rfl, fin⟩⟩
theorem min_at {q : Addr} {us : Array Value} {x : PyData} {xs : List PyData} {as : List Addr} {Q : Value → Shared → Prop} (hh : A.handled = none) (hl : s.heap.IsList q us) (hr : ReadsAll s.heap us.toList (x :: xs) as) (ha : AlikeAll (x :: xs)) (hu : A.units + 1 + PyData.depthAll (x :: xs) < cLine)
    (h : ∀ (i : Nat) v h' tk, us[i]? = some v → (x :: xs)[i]? = some (minD x xs) → (∀ b o, s.heap.get? b = some o → h'.get? b = some o) → Q v { s with heap := h', toks := tk }) :
    wpAny (model prog w) A (call (.builtin "min") [.ref q]) Q E s := by
  have hn : us.size = xs.length + 1 := readsAll_len hr
  refine call_min_walkH (iter_listW (A := A.in1) hh hl fun s2 e W st hfp hw hk => ⟨_, _, _, _, _, _, _, s.heap, _, rfl, W, st, hfp, by omega, hw, hk, cmpIn_lt (A := A.in1) hr ha (by show A.units + 1 + _ < _; exact hu), fun v s' hP m => ?_⟩)
  obtain ⟨h', tk, rfl, hk'⟩ := moved_old e rfl m
  obtain ⟨bs, r, hi, hm, _⟩ := readsAll_atA hr _ v hP
  have e2 := (argBest_fold dataLt PyData.none x xs xs.length (Nat.le_refl _)).2
  rw [List.take_length] at e2
  rw [show us.size - 1 = xs.length by omega] at hP hi
  refine h _ v h' tk hP ?_ hk'
  rw [List.getElem?_eq_getElem hi, List.getElem_eq_getD .none]
  unfold minD
  rw [← e2]
theorem max_at {q : Addr} {us : Array Value} {x : PyData} {xs : List PyData} {as : List Addr} {Q : Value → Shared → Prop} (hh : A.handled = none) (hl : s.heap.IsList q us) (hr : ReadsAll s.heap us.toList (x :: xs) as) (ha : AlikeAll (x :: xs)) (hu : A.units + 1 + PyData.depthAll (x :: xs) < cLine)
    (h : ∀ (i : Nat) v h' tk, us[i]? = some v → (x :: xs)[i]? = some (maxD x xs) → (∀ b o, s.heap.get? b = some o → h'.get? b = some o) → Q v { s with heap := h', toks := tk }) :
    wpAny (model prog w) A (call (.builtin "max") [.ref q]) Q E s := by
  have hn : us.size = xs.length + 1 := readsAll_len hr
  refine call_max_walkH (iter_listW (A := A.in1) hh hl fun s2 e W st hfp hw hk => ⟨_, _, _, _, _, _, _, s.heap, _, rfl, W, st, hfp, by omega, hw, hk, cmpIn_gt (A := A.in1) hr ha (by show A.units + 1 + _ < _; exact hu), fun v s' hP m => ?_⟩)
  obtain ⟨h', tk, rfl, hk'⟩ := moved_old e rfl m
  obtain ⟨bs, r, hi, hm, _⟩ := readsAll_atA hr _ v hP
  have e2 := (argBest_fold (fun a b => dataLt b a) PyData.none x xs xs.length (Nat.le_refl _)).2
  rw [List.take_length] at e2
  rw [show us.size - 1 = xs.length by omega] at hP hi
  refine h _ v h' tk hP ?_ hk'
  rw [List.getElem?_eq_getElem hi, List.getElem_eq_getD .none]
  unfold maxD
  rw [← e2]
theorem min_atT {q : Addr} {us : Array Value} {x : PyData} {xs : List PyData} {as : List Addr} {Q : Value → Shared → Prop} (hh : A.handled = none) (hl : s.heap.IsTuple q us) (hr : ReadsAll s.heap us.toList (x :: xs) as) (ha : AlikeAll (x :: xs)) (hu : A.units + 1 + PyData.depthAll (x :: xs) < cLine)
    (h : ∀ (i : Nat) v h' tk, us[i]? = some v → (x :: xs)[i]? = some (minD x xs) → (∀ b o, s.heap.get? b = some o → h'.get? b = some o) → Q v { s with heap := h', toks := tk }) :
    wpAny (model prog w) A (call (.builtin "min") [.ref q]) Q E s := by
  have hn : us.size = xs.length + 1 := readsAll_len hr
  refine call_min_walkH (iter_tupleW (A := A.in1) hh hl fun s2 e W st hfp hw hk => ⟨_, _, _, _, _, _, _, s.heap, _, rfl, W, st, hfp, by omega, hw, hk, cmpIn_lt (A := A.in1) hr ha (by show A.units + 1 + _ < _; exact hu), fun v s' hP m => ?_⟩)
  obtain ⟨h', tk, rfl, hk'⟩ := moved_old e rfl m
  obtain ⟨bs, r, hi, hm, _⟩ := readsAll_atA hr _ v hP
  have e2 := (argBest_fold dataLt PyData.none x xs xs.length (Nat.le_refl _)).2
  rw [List.take_length] at e2
  rw [show us.size - 1 = xs.length by omega] at hP hi
  refine h _ v h' tk hP ?_ hk'
  rw [List.getElem?_eq_getElem hi, List.getElem_eq_getD .none]
  unfold minD
  rw [← e2]
theorem max_atT {q : Addr} {us : Array Value} {x : PyData} {xs : List PyData} {as : List Addr} {Q : Value → Shared → Prop} (hh : A.handled = none) (hl : s.heap.IsTuple q us) (hr : ReadsAll s.heap us.toList (x :: xs) as) (ha : AlikeAll (x :: xs)) (hu : A.units + 1 + PyData.depthAll (x :: xs) < cLine)
    (h : ∀ (i : Nat) v h' tk, us[i]? = some v → (x :: xs)[i]? = some (maxD x xs) → (∀ b o, s.heap.get? b = some o → h'.get? b = some o) → Q v { s with heap := h', toks := tk }) :
    wpAny (model prog w) A (call (.builtin "max") [.ref q]) Q E s := by
  have hn : us.size = xs.length + 1 := readsAll_len hr
  refine call_max_walkH (iter_tupleW (A := A.in1) hh hl fun s2 e W st hfp hw hk => ⟨_, _, _, _, _, _, _, s.heap, _, rfl, W, st, hfp, by omega, hw, hk, cmpIn_gt (A := A.in1) hr ha (by show A.units + 1 + _ < _; exact hu), fun v s' hP m => ?_⟩)
  obtain ⟨h', tk, rfl, hk'⟩ := moved_old e rfl m
  obtain ⟨bs, r, hi, hm, _⟩ := readsAll_atA hr _ v hP
  have e2 := (argBest_fold (fun a b => dataLt b a) PyData.none x xs xs.length (Nat.le_refl _)).2
  rw [List.take_length] at e2
  rw [show us.size - 1 = xs.length by omega] at hP hi
  refine h _ v h' tk hP ?_ hk'
  rw [List.getElem?_eq_getElem hi, List.getElem_eq_getD .none]
  unfold maxD
  rw [← e2]
end
end Pt
namespace Pt
open PySem PySem.Spec L2 PySem.W
def rSortD (K : PySem.W.Frag) (rev : Bool) : List V → Hp → VK → Prop := fun vs H Q => ∃ (a : Addr) (us : List V) (ds : List PyData), vs = [.ref a] ∧ (SqL K H a us ∨ SqT K H a us) ∧ DpAll K H us ds ∧ AllAlike ds ∧ Sortable ds ∧ (∀ d ∈ ds, d.depth ≤ 40) ∧
  ∀ p, H p = none → Q (.ref p) (upd H p (.lst (((us.zip ds).mergeSort (dataLe rev Prod.snd)).map Prod.fst)))
theorem each_vals : ∀ {us : List V} {its : List Value} {ds : List PyData}, Vals us its → us.length = ds.length → EachIs (fun u (b : V × PyData) => RelV b.1 u) its (us.zip ds)
  | [], _, _, .nil, _ => .nil
  | v :: us, _, [], _, h => by cases h
  | v :: us, _, d :: ds, .cons r t, h => .cons r (each_vals t (by simpa using h))
theorem vals_each : ∀ {its : List Value} {bs : List (V × PyData)}, EachIs (fun u (b : V × PyData) => RelV b.1 u) its bs → Vals (bs.map Prod.fst) its
  | _, _, .nil => .nil
  | _, _, .cons r t => .cons r (vals_each t)
theorem dpAll_len {K : PySem.W.Frag} {H : Hp} : ∀ {us : List V} {ds : List PyData}, DpAll K H us ds → us.length = ds.length
  | _, _, .nil => rfl
  | _, _, .cons _ t => congrArg (· + 1) (dpAll_len t)
theorem zip_snd {α β : Type} : ∀ {xs : List α} {ys : List β}, xs.length = ys.length → (xs.zip ys).map Prod.snd = ys
  | [], [], _ => rfl
  | x :: xs, y :: ys, h => congrArg (y :: ·) (zip_snd (by simpa using h))
theorem vals_at : ∀ {us : List V} {its : List Value} {i : Nat} {v : Value}, Vals us its → its[i]? = some v → ∃ u, us[i]? = some u ∧ RelV u v
  | _, _, _, _, .nil, h => by simp at h
  | _, _, 0, _, .cons r _, h => by simp at h; subst h; exact ⟨_, rfl, r⟩
  | _, _, i + 1, _, .cons _ t, h => by
    obtain ⟨u, h1, h2⟩ := vals_at (i := i) t (by simpa using h)
    exact ⟨u, by simpa using h1, h2⟩
theorem each_zip {P : Value → PyData → Prop} : ∀ {its : List Value} {us : List V} {ds : List PyData}, EachIs P its ds → us.length = ds.length → EachIs (fun u (b : V × PyData) => P u b.2) its (us.zip ds)
  | _, [], _, .nil, _ => .nil
  | _, v :: us, _, .cons r t, h => .cons r (each_zip t (by simpa using h))
  | _, _ :: _, [], _, h => by cases h
theorem cr_sortD {X : Cx} {rev : Bool} (hu : X.A.units + 64 < cLine) (kw : List (Str × Value)) (hkw : (rev = false ∧ kw = []) ∨ kw = [(Str.ofString "reverse", .bool rev)]) : ∀ (pins : List (Addr × Obj)) (s : Shared) (σ : St) (H : Hp) (xs : List V) (us : List Value) (Q : VK), Inv X pins σ H s → Vals xs us → rSortD X.K rev xs H Q →
    wpAny (model X.prog X.w) X.A (call (.builtin "sorted") us kw) (EP X pins σ Q) X.xe s := by
  intro pins s σ H vs us0 Q I r h
  obtain ⟨a, us, ds, rfl, hs, hd, hal, hk, hdep, q⟩ := h
  rw [Vals.ref1 r]
  obtain ⟨its, rv, ob, m, T, hT, ho, hc, hob, hz⟩ : ∃ (its : List Value) (_ : Vals us its) (ob : Obj) (m : Nat) (T : String), (T = "list" ∨ T = "tuple") ∧ s.heap.get? a = some ob ∧ ob.cls = .type T ∧ ob.data = .seq its.toArray m ∧ us.length ≤ sizeLine := by
    rcases hs with hs | hs
    · obtain ⟨its, rv, ⟨o, n, ho, hc, _, hd⟩, hz⟩ := I.list hs
      exact ⟨its, rv, o, n, "list", .inl rfl, ho, hc, hd, hz⟩
    · obtain ⟨its, rv, ⟨o, ho, hc, n, hd⟩, hz⟩ := I.tuple hs
      exact ⟨its, rv, o, n, "tuple", .inr rfl, ho, hc, hd, hz⟩
  have hl := (dpAll_len hd)
  obtain ⟨as, hr⟩ := Dp.readsAll I ds _ its hd rv
  have e2 := each_zip (us := us) (readsAll_each (h := s.heap) id (by simpa using hr)) hl
  have e1 := each_vals rv hl
  have hm : (us.zip ds).map (Prod.snd) = ds := zip_snd hl
  refine sort_any (T := T) (rev := rev) (enc := Prod.snd) hT ho hc hob e1 (e2.mono fun _ _ h => h) (by rw [hm]; exact hal) (by rw [hm]; exact hk) (by rw [List.length_zip]; omega) (fun b hb => ?_) kw hkw fun out hlo heo => ?_
  · have : b.2 ∈ ds := by rw [← hm]; exact List.mem_map_of_mem hb
    have := hdep _ this
    omega
  · obtain ⟨ep, he'⟩ := PyProof.Rows.sortedAll_at s.heap its out.toArray
    have hlen : (((us.zip ds).mergeSort (dataLe rev Prod.snd)).map Prod.fst).length ≤ sizeLine := by
      rw [List.length_map, List.length_mergeSort, List.length_zip]
      omega
    exact ⟨.ref _, upd H (s.heap.objs.size + 1) (.lst (((us.zip ds).mergeSort (dataLe rev Prod.snd)).map Prod.fst)), I.laid (t' := s.toks) (fun _ _ => PyProof.Rows.sortedAll_old) (Nat.le_succ _) ⟨hlen, out, ep, vals_each heo, by simpa using he'⟩, rfl, q _ (I.hok.fresh (Nat.le_succ _))⟩
theorem cr_sortDt {X : Cx} (hu : X.A.units + 64 < cLine) : CallR X (.builtin "sorted") (rSortD X.K false) := fun pins s σ H xs us Q I r h => cr_sortD hu [] (.inl ⟨rfl, rfl⟩) pins s σ H xs us Q I r h
def rMmD (K : PySem.W.Frag) (f : PyData → List PyData → PyData) : List V → Hp → VK → Prop := fun vs H Q => ∃ (a : Addr) (us : List V) (x : PyData) (xs : List PyData), vs = [.ref a] ∧ (SqL K H a us ∨ SqT K H a us) ∧ DpAll K H us (x :: xs) ∧ AlikeAll (x :: xs) ∧ PyData.depthAll (x :: xs) ≤ 40 ∧
  ∀ (i : Nat) v, us[i]? = some v → (x :: xs)[i]? = some (f x xs) → Q v H
theorem cr_minD {X : Cx} (hc : X.calm = true) (hu : X.A.units + 64 < cLine) : CallR X (.builtin "min") (rMmD X.K minD) := by
  intro pins s σ H vs us0 Q I r h
  obtain ⟨a, us, x, xs, rfl, hs, hd, hal, hdep, q⟩ := h
  rw [Vals.ref1 r]
  rcases hs with hs | hs
  · obtain ⟨its, rv, hl, hz⟩ := I.list hs
    obtain ⟨as, hr⟩ := Dp.readsAll I _ _ its hd rv
    refine min_at (I.ok.hd hc) hl.isList (by simpa using hr) hal (by omega) fun i v h' tk hv hi hk => ?_
    obtain ⟨u, hu1, hu2⟩ : ∃ u, us[i]? = some u ∧ RelV u v := by
      have hv2 : its[i]? = some v := by simpa using hv
      exact vals_at rv hv2
    exact ⟨u, H, I.kept hk, hu2, q i u hu1 hi⟩
  · obtain ⟨its, rv, hl, hz⟩ := I.tuple hs
    obtain ⟨as, hr⟩ := Dp.readsAll I _ _ its hd rv
    refine min_atT (I.ok.hd hc) hl (by simpa using hr) hal (by omega) fun i v h' tk hv hi hk => ?_
    obtain ⟨u, hu1, hu2⟩ : ∃ u, us[i]? = some u ∧ RelV u v := by
      have hv2 : its[i]? = some v := by simpa using hv
      exact vals_at rv hv2
    exact ⟨u, H, I.kept hk, hu2, q i u hu1 hi⟩
theorem cr_maxD {X : Cx} (hc : X.calm = true) (hu : X.A.units + 64 < cLine) : CallR X (.builtin "max") (rMmD X.K maxD) := by
  intro pins s σ H vs us0 Q I r h
  obtain ⟨a, us, x, xs, rfl, hs, hd, hal, hdep, q⟩ := h
  rw [Vals.ref1 r]
  rcases hs with hs | hs
  · obtain ⟨its, rv, hl, hz⟩ := I.list hs
    obtain ⟨as, hr⟩ := Dp.readsAll I _ _ its hd rv
    refine max_at (I.ok.hd hc) hl.isList (by simpa using hr) hal (by omega) fun i v h' tk hv hi hk => ?_
    obtain ⟨u, hu1, hu2⟩ : ∃ u, us[i]? = some u ∧ RelV u v := by
      have hv2 : its[i]? = some v := by simpa using hv
      exact vals_at rv hv2
    exact ⟨u, H, I.kept hk, hu2, q i u hu1 hi⟩
  · obtain ⟨its, rv, hl, hz⟩ := I.tuple hs
    obtain ⟨as, hr⟩ := Dp.readsAll I _ _ its hd rv
    refine max_atT (I.ok.hd hc) hl (by simpa using hr) hal (by omega) fun i v h' tk hv hi hk => ?_
    obtain ⟨u, hu1, hu2⟩ : ∃ u, us[i]? = some u ∧ RelV u v := by
      have hv2 : its[i]? = some v := by simpa using hv
      exact vals_at rv hv2
    exact ⟨u, H, I.kept hk, hu2, q i u hu1 hi⟩
def oSortD (rev : Bool) : List O → (O → Prop) → Prop
  | [x], R => ∃ ds, vLT x = some ds ∧ PyData.canLayAll0 ds = true ∧ AllAlike ds ∧ Sortable ds ∧ (∀ d ∈ ds, d.depth ≤ 40) ∧ R (.lf (ds.mergeSort (dataLe rev id)))
  | _, _ => False
theorem rfs_zip {K : PySem.W.Frag} {B : Hp} : ∀ {vs : List V} {ds : List PyData}, RFs K B vs ds → ∀ b ∈ vs.zip ds, RF K B b.1 b.2
  | _, _, .nil, b, hb => by cases hb
  | _, _, .cons r t, b, hb => by
    rcases List.mem_cons.mp hb with rfl | hb
    · exact r
    · exact rfs_zip t b hb
theorem rfs_of {K : PySem.W.Frag} {B : Hp} : ∀ {bs : List (V × PyData)}, (∀ b ∈ bs, RF K B b.1 b.2) → RFs K B (bs.map Prod.fst) (bs.map Prod.snd)
  | [], _ => .nil
  | b :: bs, h => .cons (h b (List.mem_cons_self ..)) (rfs_of fun c hc => h c (List.mem_cons_of_mem _ hc))
theorem sort_zip {us : List V} {ds : List PyData} {rev : Bool} (h : us.length = ds.length) : ((us.zip ds).mergeSort (dataLe rev Prod.snd)).map Prod.snd = ds.mergeSort (dataLe rev id) := by
  refine (List.map_mergeSort (r := dataLe rev Prod.snd) (s := dataLe rev id) (f := Prod.snd) (l := us.zip ds) fun a _ b _ => rfl).trans ?_
  rw [zip_snd h]
theorem rd_sortD {K : PySem.W.Frag} {rev : Bool} : Rd K (rSortD K rev) (oSortD rev) := fun B H vs xs f R Q s rr h q => by
  unfold oSortD at h
  split at h
  · obtain ⟨ds, hv, hcl, hal, hk, hd, hR⟩ := h
    obtain ⟨v, g, rfl, r⟩ := ros1 rr
    obtain ⟨p, us, rfl, hsq, rf⟩ : ∃ p us, v = .ref p ∧ (SqL K H p us ∨ SqT K H p us) ∧ RFs K B us ds := by
      unfold vLT at hv
      cases e : vL _ with
      | some es =>
        rw [e] at hv
        cases hv
        obtain ⟨p, us, h1, h2, h3⟩ := r.vL s e
        exact ⟨p, us, h1, .inl (SqL.of h2), h3⟩
      | none =>
        rw [e] at hv
        obtain ⟨p, us, h1, h2, h3⟩ := r.vT s hv
        exact ⟨p, us, h1, .inr h2, h3⟩
    have hl := rf.length
    refine ⟨p, us, ds, rfl, hsq, rf.dp s hcl, hal, hk, hd, fun a ha => ?_⟩
    refine q _ hR _ B _ ?_
    have := rfs_of (K := K) (B := B) (bs := (us.zip ds).mergeSort (dataLe rev Prod.snd)) fun b hb => rfs_zip rf b ((List.mergeSort_perm _ _).mem_iff.mp hb)
    rw [sort_zip hl] at this
    exact Out.lst this s ha
  · exact h.elim
def oMmD (f : PyData → List PyData → PyData) : List O → (O → Prop) → Prop
  | [x], R => ∃ d ds, vLT x = some (d :: ds) ∧ PyData.canLayAll0 (d :: ds) = true ∧ AlikeAll (d :: ds) ∧ PyData.depthAll (d :: ds) ≤ 40 ∧ R (.fz (f d ds))
  | _, _ => False
theorem rd_mmD {K : PySem.W.Frag} {g : PyData → List PyData → PyData} : Rd K (rMmD K g) (oMmD g) := fun B H vs xs f R Q s rr h q => by
  unfold oMmD at h
  split at h
  · obtain ⟨d, ds, hv, hcl, hal, hd, hR⟩ := h
    obtain ⟨v, g1, rfl, r⟩ := ros1 rr
    obtain ⟨p, us, rfl, hsq, rf⟩ : ∃ p us, v = .ref p ∧ (SqL K H p us ∨ SqT K H p us) ∧ RFs K B us (d :: ds) := by
      unfold vLT at hv
      cases e : vL _ with
      | some es =>
        rw [e] at hv
        cases hv
        obtain ⟨p, us, h1, h2, h3⟩ := r.vL s e
        exact ⟨p, us, h1, .inl (SqL.of h2), h3⟩
      | none =>
        rw [e] at hv
        obtain ⟨p, us, h1, h2, h3⟩ := r.vT s hv
        exact ⟨p, us, h1, .inr h2, h3⟩
    refine ⟨p, us, d, ds, rfl, hsq, rf.dp s hcl, hal, hd, fun i u hu hi => ?_⟩
    obtain ⟨u2, e2, r2⟩ := rf.get hi
    rw [hu] at e2
    cases e2
    exact q _ hR _ B H (Out.here r2 s)
  · exact h.elim
theorem canLay_ints : ∀ ns : List Int, PyData.canLayAll0 (ns.map PyData.int) = true
  | [] => rfl
  | n :: ns => by
    show (PyData.canLay0 (.int n) && PyData.canLayAll0 (ns.map PyData.int)) = true
    rw [canLay_ints ns]
    rfl
theorem alikeI (ns : List Int) : AlikeAll (ns.map PyData.int) := ⟨fun x hx y hy => by
  obtain ⟨a, _, rfl⟩ := List.mem_map.mp hx
  obtain ⟨b, _, rfl⟩ := List.mem_map.mp hy
  rfl, fun x hx => by
  obtain ⟨a, _, rfl⟩ := List.mem_map.mp hx
  exact fun h => nomatch h⟩
theorem foldl_max : ∀ (ns : List Int) (n : Int), (ns.foldl max n ∈ n :: ns) ∧ ∀ y ∈ n :: ns, y ≤ ns.foldl max n
  | [], n => ⟨by simp, fun y hy => by simp at hy; rw [hy]; exact Int.le_refl _⟩
  | a :: ns, n => by
    obtain ⟨h1, h2⟩ := foldl_max ns (max n a)
    refine ⟨?_, fun y hy => ?_⟩
    · rcases List.mem_cons.mp h1 with e | e
      · show ns.foldl max (max n a) ∈ _
        rw [e]
        rcases Int.le_total n a with z | z
        · rw [Int.max_eq_right z]; simp
        · rw [Int.max_eq_left z]; simp
      · exact List.mem_cons_of_mem _ (List.mem_cons_of_mem _ e)
    · have hm := h2 (max n a) (List.mem_cons_self ..)
      show y ≤ ns.foldl max (max n a)
      rcases List.mem_cons.mp hy with rfl | hy
      · omega
      · rcases List.mem_cons.mp hy with rfl | hy
        · omega
        · exact h2 y (List.mem_cons_of_mem _ hy)
theorem foldl_min : ∀ (ns : List Int) (n : Int), (ns.foldl min n ∈ n :: ns) ∧ ∀ y ∈ n :: ns, ns.foldl min n ≤ y
  | [], n => ⟨by simp, fun y hy => by simp at hy; rw [hy]; exact Int.le_refl _⟩
  | a :: ns, n => by
    obtain ⟨h1, h2⟩ := foldl_min ns (min n a)
    refine ⟨?_, fun y hy => ?_⟩
    · rcases List.mem_cons.mp h1 with e | e
      · show ns.foldl min (min n a) ∈ _
        rw [e]
        rcases Int.le_total n a with z | z
        · rw [Int.min_eq_left z]; simp
        · rw [Int.min_eq_right z]; simp
      · exact List.mem_cons_of_mem _ (List.mem_cons_of_mem _ e)
    · have hm := h2 (min n a) (List.mem_cons_self ..)
      show ns.foldl min (min n a) ≤ y
      rcases List.mem_cons.mp hy with rfl | hy
      · omega
      · rcases List.mem_cons.mp hy with rfl | hy
        · omega
        · exact h2 y (List.mem_cons_of_mem _ hy)
theorem depth_intsA : ∀ ns : List Int, PyData.depthAll (ns.map PyData.int) = 0
  | [] => by simp [PyData.depthAll]
  | n :: ns => by
    show max (PyData.depth (.int n)) (PyData.depthAll (ns.map PyData.int)) = 0
    rw [depth_intsA ns]
    simp [PyData.depth]
theorem x_maxI {x : O} {k : O → Prop} (ns : List Int) (hv : vLT x = some (ns.map PyData.int)) (hne : ns ≠ []) (h : ∀ m, m ∈ ns → (∀ y ∈ ns, y ≤ m) → k (.fz (.int m))) : oMmD maxD [x] k := by
  cases ns with
  | nil => exact (hne rfl).elim
  | cons n ns =>
    obtain ⟨h1, h2⟩ := foldl_max ns n
    have e : maxD (.int n) (ns.map PyData.int) = .int (ns.foldl max n) := maxD_ints n ns
    exact ⟨.int n, ns.map PyData.int, hv, canLay_ints (n :: ns), alikeI (n :: ns), by have := depth_intsA (n :: ns); simp only [List.map_cons] at this; omega, by rw [e]; exact h _ h1 h2⟩
theorem x_minI {x : O} {k : O → Prop} (ns : List Int) (hv : vLT x = some (ns.map PyData.int)) (hne : ns ≠ []) (h : ∀ m, m ∈ ns → (∀ y ∈ ns, m ≤ y) → k (.fz (.int m))) : oMmD minD [x] k := by
  cases ns with
  | nil => exact (hne rfl).elim
  | cons n ns =>
    obtain ⟨h1, h2⟩ := foldl_min ns n
    have e : minD (.int n) (ns.map PyData.int) = .int (ns.foldl min n) := minD_ints n ns
    exact ⟨.int n, ns.map PyData.int, hv, canLay_ints (n :: ns), alikeI (n :: ns), by have := depth_intsA (n :: ns); simp only [List.map_cons] at this; omega, by rw [e]; exact h _ h1 h2⟩
@[simp] theorem x_vLT1 {ds : List PyData} : vLT (.lf ds) = some ds := rfl
@[simp] theorem x_vLT2 {ds : List PyData} : vLT (.fz (.list ds)) = some ds := rfl
@[simp] theorem x_vLT3 {ds : List PyData} : vLT (.fz (.tuple ds)) = some ds := rfl
end Pt
namespace Pt
open PySem PySem.Spec L2
section
variable {K : PySem.W.Frag} {Z : Ent} {B H : Hp} {σ : St} {ρ : En} {fp : List Addr}
def wTupO (ws : List WE) : WE := fun ρ R => wADs (exs ws) ρ fun ds ρ1 => (fillA (exs ws) ds ρ1).length ≤ szMax ∧ R (.ot (fillA (exs ws) ds ρ1)) ρ1
def wLstO (ws : List WE) : WE := fun ρ R => wADs (exs ws) ρ fun ds ρ1 => (fillA (exs ws) ds ρ1).length ≤ szMax ∧ R (.ol (fillA (exs ws) ds ρ1)) ρ1
theorem tupO_ok {ws : List WE} {σ : L2.St} {H : Hp} {Q : VK} (h : tE K Z (wTupO ws) σ H Q) : tADs K Z (exs ws) σ H fun vs H1 => vs.length ≤ sizeLine ∧ ∀ p, H1 p = none → Q (.ref p) (upd H1 p (.tup vs)) := by
  obtain ⟨B, ρ, fp, R, k, h, q⟩ := h
  refine args_ok _ k h fun ds ρ1 h1 vs τ xs H1 B1 fp1 g n1 k1 => ?_
  obtain ⟨hsz, hR⟩ := h1
  obtain ⟨ev, ef⟩ := got_exs g rfl
  rw [ef ρ1] at hsz hR
  obtain ⟨f1, f2, rfl, r, k2, fr⟩ := k1.frame g.len
  rw [ev] at r
  refine ⟨by rw [r.length]; exact szOk hsz, fun p hp => ?_⟩
  have hB := k1.sub.free hp
  have sb : Sub B1 (upd B1 p (.tup vs)) := fun a o e => by rw [upd_ne (ne_of_none e hB)]; exact e
  have n := Nxt.allocB (o := .tup vs) hp hB pl_tup
  have keep : ∀ a ∈ f1 ++ f2, ∀ o, H1 a = some o → NT o → upd H1 p (.tup vs) a = some o := fun a ha o e t => n.keep a o e List.not_mem_nil t
  have hpf : ∀ a ∈ f1 ++ f2, a ≠ p := fun a ha e => by rw [e] at ha; exact k1.lives p ha hp
  have nn : Nxt B1 H1 (f1 ++ f2) (upd B1 p (.tup vs)) (upd H1 p (.tup vs)) (f1 ++ f2) := ⟨n.bsub, fun a o e _ => n.keep a o e List.not_mem_nil, fun a e => (n.newB a e).imp_right (·.imp_right fun z => (List.not_mem_nil z).elim), fun a ha => .inl ha, n.live, n.tabs, n.ntb⟩
  refine q _ ρ1 hR _ _ (upd B1 p (.tup vs)) (f1 ++ f2) (n1.trans nn) ⟨k1.sub.upd, fun i z => ?_, ?_, k1.nd, fun a ha => by rw [upd_ne (hpf a ha)]; exact k1.out a ha, k1.nx.trans nn⟩
  · cases i with
    | zero => cases z
    | succ i => exact k2.un i z
  · rw [valsOf_cons]
    exact .cons (.ot upd_same (r.next sb fun a ha => keep a (List.mem_append_left _ ha))) (k2.rs.next sb fun a ha => keep a (List.mem_append_right _ ha))
def ixOkT : List (Option O) → (O → Prop) → Prop
  | [some (.ot xs), some (.fz (.int i))], R => ∃ j y, ixN xs.length i = some j ∧ xs[j]? = some y ∧ R y
  | _, _ => False
def wIxT (w w2 : WE) : WE := fun ρ R => wADs [.ex w, .ex w2] ρ fun ds ρ1 => ixOkT ds fun y => R y ρ1
theorem ixOkT_iff {ds : List (Option O)} {R : O → Prop} (h : ixOkT ds R) : ∃ xs i j y, ds = [some (.ot xs), some (.fz (.int i))] ∧ ixN xs.length i = some j ∧ xs[j]? = some y ∧ R y := by
  unfold ixOkT at h
  split at h
  · obtain ⟨j, y, h1, h2, h3⟩ := h
    exact ⟨_, _, j, y, rfl, h1, h2, h3⟩
  · exact h.elim
theorem ixT_ok {w w2 : WE} {σ : L2.St} {H : Hp} {Q : VK} (h : tE K Z (wIxT w w2) σ H Q) : tADs K Z [.ex w, .ex w2] σ H fun vs H1 => r2L (rIx K) vs H1 Q := by
  obtain ⟨B, ρ, fp, R, k, h, q⟩ := h
  refine args_ok _ k h fun ds ρ' h1 vs τ xs H' B' fp' g n k1 => ?_
  obtain ⟨xs, i, j, y, rfl, hj, hy, h1⟩ := ixOkT_iff h1
  cases g with
  | ex g =>
    cases g with
    | ex g =>
      cases g
      rename_i v1 v2
      obtain ⟨sub, un, rs, nd, out, nx⟩ := k1
      cases rs with
      | @cons _ _ _ _ fo f9 r rest =>
        cases r with
        | @ot a us _ _ e ros =>
          cases rest with
          | cons r2 rest =>
            cases r2 with
            | fz r2 =>
              cases r2
              rename_i f3
              obtain ⟨v, g1, g2, hv, ry, _, pm⟩ := ros.split hy
              have nd1 : (fo ++ f3).Nodup := by simpa using nd
              have nd2 : ((g1 ++ g2) ++ f3).Nodup := (pm.append_right f3).nodup_iff.mp nd1
              have nd3 : (g1 ++ f3).Nodup := nd2.sublist ((List.sublist_append_left g1 g2).append_right f3)
              have hin : ∀ b ∈ g1 ++ f3, b ∈ fo ++ ([] ++ f3) := fun b hb => by
                rcases List.mem_append.mp hb with z | z
                · exact List.mem_append_left _ (pm.symm.subset (List.mem_append_left _ z))
                · exact List.mem_append_right _ z
              have k2 : Ok K Z B' H' (some v :: σ) (y :: ρ') (g1 ++ f3) := ⟨sub, fun m hm => by
                cases m with
                | zero => cases hm
                | succ m => exact un (m + 2) hm, .cons ry rest, nd3, fun b hb => out b (hin b hb), nx.less hin⟩
              have hat : atI us i = some v := by
                unfold L2.atI
                rw [ros.length, hj]
                exact hv
              exact .inr (.inl ⟨a, us, i, v, rfl, rfl, SqT.of (sub _ _ e), hat, q _ ρ' h1 _ H' B' _ (n.less hin) k2⟩)
end
section
variable {X : Cx} {Z : Ent} {a b : Expr} {es : List Expr} {pos : Pos} {w w2 : WE} {ws : List WE}
theorem e_tupO {k : Nat} (h : PA X es (tADs X.K Z (exs ws))) : PE X (.Tuple es k pos) (tE X.K Z (wTupO ws)) := pe_to (pe_tup h) fun σ H Q q => tupO_ok q
theorem e_ixT (ha : PE X a (tE X.K Z w)) (hb : PE X b (tE X.K Z w2)) (hs : PlainIx b) : PE X (.Subscript a b pos) (tE X.K Z (wIxT w w2)) :=
  pe_to (pe_ix ix_seq ha hb hs) fun σ H Q q => ixT_ok q
end
def partO : O → Option (List O)
  | .ol xs => some xs
  | .ot xs => some xs
  | _ => none
def backO : O → List O → O
  | .ol _, xs => .ol xs
  | .ot _, xs => .ot xs
  | x, _ => x
def wIxM (i : Nat) (wk : WE) : WE := fun ρ R => notHid (nth ρ i) (wk ρ fun kd ρ1 => asI kd fun k => ∃ xs j y, partO (nth ρ1 i) = some xs ∧ ixN xs.length k = some j ∧ xs[j]? = some y ∧ y ≠ .hid ∧ R y (ρ1.set i (backO (nth ρ1 i) (xs.set j .hid))))
section
variable {K : PySem.W.Frag} {Z : Ent}
def wMuT (wo : WE) (ws : List WE) (lm : O → List O → (O → O → Prop) → Prop) : WE := fun ρ R => wo ρ fun y ρ1 => isLst y = true ∧ wADs (exs ws) ρ1 fun ds ρ2 => lm y (fillA (exs ws) ds ρ2) fun _ z => R z ρ2
end
section
variable {X : Cx} {Z : Ent} {o e k : Expr} {es : List Expr} {name x : Str} {apos cpos pos p2 : Pos} {id : String} {ws : List WE} {wo wk : WE} {lm : O → List O → (O → O → Prop) → Prop} {r : V → List V → Hp → VK → Prop}
end
section
variable {ρ : En} {R : O → En → Prop} {w w2 : WE} {ws : List WE} {i : Nat} {lm : O → List O → (O → O → Prop) → Prop} {k : O → Prop}
@[simp] theorem x_wTupO : wTupO ws ρ R = wADs (exs ws) ρ fun ds ρ1 => (fillA (exs ws) ds ρ1).length ≤ szMax ∧ R (.ot (fillA (exs ws) ds ρ1)) ρ1 := rfl
@[simp] theorem x_wLstO : wLstO ws ρ R = wADs (exs ws) ρ fun ds ρ1 => (fillA (exs ws) ds ρ1).length ≤ szMax ∧ R (.ol (fillA (exs ws) ds ρ1)) ρ1 := rfl
@[simp] theorem x_wIxT : wIxT w w2 ρ R = w ρ fun d ρ1 => w2 ρ1 fun d2 ρ2 => ixOkT [some d, some d2] fun y => R y ρ2 := rfl
@[simp] theorem x_ixOkT {xs : List O} {a : Int} : ixOkT [some (.ot xs), some (.fz (.int a))] k = ∃ j y, ixN xs.length a = some j ∧ xs[j]? = some y ∧ k y := rfl
@[simp] theorem x_wIxM : wIxM i w ρ R = notHid (nth ρ i) (w ρ fun kd ρ1 => asI kd fun k => ∃ xs j y, partO (nth ρ1 i) = some xs ∧ ixN xs.length k = some j ∧ xs[j]? = some y ∧ y ≠ .hid ∧ R y (ρ1.set i (backO (nth ρ1 i) (xs.set j .hid)))) := rfl
@[simp] theorem x_wMuT : wMuT w ws lm ρ R = w ρ fun y ρ1 => isLst y = true ∧ wADs (exs ws) ρ1 fun ds ρ2 => lm y (fillA (exs ws) ds ρ2) fun _ z => R z ρ2 := rfl
@[simp] theorem x_part1 {xs : List O} : partO (.ol xs) = some xs := rfl
@[simp] theorem x_part2 {xs : List O} : partO (.ot xs) = some xs := rfl
@[simp] theorem x_bk1 {xs ys : List O} : backO (.ol xs) ys = .ol ys := rfl
@[simp] theorem x_bk2 {xs ys : List O} : backO (.ot xs) ys = .ot ys := rfl
@[simp] theorem x_nh6 {p : Prop} {ds : List O} : notHid (.ot ds) p = p := rfl
@[simp] theorem x_asT2 {ds : List O} {k : List O → Prop} : asT (.ot ds) k = k ds := rfl
end
end Pt
namespace Pt
open PySem PySem.Spec L2
def keyO : O → Option Key
  | .fz (.int i) => some (.inl i)
  | .fz (.str x) => some (.inr x)
  | _ => none
def freshK {α : Type} (kvs : List (Key × α)) (k : Key) : Prop := ∀ p ∈ kvs, p.1 ≠ k
def dcN (g : WG) (wt : WT) (wk w : WE) (own : List Nat) (k : List (Key × O) → En → Prop) : List PyData → En → List (Key × O) → Prop
  | [], ρ, acc => k acc ρ
  | d :: ds, ρ, acc => g (.fz d) (wipeO ρ own) fun ρ1 => wt ρ1 fun b ρ2 => br b (wk ρ2 fun kd ρ3 => ∃ key, keyO kd = some key ∧ freshK acc key ∧ w ρ3 fun y ρ4 => dcN g wt wk w own k ds ρ4 (acc ++ [(key, y)])) (dcN g wt wk w own k ds ρ2 acc)
def wDc (wi : WI) (g : WG) (wt : WT) (wk w : WE) (own : List Nat) : WE := fun ρ R => wi ρ fun items ρ1 => items.length ≤ szMax ∧ dcN g wt wk w own (fun out ρ2 => R (.od out) (wipeO ρ2 own)) items ρ1 []
section
variable {K : PySem.W.Frag} {Z : Ent} {B H : Hp} {σ : St} {ρ : En} {fp : List Addr}
theorem Ok.wipe1 {D : V} {acc : O} {own : List Nat} (k8 : Ok K Z B H (some D :: σ) (acc :: ρ) fp) : ∃ f9, Ok K Z B H (some D :: L2.wipe σ own) (acc :: wipeO ρ own) f9 ∧ ∀ a ∈ f9, a ∈ fp := by
  obtain ⟨a1, a2, rfl, a3, a4, _⟩ := Ok.frame (τ := [some D]) (xs := [acc]) k8 rfl
  obtain ⟨a5, a6, a7⟩ := a4.wipe own
  obtain ⟨m1, m2, m3⟩ := List.nodup_append.mp k8.nd
  have hsub : ∀ a ∈ a1 ++ a5, a ∈ a1 ++ a2 := fun a ha => by
    rcases List.mem_append.mp ha with z | z
    · exact List.mem_append_left _ z
    · exact List.mem_append_right _ (a7 a z)
  refine ⟨a1 ++ a5, k8.part (fun j z => ?_) (a3.append a6.rs) (List.nodup_append.mpr ⟨m1, a6.nd, fun a ha b hb e => m3 a ha b (a7 b hb) e⟩) hsub, hsub⟩
  cases j with
  | zero => cases z
  | succ j => exact a6.un j z
end
section
variable {X : Cx} {Z : Ent} {ps own : List Nat} {pos : Pos} {w wk : WE} {wt : WT} {g : WG}
end
def unfK : List (Key × O) → Option (List (Key × PyData))
  | [] => some []
  | (k, .fz d) :: r => (unfK r).map ((k, d) :: ·)
  | _ => none
def toDf : O → (O → Prop) → Prop
  | .od xs, R => ∃ ds, unfK xs = some ds ∧ R (.df ds)
  | x, R => R x
def wDf (w : WE) : WE := fun ρ R => w ρ fun d ρ1 => toDf d fun d' => R d' ρ1
def getK {α : Type} (kvs : List (Key × α)) (k : Key) : Option α := (kvs.find? fun kv => decide (kv.1 = k)).map (·.2)
def oDGet : List O → (O → Prop) → Prop
  | [.df kvs, x], R => ∃ k d, keyO x = some k ∧ getK kvs k = some d ∧ R (.fz d)
  | [.dl kvs, x], R => ∃ k d, keyO x = some k ∧ getK kvs k = some d ∧ R (.fz d)
  | _, _ => False
section
variable {ρ : En} {R : O → En → Prop} {w wk : WE} {wt : WT} {g : WG} {wi : WI} {own : List Nat} {k : O → Prop}
@[simp] theorem x_wDc : wDc wi g wt wk w own ρ R = wi ρ fun items ρ1 => items.length ≤ szMax ∧ dcN g wt wk w own (fun out ρ2 => R (.od out) (wipeO ρ2 own)) items ρ1 [] := rfl
@[simp] theorem x_wDf : wDf w ρ R = w ρ fun d ρ1 => toDf d fun d' => R d' ρ1 := rfl
@[simp] theorem x_key1 {i : Int} : keyO (.fz (.int i)) = some (.inl i) := rfl
@[simp] theorem x_key2 {x : Str} : keyO (.fz (.str x)) = some (.inr x) := rfl
@[simp] theorem x_dgetl {kvs : List (Key × PyData)} {x : O} : oDGet [.dl kvs, x] k = ∃ key d, keyO x = some key ∧ getK kvs key = some d ∧ k (.fz d) := rfl
@[simp] theorem x_dget {kvs : List (Key × PyData)} {x : O} : oDGet [.df kvs, x] k = ∃ key d, keyO x = some key ∧ getK kvs key = some d ∧ k (.fz d) := rfl
@[simp] theorem x_nh7 {p : Prop} {ds : List (Key × O)} : notHid (.od ds) p = p := rfl
end
end Pt
namespace Pt
open PySem PySem.Spec L2 PyProof.Rows
section
variable {X : Cx}
def rIndexT (K : PySem.W.Frag) : V → List V → Hp → VK → Prop := fun x xs H Q => ∃ (a : Addr) (ys : List V) (y : V) (j : Nat) (z : V), x = V.ref a ∧ xs = [y] ∧ SqT K H a ys ∧ flatV y = true ∧ ys.all flatV = true ∧ ys[j]? = some z ∧ eqV z y = true ∧
  (∀ (m : Nat) (z' : V), m < j → ys[m]? = some z' → eqV z' y = false) ∧ Q (.int (j : Nat)) H
theorem mt_indexT : MtR X "tuple.index" (rIndexT X.K) := by
  intro pins s σ H x xs v us Q I rx rxs h
  obtain ⟨a, ys, y, j, z, rfl, rfl, hs, fy, fys, hz, hzj, hno, q⟩ := h
  cases rx
  obtain ⟨uy, rfl, ry⟩ := vals1 rxs
  obtain ⟨its, rv, ⟨⟨cls, dd, data, sl⟩, ho, hc, n, hd⟩, hlen⟩ := I.tuple hs
  simp only at hc hd; subst hc hd
  obtain ⟨u, hu, ru⟩ := rv.get hz
  obtain ⟨hjl, hje⟩ := List.getElem?_eq_some_iff.mp hu
  have hvl := rv.length
  have hj : j < its.toArray.size := by simpa using hjl
  refine call_meets PySem.F.slot_tuple_index ⟨_, ho, rfl⟩ PySem.F.entry_tuple_index (PySem.F.args_tuple_index_2 _ _) (_root_.TI.tuple_indexAt a its.toArray n dd sl uy (eqU y) j hj ?_ ?_)
    ⟨ho, fun u' hu' => mem_eqAt ry fy rv fys u' (by simpa using hu'), ⟨.int (j : Nat), H, I.tok _, ⟨_, rfl⟩, q⟩⟩
  · have e1 : its.toArray[j] = u := by simpa using hje
    rw [e1, eqU_of ru (flat_at fys hz)]; exact hzj
  · intro m hm hmj
    have hml : m < its.length := by simpa using hm
    have hy' : ys[m]? = some ys[m] := List.getElem?_eq_getElem (by omega)
    obtain ⟨u2, hu2, ru2⟩ := rv.get hy'
    obtain ⟨_, hme⟩ := List.getElem?_eq_some_iff.mp hu2
    have e1 : its.toArray[m] = u2 := by simpa using hme
    rw [e1, eqU_of ru2 (flat_at fys hy')]; exact hno m _ hmj hy'
def dedup : List Int → List Int
  | [] => []
  | a :: l => if a ∈ l then dedup l else a :: dedup l
end
section
variable {K : PySem.W.Frag}
def dropD {α : Type} (kvs : List (Key × α)) (k : Key) : List (Key × α) := kvs.filter fun kv => decide (kv.1 ≠ k)
def lmDPop : O → List O → (O → O → Prop) → Prop
  | .df kvs, [x], R => ∃ k d, keyO x = some k ∧ getK kvs k = some d ∧ R (.df (dropD kvs k)) (.fz d)
  | _, _, _ => False
def lmDUpd : O → List O → (O → O → Prop) → Prop
  | .df kvs, [.df more], R => ((kvs ++ more).map (·.1)).Nodup ∧ kvs.length + more.length ≤ szMax ∧ R (.df (kvs ++ more)) (.fz .none)
  | _, _, _ => False
def oDE0 (neg : Bool) : List O → (O → Prop) → Prop
  | [.df ks, .df []], R => R (.fz (.bool (if neg then !(ks.length == 0) else (ks.length == 0))))
  | _, _ => False
def oMinK : List O → (O → Prop) → Prop
  | [.df kvs], R => ∃ is : List Int, kvs.map (·.1) = is.map Sum.inl ∧ is ≠ [] ∧ ∀ m, m ∈ is → (∀ j ∈ is, m ≤ j) → R (.fz (.int m))
  | _, _ => False
def wDict1 (wk wv : WE) : WE := fun ρ R => wk ρ fun kd ρ1 => ∃ key, keyO kd = some key ∧ wv ρ1 fun d ρ2 => asF d fun f => R (.df [(key, f)]) ρ2
def asNs : O → (List Int → Prop) → Prop
  | .fz (.tuple ds), R => ∃ ns, ds = ns.map PyData.int ∧ ns.length ≤ 4000 ∧ R ns
  | _, _ => False
def wLenSet (w : WE) : WE := fun ρ R => w ρ fun d ρ1 => asNs d fun ns => R (.fz (.int ((dedup ns).length : Nat))) ρ1
theorem rfs_ints {B : Hp} : ∀ {ns : List Int} {vs : List V}, RFs K B vs (ns.map PyData.int) → vs = ns.map V.int
  | [], _, r => by cases r; rfl
  | n :: ns, _, r => by
    cases r with
    | cons r t =>
      cases r
      rw [rfs_ints t]
      rfl
end
section
variable {ρ : En} {R : O → En → Prop} {w w2 : WE} {k : O → Prop} {R2 : O → O → Prop}
@[simp] theorem x_lmDPop {kvs : List (Key × PyData)} {x : O} : lmDPop (.df kvs) [x] R2 = ∃ key d, keyO x = some key ∧ getK kvs key = some d ∧ R2 (.df (dropD kvs key)) (.fz d) := rfl
@[simp] theorem x_lmDUpd {kvs more : List (Key × PyData)} : lmDUpd (.df kvs) [.df more] R2 = (((kvs ++ more).map (·.1)).Nodup ∧ kvs.length + more.length ≤ szMax ∧ R2 (.df (kvs ++ more)) (.fz .none)) := rfl
@[simp] theorem x_dE0 {neg : Bool} {ks : List (Key × PyData)} : oDE0 neg [.df ks, .df []] k = k (.fz (.bool (if neg then !(ks.length == 0) else (ks.length == 0)))) := rfl
@[simp] theorem x_minK {kvs : List (Key × PyData)} : oMinK [.df kvs] k = ∃ is : List Int, kvs.map (·.1) = is.map Sum.inl ∧ is ≠ [] ∧ ∀ m, m ∈ is → (∀ j ∈ is, m ≤ j) → k (.fz (.int m)) := rfl
@[simp] theorem x_dict1 : wDict1 w w2 ρ R = w ρ fun kd ρ1 => ∃ key, keyO kd = some key ∧ w2 ρ1 fun d ρ2 => asF d fun f => R (.df [(key, f)]) ρ2 := rfl
@[simp] theorem x_wLenSet : wLenSet w ρ R = w ρ fun d ρ1 => asNs d fun ns => R (.fz (.int ((dedup ns).length : Nat))) ρ1 := rfl
@[simp] theorem x_isDct1 {ds : List (Key × PyData)} : isDct (.df ds) = true := rfl
@[simp] theorem x_isLst3 {ds : List (Key × PyData)} : isLst (.df ds) = false := rfl
@[simp] theorem x_wMuD {i : Nat} {ws : List WE} {lm : O → List O → (O → O → Prop) → Prop} : wMu "dict" i ws lm ρ R = (isDct (nth ρ i) = true ∧ wADs (exs ws) ρ fun ds ρ1 => (isLst (nth ρ1 i) || isDct (nth ρ1 i)) = true ∧ lm (nth ρ1 i) (fillA (exs ws) ds ρ1) fun x' z => R z (ρ1.set i x')) := by
  simp [wMu]
end
end Pt
namespace Pt
open PySem PySem.Spec L2 PyProof.Rows
section
variable {X : Cx}
theorem call_tupleN : CallR X (.type "tuple") (fun xs H Q => ∃ p ys, xs = [.ref p] ∧ SqL X.K H p ys ∧ ∀ l ob, H l = none → ob.dict = none → Q (.ref l) (upd H l (.frz ob (.tup ys)))) := by
  intro pins s σ H xs us Q I r h
  obtain ⟨p, ys, rfl, hq, q⟩ := h
  obtain ⟨u, rfl, rx⟩ := vals1 r
  cases rx
  obtain ⟨its, rv, pl, hz⟩ := I.list hq
  have hlen := rv.length
  refine call_tuple_list pl.isList (fun h' kp => ?_) (by simp only [List.size_toArray]; omega)
  have I1 : L2.Inv X pins σ H { s with heap := h' } := I.kept (t' := s.toks) kp
  have e0 : (h'.push { cls := .type "tuple", data := .seq its.toArray }).get? h'.objs.size = some { cls := .type "tuple", data := .seq its.toArray } := Heap.get?_push_size _ rfl
  refine ⟨.ref h'.objs.size, upd H h'.objs.size (.frz { cls := .type "tuple", data := .seq its.toArray } (.tup ys)), I1.laid (t' := s.toks) (fun b o e => Heap.get?_push_of_some _ e) (Nat.le_refl _) ⟨e0, hz, its, rv, IsTup.new _ _⟩, rfl, q _ _ (I1.hok.fresh (Nat.le_refl _)) rfl⟩
def tyN (K : PySem.W.Frag) (x : V) (H : Hp) : Prop := ∃ a, x = .ref a ∧ ND K H a
theorem tyN_is {pins : List (Addr × Obj)} {σ : L2.St} {H : Hp} {s : Shared} {x : V} {v : Value} (I : L2.Inv X pins σ H s) (r : RelV x v) (ty : tyN X.K x H) :
    s.TypeIs v "tuple" ∧ ∀ a, v = .ref a → ∃ ob, s.heap.get? a = some ob ∧ ob.dict = none := by
  obtain ⟨a, rfl, d⟩ := ty
  obtain rfl := (show v = Value.ref a from r)
  rcases d with ⟨o, vs, e, hd⟩ | ⟨o, e, hc, hd⟩
  · obtain ⟨h1, _, its, _, o2, h2, h3, _⟩ := (show ObjOk X.prog X.w H s.heap a (.frz o (.tup vs)) from I.hok a _ e)
    rw [h1] at h2
    cases h2
    exact ⟨⟨o, h1, h3⟩, fun b z => by cases z; exact ⟨o, h1, hd⟩⟩
  · have h1 := I.kIn a o e
    exact ⟨⟨o, h1, hc⟩, fun b z => by cases z; exact ⟨o, h1, hd⟩⟩
variable {o e : Expr} {es : List Expr} {to : TE} {t : TA} {name : Str} {apos cpos : Pos} {id : String} {r : V → List V → Hp → VK → Prop}
def tBMN (K : PySem.W.Frag) (r : V → List V → Hp → VK → Prop) (to : TE) (t : TA) : TE := fun σ H Q => to σ H fun x H1 => tyN K x H1 ∧ t σ H1 fun xs H2 => r x xs H2 Q
theorem pe_bmN (slot : Slot "tuple" name id) (hty : typeOf (.builtin id) = pure (.type "method_descriptor")) (hm : MtR X id r) (ho : PE X o to) (ha : PA X (e :: es) t)
    (hbase : attributeBase o name X.env (eval o X.env) = eval o X.env := by rfl)
    (hfew : ((backTo cpos (starEach (e :: es) X.env)).all (fun x => !x.1) && (backToKw cpos (keywordEach [] X.env)).all (fun x => x.1.isSome) && decide ((e :: es).length + ([] : List Keyword).length + (if ([] : List Keyword).isEmpty then 0 else 1) < 30)) = true := by rfl)
    (hline : (apos.endLine == cpos.line) = true := by rfl) (hs : starEach (e :: es) X.env = (false, eval e X.env) :: starEach es X.env := by rfl) (hplain : (backTo cpos (starEach es X.env)).any (·.1) = false := by rfl) :
    PE X (.Call (.Attribute o name apos) (e :: es) [] cpos) (tBMN X.K r to t) := by
  refine ⟨fun pins s σ H Q I h => ?_⟩
  refine wpAny_Call_method_late hbase hfew hline rfl (thn (ho.run pins s σ H _ I h) fun v s1 ⟨x, H1, I1, r1, ty, q1⟩ => ?_)
  obtain ⟨h1, h2⟩ := tyN_is I1 r1 ty
  refine ⟨"tuple", id, PySem.F.plainAttrs_tuple, slot, hty, h1, h2, ?_⟩
  have hA := ha.run cpos pins s1 σ H1 _ I1 q1
  rw [hs] at hA ⊢
  exact Calls.callWith_builtin (by show (false || (backTo cpos (starEach es X.env)).any (·.1)) = false; rw [hplain]; rfl) (Calls.evalArgs_plain (thn hA fun us s2 ⟨vs, H2, I2, r2, q2⟩ => hm pins s2 σ H2 x vs v us Q I2 r1 r2 q2))
end
def asTn : O → (List PyData → Prop) → Prop
  | .tn ds, k => k ds
  | _, _ => False
theorem asTn_iff {x : O} {k : List PyData → Prop} (h : asTn x k) : ∃ ds, x = .tn ds ∧ k ds := by
  cases x with
  | tn ds => exact ⟨ds, rfl, h⟩
  | _ => exact False.elim h
def wVt (i : Nat) : WE := fun ρ R => asTn (nth ρ i) fun ds => R (.fz (.tuple ds)) ρ
def wVn (i : Nat) : WE := fun ρ R => asTn (nth ρ i) fun ds => R (.tn ds) ρ
section
variable {X : Cx} {Z : Ent} {pos : Pos}
theorem e_vart (i : Nat) {x : Str} (hN : X.N[i]? = some x := by rfl) (hv : Vis X.env.scope x := by first | exact Or.inl rfl | exact Or.inr (Or.inl rfl) | exact Or.inr (Or.inr rfl)) (hd : (x == ("__debug__" : Str)) = false := by decide)
    (hcd : (x == ("__classdict__" : Str)) = false := by decide) : PE X (.Name x pos) (tE X.K Z (wVt i)) := pe_to (pe_var hN hv hd hcd) fun σ H Q h => by
  obtain ⟨B, ρ, fp, R, k, h, q⟩ := h
  obtain ⟨ds, e, h⟩ := asTn_iff h
  obtain ⟨v, f1, e1, r, _⟩ := k.slot e (fun z => nomatch z)
  cases r with
  | tn a b c => exact ⟨_, e1, q _ ρ h _ H B fp (Nxt.refl _ _ _) (k.addF (.tup a c))⟩
theorem e_varn (i : Nat) {x : Str} (hN : X.N[i]? = some x := by rfl) (hv : Vis X.env.scope x := by first | exact Or.inl rfl | exact Or.inr (Or.inl rfl) | exact Or.inr (Or.inr rfl)) (hd : (x == ("__debug__" : Str)) = false := by decide)
    (hcd : (x == ("__classdict__" : Str)) = false := by decide) : PE X (.Name x pos) (tE X.K Z (wVn i)) := pe_to (pe_var hN hv hd hcd) fun σ H Q h => by
  obtain ⟨B, ρ, fp, R, k, h, q⟩ := h
  obtain ⟨ds, e, h⟩ := asTn_iff h
  obtain ⟨v, f1, e1, r, _⟩ := k.slot e (fun z => nomatch z)
  cases r with
  | tn a b c => exact ⟨_, e1, q _ ρ h _ H B fp (Nxt.refl _ _ _) ⟨k.sub, fun i e => by
      cases i with
      | zero => cases e
      | succ i => exact k.un i e, .cons (f1 := []) (.tn a b c) k.rs, k.nd, k.out, k.nx⟩⟩
end
def oTupN : List O → (O → Prop) → Prop
  | [x], R => ∃ ds, vL x = some ds ∧ R (.tn ds)
  | _, _ => False
theorem rd_tupN {K : PySem.W.Frag} : Rd K (fun xs H Q => ∃ p ys, xs = [.ref p] ∧ SqL K H p ys ∧ ∀ l ob, H l = none → ob.dict = none → Q (.ref l) (upd H l (.frz ob (.tup ys)))) oTupN := fun B H vs xs f R Q s rr h q => by
  unfold oTupN at h
  split at h
  · obtain ⟨ds, hv, hR⟩ := h
    obtain ⟨v, g, rfl, r⟩ := ros1 rr
    obtain ⟨p, us, h1, h2, rf⟩ := r.vL s hv
    refine ⟨p, us, by rw [h1], SqL.of h2, fun l ob hl hd => q _ hR _ (upd B l (.frz ob (.tup us))) _ ?_⟩
    have hB := s.free hl
    have sb : Sub B (upd B l (.frz ob (.tup us))) := fun a o e => by rw [upd_ne (ne_of_none e hB)]; exact e
    exact ⟨[], Nxt.allocB hl hB pl_frz, .tn (.inl (.inr ⟨ob, upd_same⟩)) (.inl ⟨ob, us, upd_same, hd⟩) (rf.mono sb), List.nodup_nil, fun _ h => (List.not_mem_nil h).elim, s.upd⟩
  · exact h.elim
def rML (r : V → List V → Hp → VK → Prop) : List V → Hp → VK → Prop
  | x :: xs => r x xs
  | [] => fun _ _ => False
inductive OT where
  | l | d | s | n
def tyO2 : OT → O → Bool
  | .l, .lf _ => true
  | .l, .ol _ => true
  | .l, .fz (.list _) => true
  | .d, .df _ => true
  | .d, .dt _ => true
  | .d, .od _ => true
  | .s, .fz (.str _) => true
  | .n, .tn _ => true
  | _, _ => false
def OT.nm : OT → String
  | .l => "list"
  | .d => "dict"
  | .s => "str"
  | .n => "tuple"
def tyR (K : PySem.W.Frag) : OT → V → Hp → Prop
  | .n => tyN K
  | T => tyV K T.nm
theorem tyO2_ok {K : PySem.W.Frag} {B H : Hp} {T : OT} {x : O} {v : V} {f : List Addr} (s : Sub B H) (r : RO K B H v x f) (h : tyO2 T x = true) : tyR K T v H := by
  cases T with
  | l =>
    cases r with
    | lf e _ => exact .inl ⟨rfl, _, SqL.of e⟩
    | ol e _ => exact .inl ⟨rfl, _, SqL.of e⟩
    | fz r =>
      cases r with
      | lst e _ => exact .inl ⟨rfl, _, SqL.of (s _ _ e)⟩
      | _ => cases h
    | _ => cases h
  | d =>
    cases r with
    | df e _ _ => exact .inr (.inr (.inl ⟨rfl, .inl ⟨_, e⟩⟩))
    | dt e _ _ => exact .inr (.inr (.inl ⟨rfl, .inr ⟨_, e⟩⟩))
    | od e _ _ => exact .inr (.inr (.inl ⟨rfl, .inl ⟨_, e⟩⟩))
    | fz r => cases r <;> cases h
    | _ => cases h
  | s =>
    cases r with
    | fz r =>
      cases r with
      | str _ => rfl
      | _ => cases h
    | _ => cases h
  | n =>
    cases r with
    | tn a b c => exact ⟨_, rfl, b.mono s⟩
    | fz r => cases r <;> cases h
    | _ => cases h
def tBR (K : PySem.W.Frag) (T : OT) (r : V → List V → Hp → VK → Prop) (to : TE) (t : TA) : TE := fun σ H Q => to σ H fun x H1 => tyR K T x H1 ∧ t σ H1 fun xs H2 => r x xs H2 Q
def wRmN (T : OT) (i : Nat) (as : List AD) (op : List O → (O → Prop) → Prop) : WE := fun ρ R => tyO2 T (nth ρ i) = true ∧ wADs (.nm i :: as) ρ fun ds ρ1 => op (fillA (.nm i :: as) ds ρ1) fun z => R z ρ1
def wRmE (T : OT) (w : WE) (as : List AD) (op : List O → (O → Prop) → Prop) : WE := fun ρ R => w ρ fun d ρ1 => tyO2 T d = true ∧ wADs as ρ1 fun ds ρ2 => op (d :: fillA as ds ρ2) fun z => R z ρ2
section
variable {K : PySem.W.Frag} {Z : Ent}
theorem rmN_ok {T : OT} {i : Nat} {as : List AD} {op : List O → (O → Prop) → Prop} {r : V → List V → Hp → VK → Prop} {σ : L2.St} {H : Hp} {Q : VK} (hr : Rd K (rML r) op) (h : tE K Z (wRmN T i as op) σ H Q) : tBR K T r (tVar i) (tADs K Z as) σ H Q := by
  obtain ⟨B, ρ, fp, R, k, ⟨hT, h⟩, q⟩ := h
  have hx : nth ρ i ≠ .hid := fun e => by rw [e] at hT; cases T <;> cases hT
  obtain ⟨v, f, e, rv, hs⟩ := k.slot rfl hx
  have hg : tADs K Z (.nm i :: as) σ H fun vs H1 => rML r vs H1 Q := rd_glue hr ⟨B, ρ, fp, R, k, h, q⟩
  obtain ⟨v2, e2, hg⟩ := hg
  rw [e] at e2
  have e3 := Option.some.inj (Option.some.inj e2)
  subst e3
  exact ⟨v, e, tyO2_ok k.sub rv hT, hg⟩
theorem rmE_ok {T : OT} {w : WE} {as : List AD} {op : List O → (O → Prop) → Prop} {r : V → List V → Hp → VK → Prop} {σ : L2.St} {H : Hp} {Q : VK} (hr : Rd K (rML r) op) (h : tE K Z (wRmE T w as op) σ H Q) : tBR K T r (tE K Z w) (tADs K Z as) σ H Q := by
  obtain ⟨B, ρ, fp, R, k, h, q⟩ := h
  refine ⟨B, ρ, fp, _, k, h, fun d ρ1 h1 v H1 B1 fp1 n1 k1 => ?_⟩
  obtain ⟨hT, h2⟩ := h1
  obtain ⟨f0, r0, _, _⟩ := k1.head
  refine ⟨tyO2_ok k1.sub r0 hT, ?_⟩
  obtain ⟨f1, f2, rfl, _, k2, fr⟩ := Ok.frame (τ := [some v]) (xs := [d]) k1 rfl
  refine args_ok as k2 h2 fun ds ρ2 h3 vs τ xs H2 B2 fp2 g n2 k6 => ?_
  obtain ⟨kA, nA⟩ := fr n2 k6
  obtain ⟨b1, b2, e12, rA, kB, _⟩ := Ok.frame (τ := some v :: τ) (xs := d :: xs) kA (congrArg (· + 1) g.len)
  obtain ⟨b3, b4, e34, rB, kC, _⟩ := k6.frame g.len
  obtain ⟨f', rr⟩ := g.reads rB kC
  obtain ⟨f9, r9, _, _⟩ := Ok.head (σ := τ ++ σ) (ρ := xs ++ ρ2) (v := v) (x := d) kA
  refine hr B2 H2 (v :: vs) _ _ _ Q kA.sub (.cons r9 rr) h3 fun z hz u B' H' o => ?_
  obtain ⟨g', k3, n3⟩ := o.ok kB
  refine q z ρ2 hz u H' B' g' (n1.trans (nA.trans ?_)) k3
  rw [e12]
  exact (Nxt.self fun a ha => List.mem_append_right _ ha).trans n3
end
section
variable {X : Cx} {Z : Ent} {o e : Expr} {es : List Expr} {name x : Str} {apos cpos pos : Pos} {id : String} {as : List AD} {w : WE} {op : List O → (O → Prop) → Prop} {r : V → List V → Hp → VK → Prop} {T : OT}
theorem pe_br (T : OT) {to : TE} {t : TA} (pa : PlainAttrs T.nm) (slot : Slot T.nm name id) (hty : typeOf (.builtin id) = pure (.type "method_descriptor")) (hm : MtR X id r) (ho : PE X o to) (ha : PA X (e :: es) t)
    (hbase : attributeBase o name X.env (eval o X.env) = eval o X.env)
    (hfew : ((backTo cpos (starEach (e :: es) X.env)).all (fun x => !x.1) && (backToKw cpos (keywordEach [] X.env)).all (fun x => x.1.isSome) && decide ((e :: es).length + ([] : List Keyword).length + (if ([] : List Keyword).isEmpty then 0 else 1) < 30)) = true)
    (hline : (apos.endLine == cpos.line) = true) (hs : starEach (e :: es) X.env = (false, eval e X.env) :: starEach es X.env) (hplain : (backTo cpos (starEach es X.env)).any (·.1) = false) :
    PE X (.Call (.Attribute o name apos) (e :: es) [] cpos) (tBR X.K T r to t) := by
  cases T with
  | n => exact pe_bmN slot hty hm ho ha hbase hfew hline hs hplain
  | l => exact pe_bm pa slot hty hm ho ha hbase hfew hline hs hplain
  | d => exact pe_bm pa slot hty hm ho ha hbase hfew hline hs hplain
  | s => exact pe_bm pa slot hty hm ho ha hbase hfew hline hs hplain
theorem e_rmN (T : OT) (i : Nat) (pa : PlainAttrs T.nm) (slot : Slot T.nm name id) (hty : typeOf (.builtin id) = pure (.type "method_descriptor")) (hm : MtR X id r) (hr : Rd X.K (rML r) op) (ha : PA X (e :: es) (tADs X.K Z as))
    (hN : X.N[i]? = some x := by rfl) (hv : Vis X.env.scope x := by first | exact Or.inl rfl | exact Or.inr (Or.inl rfl) | exact Or.inr (Or.inr rfl)) (hd : (x == ("__debug__" : Str)) = false := by decide) (hcd : (x == ("__classdict__" : Str)) = false := by decide)
    (hfew : ((backTo cpos (starEach (e :: es) X.env)).all (fun x => !x.1) && (backToKw cpos (keywordEach [] X.env)).all (fun x => x.1.isSome) && decide ((e :: es).length + ([] : List Keyword).length + (if ([] : List Keyword).isEmpty then 0 else 1) < 30)) = true := by rfl)
    (hline : (apos.endLine == cpos.line) = true := by rfl) (hs : starEach (e :: es) X.env = (false, eval e X.env) :: starEach es X.env := by rfl) (hplain : (backTo cpos (starEach es X.env)).any (·.1) = false := by rfl) :
    PE X (.Call (.Attribute (.Name x pos) name apos) (e :: es) [] cpos) (tE X.K Z (wRmN T i as op)) := pe_to (pe_br T pa slot hty hm (pe_var hN hv hd hcd) ha rfl hfew hline hs hplain) fun σ H Q q => rmN_ok hr q
theorem e_rmE (T : OT) (pa : PlainAttrs T.nm) (slot : Slot T.nm name id) (hty : typeOf (.builtin id) = pure (.type "method_descriptor")) (hm : MtR X id r) (hr : Rd X.K (rML r) op) (ho : PE X o (tE X.K Z w)) (ha : PA X (e :: es) (tADs X.K Z as))
    (hbase : attributeBase o name X.env (eval o X.env) = eval o X.env := by rfl)
    (hfew : ((backTo cpos (starEach (e :: es) X.env)).all (fun x => !x.1) && (backToKw cpos (keywordEach [] X.env)).all (fun x => x.1.isSome) && decide ((e :: es).length + ([] : List Keyword).length + (if ([] : List Keyword).isEmpty then 0 else 1) < 30)) = true := by rfl)
    (hline : (apos.endLine == cpos.line) = true := by rfl) (hs : starEach (e :: es) X.env = (false, eval e X.env) :: starEach es X.env := by rfl) (hplain : (backTo cpos (starEach es X.env)).any (·.1) = false := by rfl) :
    PE X (.Call (.Attribute o name apos) (e :: es) [] cpos) (tE X.K Z (wRmE T w as op)) := pe_to (pe_br T pa slot hty hm ho ha hbase hfew hline hs hplain) fun σ H Q q => rmE_ok hr q
end
def oIndexL : List O → (O → Prop) → Prop
  | [x, .fz d], R => ∃ ds j z, vL x = some ds ∧ flatD d = true ∧ ds.all flatD = true ∧ ds[j]? = some z ∧ PyData.eqv z d = true ∧ (∀ (m : Nat) z', m < j → ds[m]? = some z' → PyData.eqv z' d = false) ∧ R (.fz (.int (j : Nat)))
  | _, _ => False
def oIndexN : List O → (O → Prop) → Prop
  | [.tn ds, .fz d], R => ∃ j z, flatD d = true ∧ ds.all flatD = true ∧ ds[j]? = some z ∧ PyData.eqv z d = true ∧ (∀ (m : Nat) z', m < j → ds[m]? = some z' → PyData.eqv z' d = false) ∧ R (.fz (.int (j : Nat)))
  | _, _ => False
theorem flat_mem {ds : List PyData} (h : ds.all flatD = true) {z : PyData} {i : Nat} (e : ds[i]? = some z) : flatD z = true := List.all_eq_true.mp h z (List.mem_of_getElem? e)
theorem rfs_get2 {K : PySem.W.Frag} {B : Hp} : ∀ {vs : List V} {ds : List PyData} {i : Nat} {v : V}, RFs K B vs ds → vs[i]? = some v → ∃ d, ds[i]? = some d ∧ RF K B v d
  | _, _, _, _, .nil, e => by simp at e
  | _, _, 0, _, .cons r _, e => by simp at e; subst e; exact ⟨_, rfl, r⟩
  | _, _, i + 1, _, .cons _ t, e => by
    obtain ⟨d, h1, h2⟩ := rfs_get2 (i := i) t (by simpa using e)
    exact ⟨d, by simpa using h1, h2⟩
section
variable {K : PySem.W.Frag}
theorem rd_indexL : Rd K (rML (rIndex K)) oIndexL := fun B H vs xs f R Q s rr h q => by
  unfold oIndexL at h
  split at h
  · obtain ⟨ds, j, z, hv, hf, hfs, hz, he, hno, hR⟩ := h
    obtain ⟨v, w, _, _, rfl, r1, r2⟩ := ros2 rr
    obtain ⟨p, us, rfl, h2, rf⟩ := r1.vL s hv
    cases r2 with
    | fz r2 =>
      obtain ⟨u, hu, ru⟩ := rf.get hz
      refine ⟨p, us, w, j, u, rfl, rfl, SqL.of h2, r2.flat hf, rf.flat hfs, hu, by rw [ru.eqv r2 (flat_mem hfs hz) hf]; exact he, fun m u' hm hu' => ?_, q _ hR _ B H (Out.here (.int _) s)⟩
      obtain ⟨z', hz', rz'⟩ := rfs_get2 rf hu'
      rw [rz'.eqv r2 (flat_mem hfs hz') hf]
      exact hno m z' hm hz'
  · exact h.elim
theorem rd_indexN : Rd K (rML (rIndexT K)) oIndexN := fun B H vs xs f R Q s rr h q => by
  unfold oIndexN at h
  split at h
  · obtain ⟨j, z, hf, hfs, hz, he, hno, hR⟩ := h
    obtain ⟨v, w, _, _, rfl, r1, r2⟩ := ros2 rr
    cases r1 with
    | tn hsq _ rf =>
      cases r2 with
      | fz r2 =>
        obtain ⟨u, hu, ru⟩ := rf.get hz
        refine ⟨_, _, w, j, u, rfl, rfl, s.sqT hsq, r2.flat hf, rf.flat hfs, hu, by rw [ru.eqv r2 (flat_mem hfs hz) hf]; exact he, fun m u' hm hu' => ?_, q _ hR _ B H (Out.here (.int _) s)⟩
        obtain ⟨z', hz', rz'⟩ := rfs_get2 rf hu'
        rw [rz'.eqv r2 (flat_mem hfs hz') hf]
        exact hno m z' hm hz'
  · exact h.elim
end
def oIntB : List O → (O → Prop) → Prop
  | [.fz (.bool b)], R => R (.fz (.int (if b then 1 else 0)))
  | _, _ => False
theorem rd_intB {K : PySem.W.Frag} : Rd K (fun xs H Q => (∃ i, xs = [.int i] ∧ Q (.int i) H) ∨ ∃ k, xs = [.bl k] ∧ Q (.int (if k then 1 else 0)) H) oIntB := fun B H vs xs f R Q s rr h q => by
  unfold oIntB at h
  split at h
  · obtain ⟨v, g, rfl, r⟩ := ros1 rr
    cases r with
    | fz r =>
      cases r
      exact .inr ⟨_, rfl, q _ h _ B H (Out.here (.int _) s)⟩
  · exact h.elim
theorem call_intB {X : Cx} : CallR X (.type "int") (fun xs H Q => (∃ i, xs = [.int i] ∧ Q (.int i) H) ∨ ∃ k, xs = [.bl k] ∧ Q (.int (if k then 1 else 0)) H) := call_int1
theorem u1 {a b : Nat} (h : a + 64 < b) : a + 1 < b := by omega
section
variable {ρ : En} {R : O → En → Prop} {w : WE} {k : O → Prop} {i : Nat} {as : List AD} {op : List O → (O → Prop) → Prop} {T : OT}
@[simp] theorem x_intB {b : Bool} : oIntB [.fz (.bool b)] k = k (.fz (.int (if b then 1 else 0))) := rfl
@[simp] theorem x_wVt : wVt i ρ R = asTn (nth ρ i) fun ds => R (.fz (.tuple ds)) ρ := rfl
@[simp] theorem x_wVn : wVn i ρ R = asTn (nth ρ i) fun ds => R (.tn ds) ρ := rfl
@[simp] theorem x_asTn {ds : List PyData} {k : List PyData → Prop} : asTn (.tn ds) k = k ds := rfl
@[simp] theorem x_nh8 {p : Prop} {ds : List PyData} : notHid (.tn ds) p = p := rfl
@[simp] theorem x_frO4 {ds : List PyData} : frO (.tn ds) = some (.tuple ds) := rfl
@[simp] theorem x_oTupN1 {ds : List PyData} : oTupN [.lf ds] k = k (.tn ds) := by simp [oTupN]
@[simp] theorem x_oTupN2 {ds : List PyData} : oTupN [.fz (.list ds)] k = k (.tn ds) := by simp [oTupN]
@[simp] theorem x_wRmN : wRmN T i as op ρ R = (tyO2 T (nth ρ i) = true ∧ wADs (.nm i :: as) ρ fun ds ρ1 => op (fillA (.nm i :: as) ds ρ1) fun z => R z ρ1) := rfl
@[simp] theorem x_wRmE : wRmE T w as op ρ R = w ρ fun d ρ1 => tyO2 T d = true ∧ wADs as ρ1 fun ds ρ2 => op (d :: fillA as ds ρ2) fun z => R z ρ2 := rfl
@[simp] theorem x_ty1 {ds : List PyData} : tyO2 .l (.lf ds) = true := rfl
@[simp] theorem x_ty2 {ds : List PyData} : tyO2 .l (.fz (.list ds)) = true := rfl
@[simp] theorem x_ty3 {ds : List PyData} : tyO2 .n (.tn ds) = true := rfl
@[simp] theorem x_ty4 {x : Str} : tyO2 .s (.fz (.str x)) = true := rfl
end
end Pt
namespace Pt
open PySem PySem.Spec L2
theorem cpow_ok {i j : Int} (h : i.natAbs < 2 ^ 400) (h0 : 0 ≤ j) (h1 : j ≤ 20) : CPowA i j := by
  have b : Builtin.Int.intBits i ≤ 400 := PySem.intBits_le_iff.mpr h
  refine ⟨h0, ?_⟩
  have : (Builtin.Int.intBits i : Int) * j ≤ 400 * 20 := Int.mul_le_mul (by omega) h1 h0 (by omega)
  omega
end Pt
namespace Sh
open PySem PySem.Spec L2 Pt
def W_is_int : WS :=
  (sRet (wAndV (wRd [.ex (wV 0)] (oIsi "int")) (wNotV (wRd [.ex (wV 0)] (oIsi "bool")))))
def W_in_range (g_is_int : WF) : WS :=
  (sRet (wAndV (wCall [.ex (wV 0)] g_is_int) (wCh (wV 1) (wV 0) (wV 2) oLe oLe)))
def W_is_plant (g_in_range : WF) : WS :=
  (sSeq (sIf (wTor (wTnot (wTb (wRd [.ex (wV 0)] (oIsi "tuple")))) (wTb (wRd [.ex (wRd [.ex (wV 0)] oLen), .ex (wC (.int 40))] oGe)))
  (sRet (wC (.bool false)))
  sNext)
  (sRet (wRd [.ex (wLf (wLc (wiE (wV 0)) (gT 2 (gsC (gN 1) (gsC (gN 2) gsN))) wYes (wFz (wCall [.ex (wV 2), .ex (wC (.int 0)), .ex (wV 1)] g_in_range)) [1, 2]))] oAll)))
def W_require_plant (g_is_plant : WF) : WS :=
  (sIf (wTnot (wTb (wCall [.ex (wV 0)] g_is_plant)))
  sNever
  sNext)
def W_require_station (g_in_range : WF) : WS :=
  (sIf (wTnot (wTb (wCall [.ex (wV 1), .ex (wC (.int 0)), .ex (wRd [.ex (wV 0)] oLen)] g_in_range)))
  sNever
  sNext)
def W_supplier_lists : WS :=
  (sSeq (sStore 1 (wLc (wiR1 (wRd [.ex (wRd [.ex (wV 0)] oLen), .ex (wC (.int 1))] oAdd)) (gN 2) wYes (wRd [] oLst) [2]))
  (sSeq (sFor (wiE (wV 0)) (gT 2 (gsC (gN 3) (gsC (gN 2) gsN)))
  (sDrop (wMu2 1 (wV 2) [(wFz (wRd [.ex (wV 3), .ex (wC (.int 1))] oAdd))] lmAppend)))
  (sRet (wM 1))))
def W_path_to_shop (g_require_plant : WF) (g_require_station : WF) : WS :=
  (sSeq (sDrop (wCall [.ex (wV 0)] g_require_plant))
  (sSeq (sDrop (wCall [.ex (wV 0), .ex (wV 1)] g_require_station))
  (sSeq (sStore 2 (wRd [.ex (wV 1)] oLst))
  (sSeq (sWhile (wTb (wRd [.ex (wRd [.nm 2, .ex (wRd [.ex (wC (.int 1))] oNeg)] oIx), .ex (wC (.int 0))] oGt))
  (sDrop (wMu "list" 2 [(wRd [.ex (wV 0), .ex (wRd [.ex (wRd [.nm 2, .ex (wRd [.ex (wC (.int 1))] oNeg)] oIx), .ex (wC (.int 1))] oSub)] oIx)] lmAppend)))
  (sRet (wM 2))))))
end Sh
namespace Sh
open PySem PySem.Spec L2 Pt
def isInt : PyData → Bool
  | .int _ => true
  | _ => false
def G_is_int : WF := fun ds R => ∃ d, ds = [.fz d] ∧ ∀ ρ, R (.fz (.bool (isInt d))) ρ
theorem sp_is_int : ∀ ds R, G_is_int ds R → gOf 1 1 W_is_int ds R := by
  rintro _ R ⟨d, rfl, h⟩
  refine ⟨rfl, ?_⟩
  cases d with
  | dict kvs => rcases dicT_or kvs with e | e <;> simp [W_is_int, tyO, e, isSub, isInt] at * <;> exact h _
  | _ => simp [W_is_int, tyO, isSub, isInt] at * <;> exact h _
def inRg (lo hi : Int) : PyData → Bool
  | .int v => decide (lo ≤ v) && decide (v ≤ hi)
  | _ => false
def G_in_range : WF := fun ds R => ∃ d lo hi, ds = [.fz d, .fz (.int lo), .fz (.int hi)] ∧ ∀ ρ, R (.fz (.bool (inRg lo hi d))) ρ
theorem sp_in_range : ∀ ds R, G_in_range ds R → gOf 3 3 (W_in_range G_is_int) ds R := by
  rintro _ R ⟨d, lo, hi, rfl, h⟩
  refine ⟨rfl, ?_⟩
  have hh := h [.fz d, .fz (.int lo), .fz (.int hi)]
  cases d <;> simp [W_in_range, G_is_int, isInt, inRg] at hh ⊢ <;> try exact hh
  rename_i v
  by_cases h1 : lo ≤ v <;> simp [h1] at hh ⊢ <;> exact hh
theorem isDic (d : PyData) : (∃ kvs, d = .dict kvs) ∨ ∀ kvs, d ≠ .dict kvs := by
  cases d with
  | dict kvs => exact .inl ⟨kvs, rfl⟩
  | _ => exact .inr fun kvs e => nomatch e
def plantB (ds : List PyData) : Bool := decide (ds.length < 40) && (ds.zipIdx.all fun p => inRg 0 p.2 p.1)
def plantD : PyData → Bool
  | .tuple ds => plantB ds
  | _ => false
def G_is_plant : WF := fun ds R => ∃ d, ds = [.fz d] ∧ ∀ ρ, R (.fz (.bool (plantD d))) ρ
theorem sp_is_plant : ∀ ds R, G_is_plant ds R → gOf 1 3 (W_is_plant G_in_range) ds R := by
  rintro _ R ⟨d, rfl, h⟩
  refine ⟨rfl, ?_⟩
  rcases isDic d with ⟨kvs, rfl⟩ | hnd
  · rcases dicT_or kvs with e | e <;> simp [W_is_plant, plantD, tyO, e, isSub] at h ⊢ <;> exact h _
  cases d <;> first | exact absurd rfl (hnd _) | skip
  all_goals simp [W_is_plant, plantD, tyO, isSub] at h ⊢ <;> try exact h _
  rename_i ds
  refine br_mk (fun h1 => ?_) (fun h1 => ?_)
  · have e : plantB ds = false := by simp [plantB] at h1 ⊢; omega
    rw [e] at h
    exact h _
  · have h1' : ds.length < 40 := by simp at h1; omega
    refine ⟨by unfold szMax; omega, ?_⟩
    refine lc_eq ((ds.zipIdx.map fun p => inRg 0 p.2 p.1).map PyData.bool) (fun ρ => ∃ x1 x2, ρ = [.fz (.tuple ds), x1, x2]) (by simp) (fun i d y e ey ρ ⟨x1, x2, hp⟩ K1 K0 k1 => ?_) ⟨_, _, rfl⟩ fun ρ ⟨x1, x2, hp⟩ => ?_
    · obtain ⟨x, ex, rfl⟩ := enumL_at e
      simp [List.getElem?_zipIdx, ex] at ey
      subst hp ey
      simp [G_in_range, and_assoc]
      exact k1 _ ⟨_, _, rfl⟩
    · subst hp
      have e : plantB ds = ds.zipIdx.all fun p => inRg 0 p.2 p.1 := by simp [plantB, h1']
      rw [e] at h
      rw [x_toLf2, x_oAll, List.all_map]
      exact h _
theorem inRg_nat {lo hi : Int} {n : Nat} (h1 : lo ≤ (n : Nat)) (h2 : (n : Nat) ≤ hi) : inRg lo hi (.int (n : Nat)) = true := by simp [inRg, h1, h2]
theorem plant_ok {p : List Nat} (h : PlantOk p) : plantD (tupN p) = true := by
  have h1 := h.1
  simp only [plantD, tupN, plantB, nI_len, h1, decide_true, Bool.true_and, List.all_eq_true]
  intro q hq
  obtain ⟨i, hi⟩ := List.getElem?_of_mem hq
  rw [List.getElem?_zipIdx] at hi
  cases e : p[i]? with
  | none => simp [e] at hi
  | some x =>
    simp [e] at hi
    subst hi
    have := h.2 i x e
    exact inRg_nat (by omega) (by simp; omega)
def G_require_plant : WF := fun ds R => ∃ p, ds = [.fz (tupN p)] ∧ PlantOk p ∧ ∀ ρ, R (.fz .none) ρ
theorem sp_require_plant : ∀ ds R, G_require_plant ds R → gOf 1 1 (W_require_plant G_is_plant) ds R := by
  rintro _ R ⟨p, rfl, hp, h⟩
  refine ⟨rfl, ?_⟩
  simp [W_require_plant, G_is_plant, plant_ok hp]
  exact h _
def G_require_station : WF := fun ds R => ∃ p s, ds = [.fz (tupN p), .fz (.int (s : Nat))] ∧ s ≤ p.length ∧ ∀ ρ, R (.fz .none) ρ
theorem sp_require_station : ∀ ds R, G_require_station ds R → gOf 2 2 (W_require_station G_in_range) ds R := by
  rintro _ R ⟨p, s, rfl, hs, h⟩
  refine ⟨rfl, ?_⟩
  simp [W_require_station, G_in_range, tupN, and_assoc]
  rw [inRg_nat (by omega) (by omega)]
  exact h _
def rows (p : List Nat) (i : Nat) : List O := (List.range (p.length + 1)).map fun s => .lf (nI (under p i s))
theorem rows_len (p : List Nat) (i : Nat) : (rows p i).length = p.length + 1 := by simp [rows]
theorem rows_get {p : List Nat} {i s : Nat} (h : s ≤ p.length) : (rows p i)[s]? = some (.lf (nI (under p i s))) := by
  unfold rows
  rw [List.getElem?_map, List.getElem?_range (by omega)]
  rfl
theorem rows_succ {p : List Nat} {i x : Nat} (h : p[i]? = some x) (hx : x ≤ p.length) : (rows p i).set x (.lf (nI (under p i x) ++ [.int (i + 1 : Nat)])) = rows p (i + 1) := by
  apply List.ext_getElem?
  intro j
  by_cases hj : j ≤ p.length
  · rw [List.getElem?_set]
    by_cases e : x = j
    · subst e
      rw [if_pos rfl, if_pos (by rw [rows_len]; omega), rows_get hx, under_succ, h]
      simp [nI_append]
    · rw [if_neg e, rows_get hj, rows_get hj, under_succ, h]
      simp [e]
  · rw [List.getElem?_eq_none (by rw [List.length_set, rows_len]; omega), List.getElem?_eq_none (by rw [rows_len]; omega)]
def G_supplier_lists : WF := fun ds R => ∃ p, ds = [.fz (tupN p)] ∧ PlantOk p ∧ ∀ ρ, R (.ol (rows p p.length)) ρ
theorem sp_supplier_lists : ∀ ds R, G_supplier_lists ds R → gOf 1 4 W_supplier_lists ds R := by
  rintro _ R ⟨p, rfl, hp, h⟩
  refine ⟨rfl, ?_⟩
  have hl := hp.1
  simp [W_supplier_lists, tupN]
  refine ⟨⟨by omega, by omega⟩, by unfold szMax; omega, ?_⟩
  refine lc_go _ (fun i acc ρ => (∃ x, ρ = [.fz (tupN p), .hid, x, .hid]) ∧ acc = List.replicate i (.lf [])) _ _ (fun i d e acc ρ ⟨⟨x, hx⟩, ha⟩ K1 K0 k1 k0 => ?_) ⟨⟨_, rfl⟩, rfl⟩ fun acc ρ ⟨⟨x, hx⟩, ha⟩ => ?_
  · obtain ⟨_, rfl⟩ := rangeL_at e
    subst hx
    simp
    exact k1 _ _ ⟨⟨_, rfl⟩, by rw [ha, List.replicate_succ']⟩
  · subst hx ha
    have e0 : List.replicate (rangeL 0 (p.length + 1)).length (O.lf []) = rows p 0 := by
      rw [rangeL_len]
      unfold rows under
      simp
      rw [List.map_const', List.length_range]
    rw [e0]
    show forN _ _ _ (enumL (nI p)) [.fz (tupN p), .ol (rows p 0), .hid, .hid]
    refine for_go _ (fun i ρ => ∃ x y, ρ = [.fz (tupN p), .ol (rows p i), x, y]) _ (fun i d e ρ ⟨x, y, hx⟩ N hN => ?_) ⟨_, _, rfl⟩ fun ρ ⟨x, y, hx⟩ => ?_
    · obtain ⟨z, ez, rfl⟩ := enumL_at e
      cases eq : p[i]? with
      | none => simp [eq] at ez
      | some q =>
        simp [eq] at ez
        subst ez hx
        have hi := (List.getElem?_eq_some_iff.mp eq).1
        have hq := hp.2 i q eq
        simp
        refine ⟨q, ix_nat (by rw [rows_len]; omega), .lf (nI (under p i q)), rows_get (by omega), rfl, ?_⟩
        simp
        refine ⟨by have := under_len (p := p) (i := i) (s := q); unfold szMax; omega, ?_⟩
        have er := rows_succ eq (by omega)
        simp at er
        rw [er]
        exact hN _ ⟨_, _, rfl⟩
    · subst hx
      simp
      exact h _
def G_path_to_shop : WF := fun ds R => ∃ p s, ds = [.fz (tupN p), .fz (.int (s : Nat))] ∧ PlantOk p ∧ s ≤ p.length ∧ ∀ ρ, R (.lf (nI (way p s))) ρ
theorem sp_path_to_shop : ∀ ds R, G_path_to_shop ds R → gOf 2 3 (W_path_to_shop G_require_plant G_require_station) ds R := by
  rintro _ R ⟨p, s, rfl, hp, hs, h⟩
  refine ⟨rfl, ?_⟩
  have hl := hp.1
  simp [W_path_to_shop, G_require_plant, G_require_station]
  refine ⟨p, rfl, hp, p, s, ⟨rfl, rfl⟩, hs, by decide, ?_⟩
  refine while_at (fun m ρ => ∃ l x, ρ = [.fz (tupN p), .fz (.int (s : Nat)), .lf (nI (l ++ [x]))] ∧ x ≤ p.length ∧ l ++ way p x = way p s ∧ m + 1 = (way p x).length) ((way p s).length - 1) _ (fun m ρ ⟨l, x, e, hx, hw, hm⟩ N hN => ?_) ⟨[], s, rfl, hs, rfl, ?_⟩
  · subst e
    simp
    refine ⟨.int (x : Nat), by rw [nI_append]; exact at_last, ?_⟩
    cases x with
    | zero =>
      simp
      have : l ++ [0] = way p s := hw
      rw [this]
      exact h _
    | succ x =>
      have ex : p[x]? = some p[x] := List.getElem?_eq_getElem (by omega)
      have hle := hp.le (i := x) (by omega)
      have e1 : (0 : Int) < ((x + 1 : Nat) : Int) := by omega
      rw [way_succ hp ex] at hw hm
      have hwl := way_len hp s
      have hl2 := congrArg List.length hw
      simp at hl2 hm
      simp [e1]
      refine ⟨.int ((x + 1 : Nat) : Int), by rw [nI_append]; exact at_last, ?_⟩
      simp [tupN]
      refine ⟨.int (p[x] : Nat), at_int (i := x) (by omega) (by simp [ex]), ?_⟩
      refine ⟨by unfold szMax; omega, hN ((way p p[x]).length - 1) _ (by have := List.length_pos_of_mem (way_self hp (show p[x] ≤ p.length by omega)); omega) ⟨l ++ [x + 1], p[x], ?_, by omega, by rw [← hw]; simp, by have := List.length_pos_of_mem (way_self hp (show p[x] ≤ p.length by omega)); omega⟩⟩
      simp [nI_append, tupN]
  · have := List.length_pos_of_mem (way_self hp hs)
    omega
end Sh
namespace St
open PySem PySem.Spec L2 Pt Sh
end St
namespace St
open PySem PySem.Spec L2 Pt Sh
def tupI (s : List Int) : PyData := .tuple (s.map PyData.int)
def SOk (n b : Nat) (s : List Int) : Prop := s.length = n + 1 ∧ s.Nodup ∧ ∀ x ∈ s, x.natAbs < 2 ^ b
theorem SOk.mono {n b c : Nat} {s : List Int} (h : SOk n b s) (hb : b ≤ c) : SOk n c s := ⟨h.1, h.2.1, fun x hx => Nat.lt_of_lt_of_le (h.2.2 x hx) (Nat.pow_le_pow_right (by decide) hb)⟩
end St
namespace FC
open PySem PySem.Spec L2 Pt
def W__law_pot : WS :=
  (sSeq (sStore 2 (wC (.int 0)))
  (sSeq (sIf (wTb (wRd [.ex (wV 1), .ex (wRd [.nm 0] oLen)] oLt))
  (sStore 2 (wRd [.nm 0, .ex (wV 1)] oIx))
  sNext)
  (sRet (wRd [.ex (wRd [.ex (wC (.int 0)), .ex (wRd [.ex (wV 2), .ex (wRd [.ex (wC (.int 10)), .ex (wC (.int 18))] oPowA)] oSub)] oMax2), .ex (wFz (wRd [.ex (wRd [.ex (wRd [.ex (wV 2), .ex (wRd [.ex (wRd [.ex (wC (.int 10)), .ex (wC (.int 38))] oPowA), .ex (wC (.int 133))] oAdd)] oMod), .ex (wRd [.ex (wC (.int 50021)), .ex (wV 1)] oMulA)] oAdd), .ex (wC (.int 17))] oAdd)), .ex (wC (.int 0))] oLst))))
def W__law_draw : WS :=
  (sSeq (sIf (wTb (wRd [.ex (wRd [.nm 0, .ex (wC (.int 0))] oIx), .ex (wC (.int 0))] oGt))
  (sSeq (sStore 2 (wRd [.ex (wRd [.nm 0, .ex (wC (.int 0))] oIx), .ex (wV 1)] oMod))
  (sSeq (sSetI 0 (wRd [.ex (wRd [.nm 0, .ex (wC (.int 0))] oIx), .ex (wV 1)] oDiv) (wC (.int 0)))
  (sRet (wV 2))))
  sNext)
  (sSeq (sSetI 0 (wFz (wRd [.ex (wRd [.nm 0, .ex (wC (.int 2))] oIx), .ex (wC (.int 1))] oAdd)) (wC (.int 2)))
  (sSeq (sStore 3 (wRd [.ex (wRd [.ex (wRd [.ex (wRd [.nm 0, .ex (wC (.int 1))] oIx), .ex (wRd [.ex (wC (.int 122949829)), .ex (wRd [.nm 0, .ex (wC (.int 2))] oIx)] oMulA)] oAdd), .ex (wC (.int 3))] oPowA), .ex (wRd [.ex (wRd [.ex (wC (.int 10)), .ex (wC (.int 41))] oPowA), .ex (wC (.int 37))] oAdd)] oMod))
  (sSeq (sStore 3 (wRd [.ex (wRd [.ex (wRd [.ex (wV 3), .ex (wRd [.ex (wC (.int 32452867)), .ex (wRd [.nm 0, .ex (wC (.int 2))] oIx)] oMulA)] oAdd), .ex (wC (.int 3))] oPowA), .ex (wRd [.ex (wRd [.ex (wC (.int 10)), .ex (wC (.int 40))] oPowA), .ex (wC (.int 121))] oAdd)] oMod))
  (sRet (wRd [.ex (wRd [.ex (wV 3), .ex (wC (.int 786431))] oDiv), .ex (wV 1)] oMod))))))
def W__law_mixed (g__law_draw : WF) : WS :=
  (sSeq (sStore 2 (wRd [.ex (wV 1)] oList))
  (sRet (wLf (wLc (wiR1 (wRd [.ex (wV 1)] oLen)) (gN 3) wYes (wFz (wMu "list" 2 [(wFz (wCall [.nm 0, .ex (wRd [.nm 2] oLen)] g__law_draw))] lmPopAt)) [3]))))
def W__law_plant (g__law_draw : WF) : WS :=
  (sSeq (sStore 2 (wRd [.ex (wV 1), .ex (wRd [.ex (wC (.int 1)), .ex (wCall [.nm 0, .ex (wRd [.ex (wRd [.ex (wC (.int 5)), .ex (wV 1), .ex (wV 1)] oLst), .ex (wCall [.nm 0, .ex (wC (.int 3))] g__law_draw)] oIx)] g__law_draw)] oAdd)] oMin2))
  (sSeq (sPar [3, 4] [(wFz (wCall [.nm 0, .ex (wC (.int 6))] g__law_draw)), (wRd [] oLst)])
  (sSeq (sFor (wiR1 (wRd [.ex (wV 2), .ex (wC (.int 1))] oSub)) (gN 5)
  (sSeq (sStore 6 (wRd [.ex (wRd [.ex (wC (.int 0)), .ex (wV 5), .ex (wC (.int 0)), .ex (wRd [.ex (wC (.int 0)), .ex (wRd [.ex (wV 5), .ex (wC (.int 2))] oSub)] oMax2), .ex (wC (.int 0)), .ex (wRd [.ex (wV 5), .ex (wC (.int 2))] oDiv)] oLst), .ex (wV 3)] oIx))
  (sDrop (wMu "list" 4 [(wFz (wRd [.ex (wV 6), .ex (wCall [.nm 0, .ex (wRd [.ex (wRd [.ex (wFz (wRd [.ex (wV 5), .ex (wC (.int 1))] oAdd)), .ex (wC (.int 1)), .ex (wC (.int 1)), .ex (wRd [.ex (wRd [.ex (wV 5), .ex (wC (.int 1))] oAdd), .ex (wV 6)] oSub), .ex (wFz (wRd [.ex (wV 5), .ex (wC (.int 1))] oAdd)), .ex (wRd [.ex (wRd [.ex (wV 5), .ex (wC (.int 1))] oAdd), .ex (wV 6)] oSub)] oLst), .ex (wV 3)] oIx)] g__law_draw)] oAdd))] lmAppend))))
  (sGf 4 (sRet (wRd [.nm 4] oTuple))))))
def W__law_givers : WS :=
  (sRet (wLf (wLc (wiR1 (wRd [.ex (wRd [.ex (wV 0)] oLen), .ex (wC (.int 1))] oAdd)) (gN 1) wYes (wFz (wLf (wLc (wiR1 (wRd [.ex (wV 0)] oLen)) (gN 2) (wTb (wRd [.ex (wRd [.ex (wV 0), .ex (wV 2)] oIx), .ex (wV 1)] (oEqA false))) (wFz (wRd [.ex (wV 2), .ex (wC (.int 1))] oAdd)) [2]))) [1])))
def W__law_day : WS :=
  (sSeq (sPar [2, 3, 4] [(wC (.int 0)), (wRd [.ex (wC (.int 0))] oLst), (wRd [.ex (wVt 1)] oList)])
  (sSeq (sWhile (wTb (wRd [.ex (wRd [.ex (wV 0), .ex (wV 2)] oIx), .ex (wRd [] oLst)] (oEqA true)))
  (sSeq (sStore 5 (wRd [.ex (wLf (wLc (wiS (wRd [.ex (wV 0), .ex (wV 2)] oIx)) (gN 6) wYes (wRd [.ex (wVt 1), .ex (wV 6)] oIx) [6]))] (oMmD PySem.W.minD)))
  (sSeq (sSetI 4 (wV 5) (wV 2))
  (sSeq (sStore 2 (wRmN .n 1 [.ex (wV 5)] oIndexN))
  (sDrop (wMu "list" 3 [(wV 2)] lmAppend))))))
  (sSeq (sGf 3 (sSetI 4 (wFz (wRd [.ex (wRd [.ex (wVt 1)] (oMmD PySem.W.maxD)), .ex (wC (.int 1))] oAdd)) (wV 2)))
  (sGf 4 (sRet (wTupO [(wM 3), (wRd [.nm 4] oTupN)]))))))
end FC
namespace Th
open Pt
def bx (s : List Int) (v : Nat) : Int := s.getD v 0
theorem bx_get {s : List Int} {v : Nat} (h : v < s.length) : s[v]? = some (bx s v) := by
  unfold bx
  rw [List.getD_eq_getElem?_getD, List.getElem?_eq_getElem h]
  rfl
theorem bx_set {s : List Int} {v w : Nat} {x : Int} (h : v < s.length) : bx (s.set v x) w = if v = w then x else bx s w := by
  unfold bx
  by_cases e : v = w
  · subst e
    rw [if_pos rfl, List.getD_eq_getElem?_getD, List.getElem?_set_self h]
    rfl
  · rw [if_neg e, List.getD_eq_getElem?_getD, List.getD_eq_getElem?_getD, List.getElem?_set_ne e]
def kids (p : List Nat) (v : Nat) : List Nat := under p p.length v
theorem mem_kids {p : List Nat} {v c : Nat} : c ∈ kids p v ↔ ∃ i, c = i + 1 ∧ p[i]? = some v := by
  unfold kids under
  rw [List.mem_map]
  constructor
  · rintro ⟨i, hi, rfl⟩
    rw [List.mem_filter] at hi
    exact ⟨i, rfl, by simpa using hi.2⟩
  · rintro ⟨i, rfl, e⟩
    exact ⟨i, List.mem_filter.mpr ⟨List.mem_range.mpr (List.getElem?_eq_some_iff.mp e).1, by simp [e]⟩, rfl⟩
theorem kids_gt {p : List Nat} (h : PlantOk p) {v c : Nat} (hc : c ∈ kids p v) : v < c ∧ c ≤ p.length := by
  obtain ⟨i, rfl, e⟩ := mem_kids.mp hc
  have := h.2 i v e
  have := (List.getElem?_eq_some_iff.mp e).1
  omega
theorem kids_nodup (p : List Nat) (v : Nat) : (kids p v).Nodup := by
  unfold kids under
  rw [List.nodup_iff_pairwise_ne, List.pairwise_map]
  exact (List.nodup_iff_pairwise_ne.mp (List.nodup_range.filter _)).imp fun h e => h (by simpa using e)
def best (s : List Int) : List Nat → Nat
  | [] => 0
  | k :: ks => ks.foldl (fun b o => if bx s o < bx s b then o else b) k
theorem foldl_best (s : List Int) : ∀ (ks : List Nat) (k : Nat), let b := ks.foldl (fun b o => if bx s o < bx s b then o else b) k; b ∈ k :: ks ∧ ∀ o ∈ k :: ks, bx s b ≤ bx s o
  | [], k => ⟨by simp, fun o ho => by simp at ho; rw [ho]; exact Int.le_refl _⟩
  | a :: ks, k => by
    obtain ⟨h1, h2⟩ := foldl_best s ks (if bx s a < bx s k then a else k)
    show (ks.foldl _ (if bx s a < bx s k then a else k)) ∈ _ ∧ _
    refine ⟨?_, fun o ho => ?_⟩
    · rcases List.mem_cons.mp h1 with e | e
      · rw [e]
        split <;> simp
      · exact List.mem_cons_of_mem _ (List.mem_cons_of_mem _ e)
    · have hk : bx s (if bx s a < bx s k then a else k) ≤ bx s k ∧ bx s (if bx s a < bx s k then a else k) ≤ bx s a := by
        split <;> omega
      have hm := h2 _ (List.mem_cons_self ..)
      show bx s (ks.foldl _ (if bx s a < bx s k then a else k)) ≤ bx s o
      rcases List.mem_cons.mp ho with rfl | ho
      · exact Int.le_trans hm hk.1
      · rcases List.mem_cons.mp ho with rfl | ho
        · exact Int.le_trans hm hk.2
        · exact h2 o (List.mem_cons_of_mem _ ho)
theorem best_mem {s : List Int} {ks : List Nat} (h : ks ≠ []) : best s ks ∈ ks := by
  cases ks with
  | nil => exact (h rfl).elim
  | cons k ks => exact (foldl_best s ks k).1
theorem best_le {s : List Int} {ks : List Nat} {o : Nat} (h : o ∈ ks) : bx s (best s ks) ≤ bx s o := by
  cases ks with
  | nil => cases h
  | cons k ks => exact (foldl_best s ks k).2 o h
def Inj (n : Nat) (s : List Int) : Prop := s.length = n + 1 ∧ s.Nodup
theorem inj_eq {n : Nat} {s : List Int} (h : Inj n s) {v w : Nat} (hv : v ≤ n) (hw : w ≤ n) (e : bx s v = bx s w) : v = w := by
  have h1 := bx_get (s := s) (v := v) (by rw [h.1]; omega)
  have h2 := bx_get (s := s) (v := w) (by rw [h.1]; omega)
  rw [← e] at h2
  exact (List.getElem?_inj (by rw [h.1]; omega) h.2).mp (h1.trans h2.symm)
theorem best_eq {n : Nat} {s : List Int} (h : Inj n s) {ks : List Nat} (hk : ∀ k ∈ ks, k ≤ n) {b : Nat} (hb : b ∈ ks) (hm : ∀ o ∈ ks, bx s b ≤ bx s o) : best s ks = b := by
  have hne : ks ≠ [] := fun e => by rw [e] at hb; cases hb
  have h1 := best_mem (s := s) hne
  exact inj_eq h (hk _ h1) (hk _ hb) (Int.le_antisymm (best_le hb) (hm _ h1))
def chainF (p : List Nat) (s : List Int) : Nat → Nat → List Nat
  | 0, v => [v]
  | f + 1, v => v :: (if kids p v = [] then [] else chainF p s f (best s (kids p v)))
theorem kids_last {p : List Nat} (h : PlantOk p) {v : Nat} (hv : p.length ≤ v) : kids p v = [] := by
  cases e : kids p v with
  | nil => rfl
  | cons c r =>
    have := kids_gt h (v := v) (c := c) (by rw [e]; exact List.mem_cons_self ..)
    omega
theorem chainF_fuel {p : List Nat} (h : PlantOk p) (s : List Int) : ∀ (f g v : Nat), p.length ≤ v + f → p.length ≤ v + g → chainF p s f v = chainF p s g v
  | 0, 0, v, _, _ => rfl
  | 0, g + 1, v, hf, _ => by
    show [v] = v :: _
    rw [if_pos (kids_last h (by omega))]
  | f + 1, 0, v, _, hg => by
    show v :: _ = [v]
    rw [if_pos (kids_last h (by omega))]
  | f + 1, g + 1, v, hf, hg => by
    show v :: _ = v :: _
    by_cases e : kids p v = []
    · rw [if_pos e, if_pos e]
    · rw [if_neg e, if_neg e]
      have := kids_gt h (best_mem (s := s) e)
      rw [chainF_fuel h s f g _ (by omega) (by omega)]
def chain (p : List Nat) (s : List Int) (v : Nat) : List Nat := chainF p s p.length v
theorem chain_nil {p : List Nat} (h : PlantOk p) {s : List Int} {v : Nat} (e : kids p v = []) : chain p s v = [v] := by
  unfold chain
  cases p.length with
  | zero => rfl
  | succ n =>
    show v :: _ = [v]
    rw [if_pos e]
theorem chain_cons {p : List Nat} (h : PlantOk p) {s : List Int} {v : Nat} (e : kids p v ≠ []) : chain p s v = v :: chain p s (best s (kids p v)) := by
  unfold chain
  have hb := kids_gt h (best_mem (s := s) e)
  obtain ⟨n, hn⟩ : ∃ n, p.length = n + 1 := ⟨p.length - 1, by omega⟩
  rw [hn]
  show v :: _ = v :: _
  rw [if_neg e, chainF_fuel h s n (n + 1) _ (by omega) (by omega)]
theorem chain_head (p : List Nat) (s : List Int) (v : Nat) : ∃ r, chain p s v = v :: r := by
  unfold chain
  cases p.length with
  | zero => exact ⟨[], rfl⟩
  | succ n => exact ⟨_, rfl⟩
theorem chain_self (p : List Nat) (s : List Int) (v : Nat) : v ∈ chain p s v := by
  obtain ⟨r, e⟩ := chain_head p s v
  rw [e]
  exact List.mem_cons_self ..
theorem chain_ind {p : List Nat} (h : PlantOk p) (s : List Int) (P : Nat → Prop) (h0 : ∀ v, v ≤ p.length → kids p v = [] → P v) (h1 : ∀ v, v ≤ p.length → kids p v ≠ [] → P (best s (kids p v)) → P v) : ∀ v, v ≤ p.length → P v := by
  have go : ∀ k v, v ≤ p.length → p.length - v ≤ k → P v := by
    intro k
    induction k with
    | zero => exact fun v hv hk => h0 v hv (kids_last h (by omega))
    | succ k ih =>
      intro v hv hk
      by_cases e : kids p v = []
      · exact h0 v hv e
      · have := kids_gt h (best_mem (s := s) e)
        exact h1 v hv e (ih _ this.2 (by omega))
  exact fun v hv => go _ v hv (Nat.le_refl _)
theorem chain_ge {p : List Nat} (h : PlantOk p) (s : List Int) : ∀ v, v ≤ p.length → ∀ w ∈ chain p s v, v ≤ w ∧ w ≤ p.length := by
  refine chain_ind h s _ (fun v hv e w hw => ?_) (fun v hv e ih w hw => ?_)
  · rw [chain_nil h e] at hw
    simp at hw
    omega
  · rw [chain_cons h e] at hw
    have := kids_gt h (best_mem (s := s) e)
    rcases List.mem_cons.mp hw with rfl | hw
    · omega
    · have := ih w hw
      omega
theorem chain_len {p : List Nat} (h : PlantOk p) (s : List Int) : ∀ v, v ≤ p.length → (chain p s v).length + v ≤ p.length + 1 := by
  refine chain_ind h s _ (fun v hv e => ?_) (fun v hv e ih => ?_)
  · rw [chain_nil h e]
    simp
    omega
  · rw [chain_cons h e, List.length_cons]
    have := kids_gt h (best_mem (s := s) e)
    omega
def moves (s : List Int) (m : Int) : List Nat → List Int → List Int
  | [], l => l
  | [a], l => l.set a m
  | a :: b :: r, l => moves s m (b :: r) (l.set a (bx s b))
def mx : List Int → Int
  | [] => 0
  | a :: l => l.foldl max a
theorem mx_le {s : List Int} {x : Int} (h : x ∈ s) : x ≤ mx s := by
  cases s with
  | nil => cases h
  | cons a l => exact (foldl_max l a).2 x h
theorem mx_mem {s : List Int} (h : s ≠ []) : mx s ∈ s := by
  cases s with
  | nil => exact (h rfl).elim
  | cons a l => exact (foldl_max l a).1
theorem mx_eq {s : List Int} {m : Int} (h : m ∈ s) (h2 : ∀ y ∈ s, y ≤ m) : mx s = m := Int.le_antisymm (h2 _ (mx_mem fun e => by rw [e] at h; cases h)) (mx_le h)
def nxt (p : List Nat) (s : List Int) (v : Nat) : List Int := moves s (mx s + 1) (chain p s v) s
theorem moves_len (s : List Int) (m : Int) : ∀ (ch : List Nat) (l : List Int), (moves s m ch l).length = l.length
  | [], l => rfl
  | [a], l => List.length_set ..
  | a :: b :: r, l => by
    show (moves s m (b :: r) (l.set a (bx s b))).length = _
    rw [moves_len s m (b :: r), List.length_set]
theorem moves_other (s : List Int) (m : Int) : ∀ (ch : List Nat) (l : List Int) (w : Nat), w ∉ ch → (moves s m ch l)[w]? = l[w]?
  | [], l, w, _ => rfl
  | [a], l, w, h => by
    show (l.set a m)[w]? = _
    rw [List.getElem?_set_ne (fun e => h (by simp [e]))]
  | a :: b :: r, l, w, h => by
    show (moves s m (b :: r) (l.set a (bx s b)))[w]? = _
    rw [moves_other s m (b :: r) _ w (fun z => h (List.mem_cons_of_mem _ z)), List.getElem?_set_ne (fun e => h (by simp [e]))]
theorem nxt_len (p : List Nat) (s : List Int) (v : Nat) : (nxt p s v).length = s.length := moves_len _ _ _ _
theorem nxt_other {p : List Nat} {s : List Int} {v w : Nat} (h : w ∉ chain p s v) : bx (nxt p s v) w = bx s w := by
  unfold bx nxt
  rw [List.getD_eq_getElem?_getD, List.getD_eq_getElem?_getD, moves_other _ _ _ _ _ h]
theorem moves_at {p : List Nat} (h : PlantOk p) (s : List Int) (m : Int) : ∀ v, v ≤ p.length → ∀ l : List Int, l.length = p.length + 1 → ∀ w ∈ chain p s v, bx (moves s m (chain p s v) l) w = if kids p w = [] then m else bx s (best s (kids p w)) := by
  refine chain_ind h s _ (fun v hv e l hl w hw => ?_) (fun v hv e ih l hl w hw => ?_)
  · rw [chain_nil h e] at hw ⊢
    simp at hw
    subst hw
    rw [if_pos e]
    show bx (l.set w m) w = m
    rw [bx_set (by omega), if_pos rfl]
  · have hc := chain_cons h (s := s) e
    obtain ⟨r, er⟩ := chain_head p s (best s (kids p v))
    have em : moves s m (chain p s v) l = moves s m (chain p s (best s (kids p v))) (l.set v (bx s (best s (kids p v)))) := by
      rw [hc, er]
      rfl
    rw [em]
    have hb := kids_gt h (best_mem (s := s) e)
    rw [hc] at hw
    rcases List.mem_cons.mp hw with rfl | hw
    · rw [if_neg e]
      have hn : w ∉ chain p s (best s (kids p w)) := fun z => by have := chain_ge h s _ hb.2 w z; omega
      unfold bx
      rw [List.getD_eq_getElem?_getD, moves_other _ _ _ _ _ hn, List.getElem?_set_self (by omega)]
      rfl
    · exact ih _ (by simpa using hl) w hw
theorem nxt_at {p : List Nat} (h : PlantOk p) {s : List Int} (hl : s.length = p.length + 1) {v w : Nat} (hv : v ≤ p.length) (hw : w ∈ chain p s v) : bx (nxt p s v) w = if kids p w = [] then mx s + 1 else bx s (best s (kids p w)) := moves_at h s _ v hv s hl w hw
end Th
namespace FC
open PySem PySem.Spec L2 Pt Sh St Th
def potO (n : Nat) (x : List PyData) : Prop := ∃ a b c : Int, x = [.int a, .int b, .int c] ∧ 0 ≤ a ∧ 0 ≤ b ∧ b < 10 ^ 40 ∧ 0 ≤ c ∧ c ≤ n
theorem potO.mono {n m : Nat} {x : List PyData} (h : potO n x) (hm : n ≤ m) : potO m x := by
  obtain ⟨a, b, c, e, h1, h2, h3, h4, h5⟩ := h
  exact ⟨a, b, c, e, h1, h2, h3, h4, by omega⟩
def G__law_pot : WF := fun ds R => ∃ ns k, ds = [.scr ns, .fz (.int (k : Nat))] ∧ k ≤ 100 ∧ ∀ x t, potO 0 x → R (.lf x) (.scr ns :: t)
theorem sp__law_pot : ∀ ds R, G__law_pot ds R → gOf 2 3 W__law_pot ds R := by
  rintro _ R ⟨ns, k, rfl, hk, h⟩
  refine ⟨rfl, ?_⟩
  refine seq_to (fun ρ => ρ = [.scr ns, .fz (.int (k : Nat)), .fz (.int 0)]) (fun N hN => ?_) fun ρ hρ => ?_
  · simp
    exact hN _ rfl
  subst hρ
  refine seq_to (fun ρ => ∃ c : Int, ρ = [.scr ns, .fz (.int (k : Nat)), .fz (.int c)]) (fun N hN => ?_) fun ρ ⟨c, hρ⟩ => ?_
  · simp
    refine br_mk (fun hb => ?_) (fun hb => hN _ ⟨0, rfl⟩)
    simp at hb
    refine ⟨.int ns[k], at_nat (by simp [hb]), hN _ ⟨_, rfl⟩⟩
  subst hρ
  simp
  refine ⟨by unfold CPowA; decide, by unfold CPowA; decide, cmul_ok (by decide) (by decide) (by omega) (by omega), by decide, h _ _ ⟨_, _, _, rfl, by omega, by omega, by omega, by omega, by omega⟩⟩
def G__law_draw : WF := fun ds R => ∃ n x m, ds = [.lf x, .fz (.int m)] ∧ potO n x ∧ n ≤ 1000000000 ∧ 0 < m ∧ m < 10 ^ 40 ∧ ∀ r x', 0 ≤ r → r < m → potO (n + 1) x' → ∀ t, R (.fz (.int r)) (.lf x' :: t)
theorem sp__law_draw : ∀ ds R, G__law_draw ds R → gOf 2 4 W__law_draw ds R := by
  rintro _ R ⟨n, x, m, rfl, ⟨a, b, c, rfl, ha, hb, hb2, hc, hcn⟩, hn, hm, hm2, h⟩
  refine ⟨rfl, ?_⟩
  simp [W__law_draw, atI, ixN]
  refine br_mk (fun h1 => ?_) (fun h1 => ?_)
  · exact ⟨hm, cdiv_ok hm (by omega), h _ _ (Int.emod_nonneg _ (by omega)) (Int.emod_lt_of_pos _ hm) ⟨_, _, _, rfl, Int.ediv_nonneg ha (by omega), hb, hb2, hc, by omega⟩ _⟩
  · generalize hq : (b + 122949829 * (c + 1)) ^ 3 = q
    have e1 := Int.emod_nonneg q (show (100000000000000000000000000000000000000037 : Int) ≠ 0 by decide)
    have e2 := Int.emod_lt_of_pos q (show (0 : Int) < 100000000000000000000000000000000000000037 by decide)
    have c1 : CPowA (b + 122949829 * (c + 1)) 3 := cpow_ok (by omega) (by decide) (by decide)
    have c2 : CPowA (q % 100000000000000000000000000000000000000037 + 32452867 * (c + 1)) 3 := cpow_ok (by omega) (by decide) (by decide)
    exact ⟨cmul_ok (by decide) (by decide) (by omega) (by omega), c1, by unfold CPowA; decide, cmul_ok (by decide) (by decide) (by omega) (by omega), c2, by unfold CPowA; decide, cdiv_ok (by decide) (by decide), hm,
      h _ _ (Int.emod_nonneg _ (by omega)) (Int.emod_lt_of_pos _ hm) ⟨_, _, _, rfl, ha, hb, hb2, by omega, by omega⟩ _⟩
def G__law_mixed : WF := fun ds R => ∃ n x l, ds = [.lf x, .fz (.list l)] ∧ potO n x ∧ n ≤ 100000000 ∧ l.length ≤ 1000 ∧ ∀ l' x', l'.Perm l → potO (n + 1000) x' → ∀ t, R (.lf l') (.lf x' :: t)
theorem perm_pop {l : List PyData} {i : Nat} {f : PyData} (h : l[i]? = some f) : (f :: l.eraseIdx i).Perm l := by
  induction l generalizing i with
  | nil => simp at h
  | cons a l ih =>
    cases i with
    | zero =>
      simp at h
      subst h
      exact List.Perm.refl _
    | succ i =>
      have := ih (i := i) (by simpa using h)
      exact (List.Perm.swap a f _).trans (this.cons a)
theorem sp__law_mixed : ∀ ds R, G__law_mixed ds R → gOf 2 4 (W__law_mixed G__law_draw) ds R := by
  rintro _ R ⟨n, x, l, rfl, hx, hn, hl, h⟩
  refine ⟨rfl, ?_⟩
  refine seq_to (fun ρ => ρ = [.lf x, .fz (.list l), .lf l, .hid]) (fun N hN => ?_) fun ρ hρ => ?_
  · simp
    exact hN _ rfl
  subst hρ
  simp
  refine ⟨⟨by omega, by omega⟩, by unfold szMax; omega, ?_⟩
  refine lc_go _ (fun i acc ρ => ∃ x' left out v_k, ρ = [.lf x', .fz (.list l), .lf left, v_k] ∧ potO (n + i) x' ∧ acc = out.map O.fz ∧ (out ++ left).Perm l ∧ out.length = i) _ _ (fun i d e acc ρ ⟨x', left, out, v_k, hρ, hx', ha, hp, hlen⟩ K1 K0 k1 k0 => ?_) ⟨x, l, [], _, rfl, hx, rfl, List.Perm.refl _, rfl⟩ fun acc ρ ⟨x', left, out, v_k, hρ, hx', ha, hp, hlen⟩ => ?_
  · obtain ⟨hi, rfl⟩ := rangeL_at e
    subst hρ
    have hll := hp.length_eq
    rw [List.length_append] at hll
    simp [G__law_draw, and_assoc]
    refine ⟨n + i, hx', by omega, by omega, by omega, fun r x2 hr0 hr1 hx2 => ?_⟩
    have hr : r.toNat < left.length := by omega
    refine ⟨hr0, by omega, left[r.toNat], List.getElem?_eq_getElem hr, k1 _ _ ⟨x2, left.eraseIdx r.toNat, out ++ [left[r.toNat]], _, rfl, hx2, by simp [ha], ?_, by simp [hlen]⟩⟩
    have := perm_pop (List.getElem?_eq_getElem hr)
    rw [List.append_assoc]
    exact (List.Perm.append_left out this).trans hp
  · subst hρ ha
    have hll := hp.length_eq
    rw [List.length_append] at hll
    simp at hlen
    have h0 : left = [] := List.eq_nil_of_length_eq_zero (by omega)
    subst h0
    rw [x_toLf2]
    exact h out x' (by simpa using hp) (hx'.mono (by simp; omega)) _
def G__law_plant : WF := fun ds R => ∃ n x m, ds = [.lf x, .fz (.int (m : Nat))] ∧ potO n x ∧ n ≤ 100000000 ∧ 1 ≤ m ∧ m ≤ 40 ∧ ∀ p x', PlantOk p → p.length + 1 ≤ m → potO (n + 1000) x' → ∀ t, R (.fz (tupN p)) (.lf x' :: t)
theorem sp__law_plant : ∀ ds R, G__law_plant ds R → gOf 2 7 (W__law_plant G__law_draw) ds R := by
  rintro _ R ⟨n, x, m, rfl, hx, hn, hm1, hm2, h⟩
  refine ⟨rfl, ?_⟩
  refine seq_to (fun ρ => ∃ x' many, potO (n + 2) x' ∧ 1 ≤ many ∧ many ≤ m ∧ ρ = [.lf x', .fz (.int (m : Nat)), .fz (.int (many : Nat)), .hid, .hid, .hid, .hid]) (fun N hN => ?_) fun ρ ⟨x1, many, hx1, h1, h2, hρ⟩ => ?_
  · simp [G__law_draw, and_assoc]
    refine ⟨by decide, n, hx, by omega, fun r x1 hr0 hr1 hx1 => ?_⟩
    obtain ⟨b, hb, e⟩ : ∃ b : Nat, (1 ≤ b ∧ b ≤ 40) ∧ atI [PyData.int 5, PyData.int m, PyData.int m] r = some (.int (b : Nat)) := by
      have three : r = 0 ∨ r = 1 ∨ r = 2 := by omega
      rcases three with rfl | rfl | rfl
      · exact ⟨5, by omega, rfl⟩
      · exact ⟨m, ⟨hm1, hm2⟩, rfl⟩
      · exact ⟨m, ⟨hm1, hm2⟩, rfl⟩
    refine ⟨_, e, n + 1, _, rfl, hx1, by omega, by omega, by omega, fun q x2 hq0 hq1 hx2 => ?_⟩
    have e2 : min (m : Int) (1 + q) = ((min m (1 + q.toNat) : Nat) : Int) := by omega
    rw [e2]
    exact hN _ ⟨x2, _, hx2, by omega, by omega, rfl⟩
  subst hρ
  refine seq_to (fun ρ => ∃ x' w, potO (n + 3) x' ∧ 0 ≤ w ∧ w < 6 ∧ ρ = [.lf x', .fz (.int (m : Nat)), .fz (.int (many : Nat)), .fz (.int w), .lf [], .hid, .hid]) (fun N hN => ?_) fun ρ ⟨x2, w, hx2, hw0, hw1, hρ⟩ => ?_
  · simp [G__law_draw, and_assoc]
    exact ⟨n + 2, hx1, by omega, fun r x2 hr0 hr1 hx2 => hN _ ⟨x2, r, hx2, hr0, hr1, rfl⟩⟩
  subst hρ
  refine seq_to (fun ρ => ∃ x' p v_k v_low, potO (n + 1000) x' ∧ PlantOk p ∧ p.length + 1 = many ∧ ρ = [.lf x', .fz (.int (m : Nat)), .fz (.int (many : Nat)), .fz (.int w), .lf (nI p), v_k, v_low]) (fun N hN => ?_) fun ρ ⟨x3, p, v_k, v_low, hx3, hp, hl, hρ⟩ => ?_
  · simp
    refine ⟨⟨by omega, by omega⟩, ?_⟩
    refine for_go _ (fun i ρ => ∃ x3 p v_k v_low, ρ = [.lf x3, .fz (.int (m : Nat)), .fz (.int (many : Nat)), .fz (.int w), .lf (nI p), v_k, v_low] ∧ potO (n + 3 + i) x3 ∧ p.length = i ∧ ∀ (j y : Nat), p[j]? = some y → y ≤ j) _ (fun i d e ρ ⟨x3, p, v_k, v_low, hρ, hb3, hl, hp⟩ N2 hN2 => ?_) ⟨x2, [], _, _, rfl, hx2, rfl, fun j y e => by simp at e⟩ fun ρ ⟨x3, p, v_k, v_low, hρ, hb3, hl, hp⟩ => ?_
    · obtain ⟨hi, rfl⟩ := rangeL_at e
      subst hρ
      have low : ∃ y : Nat, y ≤ i ∧ atI [PyData.int 0, PyData.int i, PyData.int 0, PyData.int (max 0 ((i : Int) - 2)), PyData.int 0, PyData.int ((i : Int) / 2)] w = some (.int (y : Nat)) ∧ (∃ z : Int, 0 < z ∧ y + z ≤ i + 1 ∧ atI [PyData.int ((i : Int) + 1), PyData.int 1, PyData.int 1, PyData.int ((i : Int) + 1 - y), PyData.int ((i : Int) + 1), PyData.int ((i : Int) + 1 - y)] w = some (.int z)) := by
        have six : w = 0 ∨ w = 1 ∨ w = 2 ∨ w = 3 ∨ w = 4 ∨ w = 5 := by omega
        rcases six with rfl | rfl | rfl | rfl | rfl | rfl
        · exact ⟨0, by omega, rfl, _, by omega, by omega, rfl⟩
        · exact ⟨i, by omega, rfl, 1, by omega, by omega, rfl⟩
        · exact ⟨0, by omega, rfl, 1, by omega, by omega, rfl⟩
        · refine ⟨(max 0 ((i : Int) - 2)).toNat, by omega, by rw [Int.toNat_of_nonneg (by omega)]; rfl, _, ?_, ?_, rfl⟩ <;> omega
        · exact ⟨0, by omega, rfl, _, by omega, by omega, rfl⟩
        · refine ⟨((i : Int) / 2).toNat, by omega, by rw [Int.toNat_of_nonneg (by omega)]; rfl, _, ?_, ?_, rfl⟩ <;> omega
      obtain ⟨y, hy, ey, z, hz0, hz1, ez⟩ := low
      simp [G__law_draw, and_assoc]
      refine ⟨cdiv_ok (by decide) (by decide), by decide, _, ey, ?_⟩
      simp
      refine ⟨by decide, _, ez, _, _, rfl, hb3, by omega, hz0, by omega, fun r x4 hr0 hr1 hx4 => ⟨?_, hN2 _ ⟨x4, p ++ [y + r.toNat], .fz (.int (i : Nat)), .fz (.int (y : Nat)), ?_, hx4, by simp [hl], fun j q eq => ?_⟩⟩⟩
      · unfold szMax; omega
      · have : ((y + r.toNat : Nat) : Int) = (y : Int) + r := by omega
        simp [nI_append, nI, this]
      · by_cases hj : j < p.length
        · rw [List.getElem?_append_left hj] at eq
          exact hp j q eq
        · rw [List.getElem?_append_right (by omega)] at eq
          have z1 := (List.getElem?_eq_some_iff.mp eq).1
          have e2 : j - p.length = 0 := by simp at z1; omega
          rw [e2] at eq
          cases eq
          omega
    · subst hρ
      simp at hl hb3
      exact hN _ ⟨x3, p, _, _, hb3.mono (by omega), ⟨by omega, hp⟩, by omega, rfl⟩
  subst hρ
  simp
  exact h p x3 hp (by omega) hx3 _
def gv (p : List Nat) : List PyData := (List.range (p.length + 1)).map fun v => .list (nI (kids p v))
theorem gv_get {p : List Nat} {v : Nat} (h : v ≤ p.length) : (gv p)[v]? = some (.list (nI (kids p v))) := by
  unfold gv
  rw [List.getElem?_map, List.getElem?_range (by omega)]
  rfl
def G__law_givers : WF := fun ds R => ∃ p, ds = [.fz (tupN p)] ∧ PlantOk p ∧ ∀ ρ, R (.lf (gv p)) ρ
theorem sp__law_givers : ∀ ds R, G__law_givers ds R → gOf 1 3 W__law_givers ds R := by
  rintro _ R ⟨p, rfl, hp, h⟩
  refine ⟨rfl, ?_⟩
  have hpl := hp.1
  simp [W__law_givers, tupN]
  refine ⟨⟨by omega, by omega⟩, by unfold szMax; omega, ?_⟩
  refine lc_eq (gv p) (fun ρ => ∃ v_here v_k, ρ = [.fz (tupN p), v_here, v_k]) (by simp [gv]) (fun i d y e ey ρ ⟨v_here, v_k, hρ⟩ K1 K0 k1 => ?_) ⟨_, _, rfl⟩ fun ρ ⟨v_here, v_k, hρ⟩ => ?_
  · obtain ⟨hi, rfl⟩ := rangeL_at e
    subst hρ
    have hi : i ≤ p.length := by omega
    rw [gv_get hi] at ey
    cases ey
    simp [tupN]
    refine ⟨⟨by omega, by omega⟩, by unfold szMax; omega, ?_⟩
    refine lc_go _ (fun k acc ρ => (∃ v_k, ρ = [.fz (tupN p), .fz (.int (i : Nat)), v_k]) ∧ acc = (nI (under p k i)).map O.fz) _ _ (fun k d e acc ρ ⟨⟨v_k, hρ⟩, ha⟩ L1 L0 l1 l0 => ?_) ⟨⟨_, rfl⟩, rfl⟩ fun acc ρ ⟨⟨v_k, hρ⟩, ha⟩ => ?_
    · obtain ⟨hk, rfl⟩ := rangeL_at e
      subst hρ
      have ek : p[k]? = some p[k] := List.getElem?_eq_getElem (by omega)
      simp [tupN]
      refine ⟨.int (p[k] : Nat), at_nat (by simp [ek]), ?_⟩
      simp
      refine br_mk (fun hb => ?_) fun hb => ?_
      · have hq : p[k] = i := by simp at hb; omega
        refine l1 _ _ ⟨⟨_, rfl⟩, ?_⟩
        rw [ha, under_succ, ek, hq]
        simp [nI_append]
      · have hq : p[k] ≠ i := by simp at hb; omega
        refine l0 _ ⟨⟨_, rfl⟩, ?_⟩
        rw [ha, under_succ, ek]
        simp [nI_append, hq]
    · subst hρ
      simp at ha
      rw [ha, x_toLf2]
      simp
      exact k1 _ ⟨_, _, rfl⟩
  · subst hρ
    rw [x_toLf2]
    exact h _
theorem ints_flat (s : List Int) : (s.map PyData.int).all flatD = true := by
  rw [List.all_map]
  exact List.all_eq_true.mpr fun _ _ => rfl
theorem shaped_ks {p : List Nat} (hp : PlantOk p) (v : Nat) : SeqAt.shaped (.list (nI (kids p v))) = true := by
  have := nI_okL (l := kids p v) (fun x hx => by have := kids_gt hp hx; have := hp.1; omega) (by have := under_len (p := p) (i := p.length) (s := v); have := hp.1; unfold kids; omega)
  unfold SeqAt.shaped
  rw [canLay_nI, Bool.true_and]
  exact decide_eq_true (by have := this.2; omega)
theorem ks_eq (p : List Nat) (v : Nat) : PyData.eqv (.list (nI (kids p v))) (.list []) = decide (kids p v = []) := by
  cases h : kids p v with
  | nil => rfl
  | cons a l => rfl
def G__law_day : WF := fun ds R => ∃ p s b, ds = [.fz (.list (gv p)), .tn (s.map PyData.int)] ∧ PlantOk p ∧ SOk p.length b s ∧ b ≤ 190 ∧ ∀ ρ, R (.ot [.fz (.list (nI (chain p s 0))), .tn ((nxt p s 0).map PyData.int)]) ρ
theorem sp__law_day : ∀ ds R, G__law_day ds R → gOf 2 7 W__law_day ds R := by
  rintro _ R ⟨p, s, b, rfl, hp, hs, hb, h⟩
  refine ⟨rfl, ?_⟩
  have hpl := hp.1
  have hsl := hs.1
  have hinj : Inj p.length s := ⟨hs.1, hs.2.1⟩
  refine seq_to (fun ρ => ρ = [.fz (.list (gv p)), .tn (s.map PyData.int), .fz (.int (0 : Nat)), .lf (nI [0]), .lf (s.map PyData.int), .hid, .hid]) (fun N hN => ?_) fun ρ hρ => ?_
  · simp
    exact ⟨by decide, hN _ rfl⟩
  subst hρ
  refine seq_to (fun ρ => ∃ (here : Nat) (pre : List Nat) (later : List Int) (v_oldest v_other : O), kids p here = [] ∧ here ≤ p.length ∧ chain p s 0 = pre ++ [here] ∧ later.length = p.length + 1 ∧ nxt p s 0 = later.set here (mx s + 1) ∧ ρ = [.fz (.list (gv p)), .tn (s.map PyData.int), .fz (.int (here : Nat)), .lf (nI (pre ++ [here])), .lf (later.map PyData.int), v_oldest, v_other]) (fun N hN => ?_) fun ρ ⟨here, pre, later, v_oldest, v_other, hk, hh, hch, hll, hnx, hρ⟩ => ?_
  · refine while_at (fun m ρ => ∃ (here : Nat) (pre : List Nat) (later : List Int) (v_oldest v_other : O), here ≤ p.length ∧ p.length ≤ here + m ∧ chain p s 0 = pre ++ chain p s here ∧ later.length = p.length + 1 ∧ nxt p s 0 = moves s (mx s + 1) (chain p s here) later ∧ ρ = [.fz (.list (gv p)), .tn (s.map PyData.int), .fz (.int (here : Nat)), .lf (nI (pre ++ [here])), .lf (later.map PyData.int), v_oldest, v_other]) p.length _ (fun m ρ ⟨here, pre, later, v_oldest, v_other, hh, hm, hch, hll, hnx, hρ⟩ N2 hN2 => ?_) ⟨0, [], s, _, _, by omega, by omega, rfl, hs.1, rfl, rfl⟩
    subst hρ
    simp
    refine ⟨_, at_nat (gv_get hh), ?_⟩
    refine x_oEqG (shaped_ks hp here) rfl ?_
    simp only [x_toP1, x_toP2, ks_eq]
    simp
    by_cases hk : kids p here = []
    · simp [hk]
      rw [chain_nil hp hk] at hch hnx
      exact hN _ ⟨here, pre, later, _, _, hk, hh, hch, hll, hnx, rfl⟩
    · simp [hk]
      refine ⟨_, at_nat (gv_get hh), ?_⟩
      simp
      have hkl : (kids p here).length ≤ p.length := under_len
      refine ⟨by unfold szMax; omega, ?_⟩
      refine lc_eq (((kids p here).map (bx s)).map PyData.int) (fun ρ => ∃ v_oldest v_other, ρ = [.fz (.list (gv p)), .tn (s.map PyData.int), .fz (.int (here : Nat)), .lf (nI (pre ++ [here])), .lf (later.map PyData.int), v_oldest, v_other]) (by simp) (fun i d y e ey ρ ⟨v_oldest, v_other, hρ⟩ K1 K0 k1 => ?_) ⟨_, _, rfl⟩ fun ρ ⟨v_oldest, v_other, hρ⟩ => ?_
      · subst hρ
        rw [nI_get] at e
        cases ek : (kids p here)[i]? with
        | none => rw [ek] at e; cases e
        | some c =>
          rw [ek] at e
          cases e
          simp [ek] at ey
          subst ey
          have hc := kids_gt hp (List.mem_of_getElem? ek)
          simp
          exact ⟨_, at_nat (by rw [List.getElem?_map, bx_get (by omega)]; rfl), k1 _ ⟨_, _, rfl⟩⟩
      · subst hρ
        rw [x_toLf2]
        have hbm := best_mem (s := s) hk
        have hbk := kids_gt hp hbm
        refine x_minI ((kids p here).map (bx s)) rfl (by simpa using hk) fun m hm1 hm2 => ?_
        have hmb : m = bx s (best s (kids p here)) := by
          obtain ⟨c, hc, rfl⟩ := List.mem_map.mp hm1
          exact Int.le_antisymm (hm2 _ (List.mem_map_of_mem hbm)) (best_le hc)
        subst hmb
        simp
        refine ⟨here, ix_nat (by omega), ?_⟩
        have hlen : pre.length + 1 < szMax := by
          have h3 := chain_len hp s 0 (by omega)
          rw [hch] at h3
          obtain ⟨r, er⟩ := chain_head p s here
          rw [er] at h3
          simp at h3
          unfold szMax
          omega
        refine ⟨best s (kids p here), .int (bx s (best s (kids p here))), rfl, ints_flat s, by rw [List.getElem?_map, bx_get (by omega)]; rfl, by simp [PyData.eqv], fun m z' hm hx => ?_, hlen, ?_⟩
        · have hml : m < s.length := by omega
          rw [List.getElem?_map, bx_get hml] at hx
          cases hx
          show decide (bx s m = bx s (best s (kids p here))) = false
          refine decide_eq_false fun e => ?_
          have := inj_eq hinj (by omega) hbk.2 e
          omega
        · refine hN2 (m - 1) _ (by omega) ⟨best s (kids p here), pre ++ [here], later.set here (bx s (best s (kids p here))), .fz (.int (bx s (best s (kids p here)))), .hid, hbk.2, by omega, ?_, by simpa using hll, ?_, ?_⟩
          · rw [hch, chain_cons hp hk]
            simp
          · rw [hnx, chain_cons hp hk]
            obtain ⟨r, er⟩ := chain_head p s (best s (kids p here))
            rw [er]
            rfl
          · simp [nI_append]
  subst hρ
  simp
  refine x_maxI s rfl (fun e => by rw [e] at hsl; cases hsl) fun m hm1 hm2 => ?_
  have hm := mx_eq hm1 hm2
  simp
  refine ⟨here, ix_nat (by omega), by decide, ?_⟩
  have := h [.fz (.list (gv p)), .tn (s.map PyData.int), .fz (.int (here : Nat)), .hid, .fz (.list ((List.map PyData.int later).set here (.int (m + 1)))), v_oldest, v_other]
  rw [hch, hnx, hm, List.map_set] at this
  exact this
end FC
namespace Pt
open PySem PySem.Spec L2
def noDl : O → Bool
  | .fz _ => true
  | .lf _ => true
  | .df _ => true
  | .tn _ => true
  | .scr _ => true
  | .hid => true
  | _ => false
section
variable {K : PySem.W.Frag} {Z : Ent} {B B' H H' : Hp} {σ : St} {ρ : En} {fp fp' : List Addr}
def Subz (B B' : Hp) : Prop := ∀ a o, B a = some o → (∀ t u, o ≠ .frz t (.dK u)) → B' a = some o
theorem Subz.sqT (h : Subz B B') {a : Addr} {vs : List V} (x : SqT K B a vs) : SqT K B' a vs := by
  rcases x with (x | ⟨o, x⟩) | x
  · exact .inl (.inl (h _ _ x fun _ _ z => nomatch z))
  · exact .inl (.inr ⟨o, h _ _ x fun _ _ z => nomatch z⟩)
  · exact .inr x
theorem Subz.sqL (h : Subz B B') {a : Addr} {vs : List V} (x : SqL K B a vs) : SqL K B' a vs := by
  rcases x with (x | ⟨o, x⟩) | x
  · exact .inl (.inl (h _ _ x fun _ _ z => nomatch z))
  · exact .inl (.inr ⟨o, h _ _ x fun _ _ z => nomatch z⟩)
  · exact .inr x
theorem ND.monoz (h : Subz B B') {a : Addr} (d : ND K B a) : ND K B' a := by
  rcases d with ⟨o, vs, e, z⟩ | z
  · exact .inl ⟨o, vs, h _ _ e (fun _ _ z => nomatch z), z⟩
  · exact .inr z
mutual
theorem RF.monoz (h : Subz B B') : ∀ {d : PyData} {v : V}, RF K B v d → RF K B' v d
  | _, _, .non => .non
  | _, _, .bl b => .bl b
  | _, _, .int i => .int i
  | _, _, .str x => .str x
  | _, _, .lst e r => .lst (h _ _ e fun _ _ z => nomatch z) (RFs.monoz h r)
  | _, _, .tup e r => .tup (h.sqT e) (RFs.monoz h r)
  | _, _, .dic e r => .dic (h _ _ e fun _ _ z => nomatch z) (RFd.monoz h r)
  | _, _, .lm e d r => .lm (h _ _ e fun _ _ z => nomatch z) (fun i z => by
    obtain ⟨b, e1, e2⟩ := d i z
    exact ⟨b, e1, e2.monoz h⟩) (RFs.monoz h r)
theorem RFs.monoz (h : Subz B B') : ∀ {ds : List PyData} {vs : List V}, RFs K B vs ds → RFs K B' vs ds
  | _, _, .nil => .nil
  | _, _, .cons r s => .cons (RF.monoz h r) (RFs.monoz h s)
theorem RFd.monoz (h : Subz B B') : ∀ {ds : List (PyData × PyData)} {vs : List (Key × V)}, RFd K B vs ds → RFd K B' vs ds
  | _, _, .nil => .nil
  | _, _, .cons r s => .cons (RF.monoz h r) (RFd.monoz h s)
end
theorem RO.nextz (h : Subz B B') {x : O} {v : V} {fp : List Addr} (r : RO K B H v x fp) (hn : noDl x = true) (k : ∀ a ∈ fp, ∀ o, H a = some o → NT o → H' a = some o) : RO K B' H' v x fp := by
  cases r with
  | fz r => exact .fz (r.monoz h)
  | hid => exact .hid
  | tn e d r => exact .tn (h.sqT e) (d.monoz h) (r.monoz h)
  | scr e => exact .scr (h.sqL e)
  | lf e r => exact .lf (k _ (List.mem_cons_self ..) _ e pl_lst.1) (r.monoz h)
  | df e q r => exact .df (k _ (List.mem_cons_self ..) _ e pl_dK.1) q (r.monoz h)
  | dl _ _ _ => cases hn
  | dt _ _ _ => cases hn
  | dq _ _ _ => cases hn
  | dn _ _ _ _ => cases hn
  | dz _ _ _ _ => cases hn
  | ol _ _ => cases hn
  | ot _ _ => cases hn
  | od _ _ _ => cases hn
  | oi _ _ _ _ => cases hn
  | exn _ _ _ => cases hn
theorem ROs.nextz (h : Subz B B') : ∀ {xs : List O} {vs : List V} {fp : List Addr}, ROs K B H vs xs fp → (∀ x ∈ xs, noDl x = true) → (∀ a ∈ fp, ∀ o, H a = some o → NT o → H' a = some o) → ROs K B' H' vs xs fp
  | _, _, _, .nil, _, _ => .nil
  | _, _, _, .cons r s, hn, k => .cons (RO.nextz h r (hn _ (List.mem_cons_self ..)) fun a ha => k a (List.mem_append_left _ ha)) (ROs.nextz h s (fun x hx => hn x (List.mem_cons_of_mem _ hx)) fun a ha => k a (List.mem_append_right _ ha))
def kPs (kvs : List (Key × PyData)) : PyData := .dict (kvs.map fun p => (kD p.1, p.2))
def wLock (i : Nat) (w : WE) : WE := fun ρ R => ∃ ds, nth ρ i = .df ds ∧ w (ρ.set i (.dl ds)) fun d ρ1 => noDl d = true ∧ (∀ x ∈ ρ1.set i .hid, noDl x = true) ∧ R d (ρ1.set i (.fz (kPs ds)))
end
def keyI (kvs : List (Key × PyData)) : List PyData := kvs.map fun p => kD p.1
def wiK (i : Nat) : WI := fun ρ R => ∃ ds, nth ρ i = .dl ds ∧ R (keyI ds) ρ
section
variable {K : PySem.W.Frag} {B : Hp}
theorem rf_key : ∀ (k : Key), RF K B (kV k) (kD k)
  | .inl i => .int i
  | .inr x => .str x
theorem ItD.keys {a : Addr} {o : Obj} {kvs : List (Key × V)} {ds : List (Key × PyData)} (h : B a = some (.frz o (.dK kvs))) (ek : kvs.map (·.1) = ds.map (·.1)) : ItD K (Itk a o kvs) B (keyI ds) := fun B' H' s1 s2 i => by
  have hl : kvs.length = ds.length := by
    have := congrArg List.length ek
    simpa using this
  have hH := s2 _ _ (s1 _ _ h)
  refine ⟨fun hi => ⟨⟨hH, by unfold keyI at hi; simp at hi; omega⟩, fun x H'' hy => ?_⟩, fun hi => ⟨hH, by unfold keyI at hi; simp at hi; omega⟩⟩
  obtain ⟨rfl, k, v, e, rfl⟩ := hy
  have ek2 : (kvs.map (·.1))[i]? = some k := by rw [List.getElem?_map, e]; rfl
  rw [ek, List.getElem?_map] at ek2
  refine ⟨kD k, B', ?_, Out.here (rf_key k) s2⟩
  unfold keyI
  rw [List.getElem?_map]
  cases ed : ds[i]? with
  | none => rw [ed] at ek2; cases ek2
  | some p =>
    rw [ed] at ek2
    have : p.1 = k := by simpa using ek2
    rw [← this]
    rfl
end
section
variable {w : WE} {i : Nat} {ρ : En} {R : O → En → Prop} {Ri : List PyData → En → Prop}
@[simp] theorem x_wLock : wLock i w ρ R = ∃ ds, nth ρ i = .df ds ∧ w (ρ.set i (.dl ds)) fun d ρ1 => noDl d = true ∧ (∀ x ∈ ρ1.set i .hid, noDl x = true) ∧ R d (ρ1.set i (.fz (kPs ds))) := rfl
@[simp] theorem x_wiK : wiK i ρ Ri = ∃ ds, nth ρ i = .dl ds ∧ Ri (keyI ds) ρ := rfl
@[simp] theorem x_nodl1 {f : PyData} : noDl (.fz f) = true := rfl
@[simp] theorem x_nodl2 {f : List PyData} : noDl (.lf f) = true := rfl
@[simp] theorem x_nodl3 {f : List PyData} : noDl (.tn f) = true := rfl
@[simp] theorem x_nodl4 : noDl .hid = true := rfl
@[simp] theorem x_nodl5 {f : List Int} : noDl (.scr f) = true := rfl
@[simp] theorem x_nodl6 {f : List (Key × PyData)} : noDl (.df f) = true := rfl
@[simp] theorem x_nhL {p : Prop} {ds : List (Key × PyData)} : notHid (.dl ds) p = p := rfl
end
end Pt
namespace Pt
open PySem PySem.Spec L2
def lmDNew : O → List O → (O → O → Prop) → Prop
  | .df kvs, [.fz f, x], R => ∃ k, keyO x = some k ∧ kvs.length + 1 ≤ szMax ∧ (∀ p ∈ kvs, p.1 ≠ k) ∧ R (.df (kvs ++ [(k, f)])) (.fz .none)
  | _, _, _ => False
def sSetD (i : Nat) (we wk : WE) : WS := sDrop (wMu "dict" i [we, wk] lmDNew)
section
variable {X : Cx} {Z : Ent} {ps : List Nat} {e k : Expr} {x : Str} {pos px p2 : Pos} {we wk : WE}
end
section
variable {w w2 : WE} {i : Nat} {ρ : En} {R2 : O → O → Prop}
@[simp] theorem x_sSetD : sSetD i w w2 = sDrop (wMu "dict" i [w, w2] lmDNew) := rfl
@[simp] theorem x_lmDNew {kvs : List (Key × PyData)} {x : O} {f : PyData} : lmDNew (.df kvs) [.fz f, x] R2 = ∃ k, keyO x = some k ∧ kvs.length + 1 ≤ szMax ∧ (∀ p ∈ kvs, p.1 ≠ k) ∧ R2 (.df (kvs ++ [(k, f)])) (.fz .none) := rfl
end
end Pt
namespace Pt
open PySem PySem.Spec L2
def oDivmod : List O → (O → Prop) → Prop
  | [.fz (.int i), .fz (.int j)], R => CDivP i j ∧ R (.fz (.tuple [.int (i / j), .int (i % j)]))
  | _, _ => False
@[simp] theorem x_divmod {i j : Int} {k : O → Prop} : oDivmod [.fz (.int i), .fz (.int j)] k = (CDivP i j ∧ k (.fz (.tuple [.int (i / j), .int (i % j)]))) := rfl
end Pt
set_option maxHeartbeats 400000
namespace Lr
open PySem PySem.Spec L2
end Lr
namespace Lr
open PySem PySem.Spec L2
end Lr
namespace Pt
open PySem PySem.Spec L2
def oListRev : List O → (O → Prop) → Prop
  | [x], R => ∃ ds, vL x = some ds ∧ R (.lf ds.reverse)
  | _, _ => False
@[simp] theorem x_listRev {x : O} {k : O → Prop} : oListRev [x] k = ∃ ds, vL x = some ds ∧ k (.lf ds.reverse) := rfl
end Pt
set_option maxHeartbeats 4000000
namespace Pt
open PySem PySem.Spec L2 LamX
open PyProof.Rows (envOfC IntsAre AllBare)
abbrev tb0 : Obj := { cls := .none, data := .fields #[] }
def H0 (told : Bool) (a : Addr) (vs : List Value) (ns : List Int) (ts : List Addr) : Hp := fun b =>
  if ts.contains b then some (.tbl #[]) else if told && b == a then some (.frz { cls := .type "list", data := .seq vs.toArray } (.lst (ns.map V.int))) else none
section
variable {P : Program} {w : World} {K : PySem.W.Frag} {mg mb : Str → Option Value} {CX : CXT} {k : Nat} {fa a : Addr} {fd : FuncData} {x : Str} {sp : Sp} {s1 : Shared} {vs : List Value} {ns : List Int} {cs : List (Addr × Addr)}
structure Start (K : PySem.W.Frag) (mg mb : Str → Option Value) (s1 : Shared) (a : Addr) (vs : List Value) (ns : List Int) (cs : List (Addr × Addr)) : Prop where
  inK : K.In s1.heap
  gl : s1.heap.Ns mainGlobals mg
  bl : s1.heap.Ns builtinsNs mb
  blt : ∀ x : Str, x ≠ "__name__" → mb x = bootBuiltins x
  lim : s1.heap.NoLimit
  gens : s1.gens = #[]
  obj : s1.heap.get? a = some { cls := .type "list", data := .seq vs.toArray }
  hin : IntsAre vs ns
  sz : ns.length ≤ sizeLine
  tab : ∀ p ∈ cs, s1.heap.get? p.2 = some tb0
  tabK : ∀ p ∈ cs, K.lookup p.2 = none
  code : ∀ p ∈ cs, PySem.W.CodeHd s1.heap p.1 p.2
  bmod : ∃ (bm : Addr) (ob : Obj), mg "__builtins__" = some (.ref bm) ∧ bm ≠ builtinsNs ∧ s1.heap.get? bm = some ob ∧ ob.cls = .type "module" ∧ ob.dict = some builtinsNs ∧ ob.data = .plain
def tabsOf (cs : List (Addr × Addr)) : List Addr := cs.map (·.2)
theorem H0_tab {told : Bool} {ts : List Addr} {b : Addr} (h : b ∈ ts) : H0 told a vs ns ts b = some (.tbl #[]) := if_pos (List.contains_iff_mem.mpr h)
theorem H0_cases {told : Bool} {ts : List Addr} {b : Addr} {u : HO} (h : H0 told a vs ns ts b = some u) : (b ∈ ts ∧ u = .tbl #[]) ∨ (told = true ∧ b = a ∧ u = .frz { cls := .type "list", data := .seq vs.toArray } (.lst (ns.map V.int))) := by
  unfold H0 at h
  split at h
  · rename_i m
    exact .inl ⟨List.contains_iff_mem.mp m, (Option.some.inj h).symm⟩
  · split at h
    · rename_i m
      have m2 := Bool.and_eq_true_iff.mp m
      exact .inr ⟨m2.1, beq_iff_eq.mp m2.2, (Option.some.inj h).symm⟩
    · cases h
theorem g_lawT (S : Start K mg mb s1 a vs ns cs) (room : Room k callerA) (F : ∀ base : Heap, K.In base → base.Ns mainGlobals mg → (∀ p ∈ cs, TabB base mg p.1 p.2) → FnG P w K mg base CX k fa fd [x] sp) (bind : ∀ (s : Shared) (u : Value), BindsTo s fd ⟨[u], []⟩ [(x, u)])
    (hsp : ∀ H : Hp, (∀ p ∈ cs, H p.2 = some (.tbl #[])) → SqL K H a (ns.map V.int) → sp [.ref a] H (fun v _ => v = .bl true) fun _ _ _ => False) (hCX : ∀ H e s', CX [] H s1 (fun _ _ _ => False) e s' → False) :
    codeAny (model P w) callerA (.call (.ref fa) ⟨[.ref a], []⟩) (fun r s' => r = .ok (.ret (.bool true)) ∧ OldK s1.heap s'.heap ∧ s'.os = s1.os ∧ AllBare s'.gens) s1 := by
  have hv := vals_ints S.hin
  have hn := S.hin.length
  have tabAt : ∀ b ∈ tabsOf cs, s1.heap.get? b = some tb0 := fun b hb => by
    obtain ⟨p, hp, rfl⟩ := List.mem_map.mp hb
    exact S.tab p hp
  have tabNK : ∀ b ∈ tabsOf cs, K.lookup b = none := fun b hb => by
    obtain ⟨p, hp, rfl⟩ := List.mem_map.mp hb
    exact S.tabK p hp
  have inT : ∀ p ∈ cs, p.2 ∈ tabsOf cs := fun p hp => List.mem_map_of_mem hp
  have noA : a ∉ tabsOf cs := fun h => by
    have e := tabAt a h
    rw [S.obj] at e
    exact nomatch (congrArg Obj.data (Option.some.inj e) : Data.seq vs.toArray _ = Data.fields #[])
  have main : ∀ told : Bool, (told = true → K.lookup a = none) → SqL K (H0 told a vs ns (tabsOf cs)) a (ns.map V.int) →
      codeAny (model P w) callerA (.call (.ref fa) ⟨[.ref a], []⟩) (fun r s' => r = .ok (.ret (.bool true)) ∧ OldK s1.heap s'.heap ∧ s'.os = s1.os ∧ AllBare s'.gens) s1 := by
    intro told htold sq
    obtain ⟨H, hH⟩ : ∃ H, H = H0 told a vs ns (tabsOf cs) := ⟨_, rfl⟩
    rw [← hH] at sq
    have kinds : ∀ {b : Addr} {u : HO}, H b = some u → (b ∈ tabsOf cs ∧ u = .tbl #[]) ∨ (told = true ∧ b = a ∧ u = .frz { cls := .type "list", data := .seq vs.toArray } (.lst (ns.map V.int))) := fun {b u} e => by
      rw [hH] at e
      exact H0_cases e
    have hok : HOk P w H s1.heap := fun b u e => by
      rcases kinds e with ⟨m, rfl⟩ | ⟨_, rfl, rfl⟩
      · exact tabAt b m
      · exact ⟨S.obj, by rw [List.length_map]; exact S.sz, vs, _, hv, S.obj⟩
    have free : ∀ {b : Addr} {o : Obj}, s1.heap.get? b = some o → (∀ us n, o.data ≠ .seq us n) → o ≠ tb0 → H b = none := fun {b o} e h1 h2 => by
      cases q : H b with
      | none => rfl
      | some u =>
        rcases kinds q with ⟨m, _⟩ | ⟨_, rfl, _⟩
        · rw [tabAt b m] at e
          exact absurd (Option.some.inj e).symm h2
        · rw [S.obj] at e
          cases e
          exact absurd rfl (h1 _ _)
    have under : ∀ {b : Addr} {o : Obj}, s1.heap.get? b = some o → (∀ us n, o.data ≠ .seq us n) → o ≠ tb0 → (hidT s1.heap H).get? b = some o := fun e h1 h2 => hidT_get e (free e h1 h2)
    have ofData : ∀ {o : Obj} {d : Data}, o.data = d → (∀ us n, d ≠ .seq us n) → d ≠ .fields #[] → (∀ us n, o.data ≠ .seq us n) ∧ o ≠ tb0 := fun {o d} e h1 h2 => ⟨fun us n z => h1 us n (e.symm.trans z), fun z => h2 (by rw [← e, z])⟩
    have nsU : ∀ {b : Addr} {m : Str → Option Value}, s1.heap.Ns b m → (hidT s1.heap H).Ns b m := fun {b m} z => by
      obtain ⟨o, es, ep, e, d, r⟩ := z
      obtain ⟨h1, h2⟩ := ofData d (fun _ _ z => nomatch z) (fun z => nomatch z)
      exact ⟨o, es, ep, under e h1 h2, d, r⟩
    have kb : K.In (hidT s1.heap H) := fun b o e => hidT_get (S.inK b o e) (by
      cases q : H b with
      | none => rfl
      | some u =>
        rcases kinds q with ⟨m, _⟩ | ⟨ht, rfl, _⟩
        · rw [tabNK b m] at e; cases e
        · rw [htold ht] at e; cases e)
    have mod : Mod K mg (hidT s1.heap H) := ⟨kb, nsU S.gl, ⟨mb, nsU S.bl, S.blt⟩, by obtain ⟨mc, h1, h2⟩ := S.lim; exact ⟨mc, nsU h1, h2⟩⟩
    have tb : ∀ p ∈ cs, TabB (hidT s1.heap H) mg p.1 p.2 := fun p hp => by
      have hpt := S.tab p hp
      refine ⟨?_, ?_, fun z => ?_⟩
      · obtain ⟨o, us, file, tf, flags, tg, inF, text, tt, e1, r1, r2, r3, r4, r5, r6, r7, r8, hne⟩ := S.code p hp
        obtain ⟨h1, h2⟩ := ofData r2 (fun _ _ z => nomatch z) (fun z => by
          have z' := Data.fields.inj z
          rw [z'] at r3
          simp at r3)
        exact ⟨o, us, file, tf, flags, tg, inF, text, tt, under e1 h1 h2, r1, r2, r3, r4, r5, r6, r7, r8, hne⟩
      · obtain ⟨bm, ob, b1, b2, b3, b4, b5, b6⟩ := S.bmod
        obtain ⟨h1, h2⟩ := ofData b6 (fun _ _ z => nomatch z) (fun z => nomatch z)
        refine ⟨bm, ob, b1, b2, fun q => ?_, fun q => ?_, under b3 h1 h2, b4, b5, b6⟩
        · obtain ⟨o, es, ep, e, d, _⟩ := S.gl
          rw [q, e] at b3
          cases b3
          rw [d] at b6
          cases b6
        · rw [q, hpt] at b3
          cases b3
          cases b6
      · obtain ⟨o, es, ep, e, d, _⟩ := S.gl
        rw [z, hpt] at e
        cases e
        cases d
    have e0 : Env0 P w K mg (hidT s1.heap H) callerA [] s1 H := ⟨rfl, mod, fun b o e => of_hidT e, Nat.le_of_eq (hidT_size _ _), trivial, fun b hb => (List.not_mem_nil hb).elim, hok, .of_eq S.gens⟩
    refine codeAny_mono ((F _ kb (nsU S.gl) tb).run callerA [] s1 H ⟨[.ref a], []⟩ [.ref a] [.ref a] _ _ rfl room e0 (bind s1 (.ref a)) (.cons rfl .nil) (hsp H (fun p hp => by rw [hH]; exact H0_tab (inT p hp)) sq)) fun r s' h => ?_
    cases r with
    | error e => exact (hCX H e s' h).elim
    | ok fl =>
      cases fl with
      | next => exact h.elim
      | brk => exact h.elim
      | cont => exact h.elim
      | ret u =>
        obtain ⟨v, H', os, bare, un, hok', rv, q⟩ := h
        obtain rfl : v = V.bl true := q
        obtain rfl : u = Value.bool true := rv
        have same : ∀ b o, b ∉ tabsOf cs → s1.heap.get? b = some o → s'.heap.get? b = some o := fun b o nb e => by
          cases q : H b with
          | none => exact un.keep b o e q (fun z => (List.not_mem_nil z).elim) fun z => (List.not_mem_nil z).elim
          | some u =>
            rcases kinds q with ⟨m, _⟩ | ⟨_, rfl, rfl⟩
            · exact absurd m nb
            · obtain ⟨e1, _⟩ := hok b _ q
              obtain ⟨e2, _⟩ := hok' b _ (un.frzs b _ _ q)
              rw [e] at e1
              cases e1
              exact e2
        have more : ∀ p ∈ cs, ∃ us : Array Value, s'.heap.get? p.2 = some { cls := .none, data := .fields us } := fun p hp => by
          obtain ⟨us, z⟩ := un.tbls p.2 #[] (by rw [hH]; exact H0_tab (inT p hp))
          exact ⟨_, hok' p.2 _ z⟩
        refine ⟨rfl, ⟨fun b o e => ?_, fun b o e => ?_⟩, os, bare⟩
        · by_cases hb : b ∈ tabsOf cs
          · obtain ⟨p, hp, rfl⟩ := List.mem_map.mp hb
            obtain ⟨us, hm⟩ := more p hp
            rw [S.tab p hp] at e
            cases e
            refine .inr (.inl ⟨((S.code p hp).tab (S.tab p hp)).isCodeTable, rfl, #[], us, rfl, ?_⟩)
            rw [Array.empty_append]
            exact hm
          · exact .inl (same b o hb e)
        · by_cases hb : b ∈ tabsOf cs
          · obtain ⟨p, hp, rfl⟩ := List.mem_map.mp hb
            obtain ⟨us, hm⟩ := more p hp
            exact ⟨_, hm⟩
          · exact ⟨o, same b o hb e⟩
  cases hk : K.lookup a with
  | some o =>
    have e := S.inK a o hk
    rw [S.obj] at e
    cases e
    exact main false (fun z => nomatch z) (.inr ⟨_, vs.toArray, _, hk, rfl, rfl, rfl, by rw [List.size_toArray, hn]; exact S.sz, by simpa using hv⟩)
  | none =>
    refine main true (fun _ => hk) (.inl (.inr ⟨{ cls := .type "list", data := .seq vs.toArray }, ?_⟩))
    unfold H0
    rw [if_neg fun z => noA (List.contains_iff_mem.mp z), if_pos (by simp)]
def HeadT (l : PySem.W.OpenLaw) (w : World) (K : PySem.W.Frag) (CX : CXT) (k n : Nat) (x : Str) (mg : Str → Option Value) (fa : Addr) (h : Heap) : Prop :=
  ∃ (fd : FuncData) (cs : List (Addr × Addr)) (sp : Sp), (∀ p ∈ cs, h.get? p.2 = some tb0) ∧ (∀ p ∈ cs, K.lookup p.2 = none) ∧ (∀ p ∈ cs, PySem.W.CodeHd h p.1 p.2) ∧ (∀ (s : Shared) (u : Value), BindsTo s fd ⟨[u], []⟩ [(x, u)]) ∧
    (∀ (H : Hp) (a : Addr) (ns : List Int), ns.length ≤ n → (∀ z ∈ ns, Builtin.Int.intBits z ≤ 1048576) → (∀ p ∈ cs, H p.2 = some (.tbl #[])) → SqL K H a (ns.map V.int) → sp [.ref a] H (fun v _ => v = .bl true) fun _ _ _ => False) ∧
    ∀ base : Heap, K.In base → base.Ns mainGlobals mg → (∀ p ∈ cs, TabB base mg p.1 p.2) → FnG l.prog w K mg base CX k fa fd [x] sp
end
def TabF (q : Program) (K : PySem.W.Frag) (h : Heap) : Prop := ∀ (x : Str) (c P : Addr) (d : DefRec), (PyProof.Rows.recsOf q).find? (fun e => e.name == x) = some d → PySem.W.tabIn K x = some (c, P) → PySem.W.CodeHd h c P ∧ h.get? P = some (PySem.W.tabObj #[])
theorem g_walkT {l : PySem.W.OpenLaw} {n k : Nat} {q : Program} {loose : List Str} {XP : (Str → Option Value) → Heap → Prop} {YP : World → Heap → Prop} {d : DefRec} {K : Params → PySem.W.Frag} {CX : World → CXT} {x : Str} (hn : l.most = some n) (hn2 : n ≤ sizeLine) (hdf : d.params.defaults = []) (hr : Room k callerA)
    (hY : ∀ (w : World) (h : Heap), YP w h → (K w.params).In h) (F : ∀ (w : World) (mg : Str → Option Value) (fa : Addr) (h : Heap), (K w.params).In h → h.Ns mainGlobals mg → mg d.name = some (.ref fa) → TabF q (K w.params) h → HeadT l w (K w.params) (CX w) k n x mg fa h)
    (hCX : ∀ (w : World) (H : Hp) (s : Shared) (e : Value) (s' : Shared), CX w [] H s (fun _ _ _ => False) e s' → False) :
    PySem.W.WalkO q loose XP YP l.row.toRowW d [] (fun f vs => PySem.call f vs) :=
  Att.attach_callB hn hdf fun w s0 s1 mg mb fa o pm cd doc a vs ns G Y ho hd hcd hmg obj hints0 len bits gens => by
    have inK := hY w _ Y
    obtain ⟨fd, cs, sp, t1, t2, t3, hb, hsp, hF⟩ := F w mg fa _ inK G.T.g hmg (fun x c P d h1 h2 => PySem.W.tab_of G.T inK h1 h2)
    exact g_lawT ⟨inK, G.T.g, G.T.b, G.T.builtins, G.T.nolimit, gens, obj, hints0, Nat.le_trans len hn2, t1, t2, t3, G.T.bmain⟩ hr hF hb (fun H hH hS => hsp H a ns len bits hH hS) fun H e s' => hCX w H s1 e s'
end Pt
set_option maxHeartbeats 400000
namespace Lk
open PySem PySem.Spec L2 PyProof.Rows PySem.W
section
variable {prog : Program} {w : World} {A : Around} {E : Value → Shared → Prop} {s : Shared} {r f : Addr} {n : Nat} {t u v : Tok} {Q : Value → Shared → Prop} {k : Nat → Int}
def byKey (k : Nat → Int) (n : Nat) : List Nat := (List.range n).mergeSort fun a b => decide (k a ≤ k b)
end
end Lk
namespace Lk
open PySem PySem.Spec L2 PyProof.Rows PySem.W
structure LScope (scope : Scope) (xn iname : Str) : Prop where
  kind : scope.kind = .function
  co : scope.isCoroutine = false
  gen : scope.isGenerator = false
  nocell : ∀ y ∈ scope.names, y.2 ≠ .cell
  loc : scope.names.lookup iname = some .local
  free : scope.names.lookup xn = some .free
  frees : ∀ y ∈ scope.names, y.2 = .free → y.1 = xn
section
variable {prog : Program} {w : World} {A : Around} {s : Shared} {f c' c a : Addr} {q xn iname : Str} {scope : Scope} {params : Arguments} {cl : List (Str × Addr)} {pm ctv : Value} {p1 p2 p3 : Pos} {items : Array Value} {j : Nat} {key : Int} {tk0 : Tok}
end
end Lk
namespace Lk
open PySem PySem.Spec L2 PyProof.Rows PySem.W LamX
def keyAt (keys : List Int) (i : Nat) : Int := keys.getD i 0
section
variable {X : Cx} {pins : List (Addr × Obj)} {σ : L2.St} {H : Hp} {s : Shared}
end
end Lk
set_option maxHeartbeats 4000000
namespace Pt
open PySem PySem.Spec L2 LamX Lk
def wSortKey (ix : Nat) (w : WE) : WE := fun ρ R => w ρ fun d ρ1 => ∃ (n : Nat) (ds : List PyData) (keys : List Int), d = .fz (.int n) ∧ nth ρ1 ix = .fz (.tuple ds) ∧ asInts ds = some keys ∧ n ≤ keys.length ∧ n ≤ 2 ^ 20 ∧ R (.lf ((byKey (keyAt keys) n).map fun (i : Nat) => .int i)) ρ1
section
variable {K : PySem.W.Frag} {Z : Ent}
end
end Pt
namespace Pt
open PySem PySem.Spec L2 LamX
theorem head_mk {l : PySem.W.OpenLaw} {w : World} {K : PySem.W.Frag} {k : Nat} {io : List Nat} {mg : Str → Option Value} {fa : Addr} {h : Heap} {cs : List (Addr × Addr)} (fd : FuncData) (hb : ∀ (s : Shared) (u : Value), BindsTo s fd ⟨[u], []⟩ [("script", u)])
    (ht : ∀ p ∈ cs, h.get? p.2 = some tb0 ∧ K.lookup p.2 = none ∧ PySem.W.CodeHd h p.1 p.2)
    (F : ∀ base : Heap, (∀ p ∈ cs, TabB base mg p.1 p.2) → FnG l.prog w K mg base (L2N.CX l.prog w) k fa fd ["script"] (spD K (cs.map (·.2)) mg 1 io gLaw)) : HeadT l w K (L2N.CX l.prog w) k 63 "script" mg fa h :=
  ⟨fd, cs, _, fun p hp => (ht p hp).1, fun p hp => (ht p hp).2.1, fun p hp => (ht p hp).2.2, hb, fun H a ns hl _ hT hS => law_sp hl (fun P hP => by
    obtain ⟨p, hp, rfl⟩ := List.mem_map.mp hP
    exact hT p hp) hS, fun base _ _ TBs => F base TBs⟩
end Pt
namespace Pt
open PySem PySem.Spec L2
def gSubI (i : Nat) (wk : WE) : WG := fun d ρ R => isLst (nth ρ i) = true ∧ wk ρ fun kd ρ1 => (isLst (nth ρ1 i) || isDct (nth ρ1 i)) = true ∧ lmSet (nth ρ1 i) [d, kd] fun x' _ => R (ρ1.set i x')
section
variable {X : Cx} {Z : Ent} {own : List Nat} {k : Expr} {x : Str} {px p2 : Pos} {wk : WE}
end
end Pt
namespace Pt
open PySem PySem.Spec L2
def wMuD (i : Nat) (wk : WE) (ws : List WE) (lm : O → List O → (O → O → Prop) → Prop) : WE := fun ρ R => notHid (nth ρ i) (wk ρ fun kd ρ1 => ∃ xs key j y, nth ρ1 i = .od xs ∧ keyO kd = some key ∧ xs[j]? = some (key, y) ∧ (∀ i, i < j → ∀ e, xs[i]? = some e → e.1 ≠ key) ∧ isLst y = true ∧
  wADs (exs ws) (ρ1.set i .hid) fun ds ρ2 => nth ρ2 i = .hid ∧ lm y (fillA (exs ws) ds ρ2) fun y' z => R z (ρ2.set i (.od (xs.set j (key, y')))))
section
variable {X : Cx} {Z : Ent} {k : Expr} {name x : Str} {apos cpos pos p2 : Pos} {id : String} {wk : WE} {lm : O → List O → (O → O → Prop) → Prop} {r : V → List V → Hp → VK → Prop}
end
section
variable {ρ : En} {R : En → Prop} {T : O → En → Prop} {d : O} {i : Nat} {wk : WE} {ws : List WE} {lm : O → List O → (O → O → Prop) → Prop} {ix : Nat} {w : WE}
@[simp] theorem x_gSubI : gSubI i wk d ρ R = (isLst (nth ρ i) = true ∧ wk ρ fun kd ρ1 => (isLst (nth ρ1 i) || isDct (nth ρ1 i)) = true ∧ lmSet (nth ρ1 i) [d, kd] fun x' _ => R (ρ1.set i x')) := rfl
@[simp] theorem x_wMuDe : wMuD i wk ws lm ρ T = notHid (nth ρ i) (wk ρ fun kd ρ1 => ∃ xs key j y, nth ρ1 i = .od xs ∧ keyO kd = some key ∧ xs[j]? = some (key, y) ∧ (∀ i, i < j → ∀ e, xs[i]? = some e → e.1 ≠ key) ∧ isLst y = true ∧
  wADs (exs ws) (ρ1.set i .hid) fun ds ρ2 => nth ρ2 i = .hid ∧ lm y (fillA (exs ws) ds ρ2) fun y' z => T z (ρ2.set i (.od (xs.set j (key, y'))))) := rfl
@[simp] theorem x_sortKey : wSortKey ix w ρ T = w ρ fun d ρ1 => ∃ (n : Nat) (ds : List PyData) (keys : List Int), d = .fz (.int n) ∧ nth ρ1 ix = .fz (.tuple ds) ∧ asInts ds = some keys ∧ n ≤ keys.length ∧ n ≤ 2 ^ 20 ∧ T (.lf ((Lk.byKey (Lk.keyAt keys) n).map fun (i : Nat) => .int i)) ρ1 := rfl
end
end Pt
namespace L2
open PySem PySem.Spec PyProof.Rows
section
variable {X : Cx}
end
end L2
namespace Pt
open PySem PySem.Spec PyProof.Rows L2
def oMulS : List O → (O → Prop) → Prop
  | [.fz (.tuple ds), .fz (.int k)], R => ds ≠ [] ∧ ((k = 1 ∧ R (.fz (.tuple ds))) ∨ (k = 0 ∧ R (.fz (.tuple []))))
  | _, _ => False
@[simp] theorem x_oMulS {ds : List PyData} {a : Int} {k : O → Prop} : oMulS [.fz (.tuple ds), .fz (.int a)] k = (ds ≠ [] ∧ ((a = 1 ∧ k (.fz (.tuple ds))) ∨ (a = 0 ∧ k (.fz (.tuple []))))) := rfl
end Pt
namespace L2
open PySem PySem.Spec PyProof.Rows
section
variable {P : Program} {w : World} {A : Around} {E : Value → Shared → Prop} {s : Shared}
abbrev nSet (w : World) : Obj := { cls := .type "set", dict := none, data := .set #[] 0 (.fresh 0 0 (!w.params.followText "set-order")) }
abbrev nS (w : World) (s : Shared) : Shared := { s with heap := s.heap.push (nSet w) }
end
end L2
namespace Pt
open PySem PySem.Spec L2 PyProof.Rows
section
variable {X : Cx}
end
def wSortSet (w : WE) : WE := fun ρ R => w ρ fun d ρ1 => ∃ ns : List Int, vL d = some (ns.map PyData.int) ∧ ns.length < 64 ∧ ∀ out : List Int, out.Pairwise (· < ·) → (∀ k, k ∈ out ↔ k ∈ ns) → R (.lf (out.map PyData.int)) ρ1
section
variable {K : PySem.W.Frag} {Z : Ent}
end
@[simp] theorem x_wSortSet {w : WE} {ρ : En} {R : O → En → Prop} : wSortSet w ρ R = w ρ fun d ρ1 => ∃ ns : List Int, vL d = some (ns.map PyData.int) ∧ ns.length < 64 ∧ ∀ out : List Int, out.Pairwise (· < ·) → (∀ k, k ∈ out ↔ k ∈ ns) → R (.lf (out.map PyData.int)) ρ1 := rfl
end Pt
namespace Pt
open PySem PySem.Spec PyProof.Rows L2
def asFq : O → (PyData → Prop) → Prop
  | .fz f, k => k f
  | .tn ds, k => k (.tuple ds)
  | _, _ => False
def wVq (i : Nat) : WE := fun ρ R => asFq (nth ρ i) fun f => R (.fz f) ρ
section
variable {X : Cx} {Z : Ent} {pos : Pos}
theorem e_varq (i : Nat) {x : Str} (hN : X.N[i]? = some x := by rfl) (hv : Vis X.env.scope x := by first | exact Or.inl rfl | exact Or.inr (Or.inl rfl) | exact Or.inr (Or.inr rfl)) (hd : (x == ("__debug__" : Str)) = false := by decide)
    (hcd : (x == ("__classdict__" : Str)) = false := by decide) : PE X (.Name x pos) (tE X.K Z (wVq i)) := pe_to (pe_var hN hv hd hcd) fun σ H Q h => by
  obtain ⟨B, ρ, fp, R, k, h, q⟩ := h
  unfold wVq asFq at h
  split at h
  · rename_i f e
    obtain ⟨v, f1, e1, r, _⟩ := k.slot e (fun z => nomatch z)
    cases r with
    | fz r => exact ⟨_, e1, q _ ρ h _ H B fp (Nxt.refl _ _ _) (k.addF r)⟩
  · rename_i ds e
    obtain ⟨v, f1, e1, r, _⟩ := k.slot e (fun z => nomatch z)
    cases r with
    | tn a b c => exact ⟨_, e1, q _ ρ h _ H B fp (Nxt.refl _ _ _) (k.addF (.tup a c))⟩
  · exact h.elim
end
def oLstT : List O → (O → Prop) → Prop
  | [.tn ds], R => R (.ol [.tn ds])
  | _, _ => False
def oIxT : List O → (O → Prop) → Prop
  | [.ol xs, .fz (.int i)], R => ∃ ds, L2.atI xs i = some (.tn ds) ∧ R (.tn ds)
  | _, _ => False
@[simp] theorem x_wVq {i : Nat} {ρ : En} {R : O → En → Prop} : wVq i ρ R = asFq (nth ρ i) fun f => R (.fz f) ρ := rfl
@[simp] theorem x_asFq1 {f : PyData} {k : PyData → Prop} : asFq (.fz f) k = k f := rfl
@[simp] theorem x_asFq2 {ds : List PyData} {k : PyData → Prop} : asFq (.tn ds) k = k (.tuple ds) := rfl
@[simp] theorem x_oLstT {ds : List PyData} {k : O → Prop} : oLstT [.tn ds] k = k (.ol [.tn ds]) := rfl
@[simp] theorem x_oIxT {xs : List O} {i : Int} {k : O → Prop} : oIxT [.ol xs, .fz (.int i)] k = ∃ ds, L2.atI xs i = some (.tn ds) ∧ k (.tn ds) := rfl
section
variable {X : Cx} {Z : Ent} {p pos p2 pos2 : Pos} {a e : Expr} {w : WE}
variable {te : L2.St → Hp → (Int → Int → Hp → Prop) → Prop}
def wTR1N (w : WE) : WE := fun ρ R => w ρ fun d ρ1 => asI d fun n => n ≤ szMax ∧ -1000000000 ≤ n ∧ R (.tn (rangeL 0 n.toNat)) ρ1
@[simp] theorem x_wTR1N {ρ : En} {R : O → En → Prop} : wTR1N w ρ R = w ρ fun d ρ1 => asI d fun n => n ≤ szMax ∧ -1000000000 ≤ n ∧ R (.tn (rangeL 0 n.toNat)) ρ1 := rfl
end
end Pt
namespace Pt
open PySem PySem.Spec L2
section
variable {X : Cx}
end
section
variable {K : PySem.W.Frag}
end
end Pt
namespace Pt
open PySem PySem.Spec L2
section
variable {K : PySem.W.Frag}
def oEqZ : List O → (O → Prop) → Prop
  | [.scr ns, .lf []], R => R (.fz (.bool (decide (ns = []))))
  | _, _ => False
end
@[simp] theorem x_oEqZ {ns : List Int} {k : O → Prop} : oEqZ [.scr ns, .lf []] k = k (.fz (.bool (decide (ns = [])))) := rfl
end Pt
namespace Pt
open PySem PySem.Spec L2
section
variable {K : PySem.W.Frag}
end
end Pt
namespace Pt
open PySem PySem.Spec L2
def oFld (cn f : Str) : List O → (O → Prop) → Prop
  | [.oi c gs], R => c = cn ∧ ∃ d, gs.lookup f = some (.fz d) ∧ R (.fz d)
  | _, _ => False
section
variable {K : PySem.W.Frag} {B H : Hp}
end
section
variable {X : Cx} {Z : Ent}
end
def isOi : O → Bool
  | .oi _ _ => true
  | _ => false
def wMuO (i : Nat) (ws : List WE) (lm : O → List O → (O → O → Prop) → Prop) : WE := fun ρ R => isOi (nth ρ i) = true ∧ wADs (exs ws) ρ fun ds ρ1 => isOi (nth ρ1 i) = true ∧ lm (nth ρ1 i) (fillA (exs ws) ds ρ1) fun x' z => R z (ρ1.set i x')
def putO (f : Str) (d : O) : List (Str × O) → List (Str × O)
  | [] => [(f, d)]
  | (g, x) :: r => if g = f then (g, d) :: r else (g, x) :: putO f d r
def lmSetF (cn f : Str) : O → List O → (O → O → Prop) → Prop
  | .oi c gs, [d], R => c = cn ∧ gs.length < 1000 ∧ R (.oi c (putO f d gs)) (.fz .none)
  | _, _, _ => False
section
variable {K : PySem.W.Frag} {B H : Hp}
end
def sFldS (i : Nat) (cn f : Str) (w : WE) : WS := sDrop (wMuO i [w] (lmSetF cn f))
section
variable {X : Cx} {Z : Ent} {ps : List Nat}
end
section
variable {ρ : En} {R : O → En → Prop} {k : O → Prop}
@[simp] theorem x_oFld {cn f : Str} {gs : List (Str × O)} : oFld cn f [.oi cn gs] k = ∃ d, gs.lookup f = some (.fz d) ∧ k (.fz d) := by simp [oFld]
@[simp] theorem x_wMuO {i : Nat} {ws : List WE} {lm : O → List O → (O → O → Prop) → Prop} : wMuO i ws lm ρ R = (isOi (nth ρ i) = true ∧ wADs (exs ws) ρ fun ds ρ1 => isOi (nth ρ1 i) = true ∧ lm (nth ρ1 i) (fillA (exs ws) ds ρ1) fun x' z => R z (ρ1.set i x')) := rfl
@[simp] theorem x_isOi {cn : Str} {gs : List (Str × O)} : isOi (.oi cn gs) = true := rfl
@[simp] theorem x_lmSetF {cn f : Str} {gs : List (Str × O)} {d : O} {R2 : O → O → Prop} : lmSetF cn f (.oi cn gs) [d] R2 = (gs.length < 1000 ∧ R2 (.oi cn (putO f d gs)) (.fz .none)) := by simp [lmSetF]
@[simp] theorem x_sFldS {i : Nat} {cn f : Str} {w : WE} : sFldS i cn f w = sDrop (wMuO i [w] (lmSetF cn f)) := rfl
end
end Pt
namespace Pt
open PySem PySem.Spec L2 PyProof.Rows
section
variable {X : Cx} {CX : CXT} {k : Nat} {C f : Addr} {fd : FuncData} {ps : List Str} {sp : Sp} {E : L2.St → XK} {o e : Expr} {es : List Expr} {m : Str} {apos pos : Pos} {ta : TE} {t : TA}
end
structure FdMX (P : Program) (w : World) (K : PySem.W.Frag) (mg : Str → Option Value) (base : Heap) (T : List Addr) (A : Around) (cn m : Str) (n : Nat) (ps : List Nat) (g : WFX) : Prop where
  ex : ∃ (C : Addr) (k : Nat) (f : Addr) (fd : FuncData) (qs : List Str), clsA K cn C ∧ FnG P w K mg base (L2N.CX P w) k f fd qs (spX K T mg n ps g) ∧ A.guards = some [] ∧ Room k A ∧ Cls K C ∧ Meth K C m f ∧ Binds K fd qs []
structure FgMX (P : Program) (w : World) (K : PySem.W.Frag) (mg : Str → Option Value) (base : Heap) (T : List Addr) (k : Nat) (cn m : Str) (n : Nat) (ps : List Nat) (g : WFX) : Prop where
  ex : ∃ (C f : Addr) (fd : FuncData) (qs : List Str), clsA K cn C ∧ FnG P w K mg base (L2N.CX P w) k f fd qs (spX K T mg n ps g) ∧ Cls K C ∧ Meth K C m f ∧ Binds K fd qs []
structure FdIX (P : Program) (w : World) (K : PySem.W.Frag) (mg : Str → Option Value) (base : Heap) (T : List Addr) (A : Around) (cn : Str) (n : Nat) (ps : List Nat) (g : WFX) : Prop where
  ex : ∃ (C : Addr) (k : Nat) (f : Addr) (fd : FuncData) (qs : List Str), clsA K cn C ∧ FnG P w K mg base (L2N.CX P w) k f fd qs (spX K T mg n ps g) ∧ A.guards = some [] ∧ Room (k + 1) A ∧ mg cn = some (.ref C) ∧ Mk K C f ∧ Binds K fd qs []
structure FgIX (P : Program) (w : World) (K : PySem.W.Frag) (mg : Str → Option Value) (base : Heap) (T : List Addr) (k : Nat) (cn : Str) (n : Nat) (ps : List Nat) (g : WFX) : Prop where
  ex : ∃ (C f : Addr) (fd : FuncData) (qs : List Str), clsA K cn C ∧ FnG P w K mg base (L2N.CX P w) k f fd qs (spX K T mg n ps g) ∧ mg cn = some (.ref C) ∧ Mk K C f ∧ Binds K fd qs []
abbrev FdM (P : Program) (w : World) (K : PySem.W.Frag) (mg : Str → Option Value) (base : Heap) (T : List Addr) (A : Around) (cn m : Str) (n : Nat) (ps : List Nat) (g : WF) : Prop := FdMX P w K mg base T A cn m n ps (noX g)
abbrev FgM (P : Program) (w : World) (K : PySem.W.Frag) (mg : Str → Option Value) (base : Heap) (T : List Addr) (k : Nat) (cn m : Str) (n : Nat) (ps : List Nat) (g : WF) : Prop := FgMX P w K mg base T k cn m n ps (noX g)
abbrev FgI (P : Program) (w : World) (K : PySem.W.Frag) (mg : Str → Option Value) (base : Heap) (T : List Addr) (k : Nat) (cn : Str) (n : Nat) (ps : List Nat) (g : WF) : Prop := FgIX P w K mg base T k cn n ps (noX g)
section
variable {P : Program} {w : World} {K : PySem.W.Frag} {mg : Str → Option Value} {base : Heap} {T : List Addr} {k j : Nat} {A : Around} {cn m x : Str} {n : Nat} {ps : List Nat}
theorem spX_imp {g g' : WFX} (h : ∀ ds Rx R, g' ds Rx R → g ds Rx R) (vs : List V) (H : Hp) (Q : VK) (E : XK) (q : spX K T mg n ps g' vs H Q E) : spX K T mg n ps g vs H Q E := by
  obtain ⟨hl, B, ds, fp, R, Rx, tb, nt, k, hg, q⟩ := q
  exact ⟨hl, B, ds, fp, R, Rx, tb, nt, k, h ds Rx R hg, q⟩
theorem FgMX.to {g : WFX} (F : FgMX P w K mg base T k cn m n ps g) (hgd : A.guards = some []) (hr : Room j A) (h : k ≤ j) : FdMX P w K mg base T A cn m n ps g := by
  obtain ⟨C, f, fd, qs, a, b, c, d, e⟩ := F.ex
  exact ⟨C, k, f, fd, qs, a, b, hgd, hr.mono h, c, d, e⟩
theorem FgMX.impX {g g' : WFX} (F : FgMX P w K mg base T k cn m n ps g) (h : ∀ ds Rx R, g' ds Rx R → g ds Rx R) : FgMX P w K mg base T k cn m n ps g' := by
  obtain ⟨C, f, fd, qs, a, b, c, d, e⟩ := F.ex
  exact ⟨C, f, fd, qs, a, b.imp (spX_imp h), c, d, e⟩
theorem FgMX.imp {g g' : WF} (F : FgM P w K mg base T k cn m n ps g) (h : ∀ ds R, g' ds R → g ds R) : FgM P w K mg base T k cn m n ps g' := F.impX fun ds _ R => h ds R
theorem FgIX.to {g : WFX} (F : FgIX P w K mg base T k cn n ps g) (hgd : A.guards = some []) (hr : Room j A) (h : k + 1 ≤ j) : FdIX P w K mg base T A cn n ps g := by
  obtain ⟨C, f, fd, qs, a, b, c, d, e⟩ := F.ex
  exact ⟨C, k, f, fd, qs, a, b, hgd, hr.mono h, c, d, e⟩
theorem FgIX.impX {g g' : WFX} (F : FgIX P w K mg base T k cn n ps g) (h : ∀ ds Rx R, g' ds Rx R → g ds Rx R) : FgIX P w K mg base T k cn n ps g' := by
  obtain ⟨C, f, fd, qs, a, b, c, d, e⟩ := F.ex
  exact ⟨C, f, fd, qs, a, b.imp (spX_imp h), c, d, e⟩
theorem FgIX.imp {g g' : WF} (F : FgI P w K mg base T k cn n ps g) (h : ∀ ds R, g' ds R → g ds R) : FgI P w K mg base T k cn n ps g' := F.impX fun ds _ R => h ds R
end
section
variable {K : PySem.W.Frag} {B H : Hp}
theorem keepP_less {ps qs : List Nat} (h : ∀ i, qs.contains i = true → ps.contains i = true) : ∀ {n i : Nat} {vs : List V} {r : List O} {fp : List Addr}, ROs K B H vs (keepP ps i n r) fp → ∃ f2, ROs K B H vs (keepP qs i n r) f2 ∧ (∀ a ∈ f2, a ∈ fp) ∧ (fp.Nodup → f2.Nodup)
  | 0, _, _, _, _, r => ⟨_, r, fun _ h => h, fun h => h⟩
  | n + 1, i, vs, r, fp, q => by
    rw [keepP_cons] at q ⊢
    cases q with
    | @cons v vs _ _ f1 f2 a b =>
      obtain ⟨f3, b1, b2, b3⟩ := keepP_less h b
      by_cases hq : qs.contains i = true
      · rw [if_pos (h i hq)] at a
        rw [if_pos hq]
        refine ⟨f1 ++ f3, .cons a b1, fun x hx => ?_, fun nd => ?_⟩
        · rcases List.mem_append.mp hx with z | z
          · exact List.mem_append_left _ z
          · exact List.mem_append_right _ (b2 x z)
        · obtain ⟨n1, n2, n3⟩ := List.nodup_append.mp nd
          exact List.nodup_append.mpr ⟨n1, b3 n2, fun x hx y hy => n3 x hx y (b2 y hy)⟩
      · rw [if_neg hq]
        exact ⟨[] ++ f3, .cons .hid b1, fun x hx => List.mem_append_right _ (b2 x hx), fun nd => b3 (List.nodup_append.mp nd).2.1⟩
theorem spX_less {T : List Addr} {mg : Str → Option Value} {n : Nat} {ps qs : List Nat} {g : WFX} (h : ∀ i, qs.contains i = true → ps.contains i = true) (vs : List V) (H : Hp) (Q : VK) (E : XK) (q : spX K T mg n qs g vs H Q E) : spX K T mg n ps g vs H Q E := by
  obtain ⟨hl, B, ds, fp, R, Rx, tb, nt, k, hg, q, qx⟩ := q
  have some_ : ∀ (i : Nat) (σ : L2.St), σ = vs.map some → (σ[i]? : Option (Option V)) = some none → False := fun i σ e z => by
    subst e
    rw [List.getElem?_map] at z
    cases q : vs[i]? with
    | none => rw [q] at z; cases z
    | some y => rw [q] at z; cases z
  refine ⟨hl, B, ds, fp, R, Rx, tb, nt, k, hg, fun d ρ hr v H' B' fp' n' k' => ?_, fun x ρ hx cls d H' B' fp' n' k' rx => ?_⟩
  · obtain ⟨f1, f2, rfl, r1, k2, fr⟩ := Ok.frame (τ := [some v]) (xs := [d]) k' rfl
    have r2 := k2.rs
    rw [valsOf_some] at r2
    obtain ⟨f3, a1, a2, a3⟩ := keepP_less h r2
    have k3 : Ok K (ent0 T B H fp tb nt (fun c d _ H => E c d H) mg) B' H' (vs.map some) (keepP qs 0 n ρ) f3 := k2.part (fun i z => (some_ i _ rfl z).elim) (by rw [valsOf_some]; exact a1) (a3 k2.nd) a2
    obtain ⟨k4, n4⟩ := fr (Nxt.self a2) k3
    exact q d ρ hr v H' B' _ (n'.trans n4) k4
  · have r2 := k'.rs
    rw [valsOf_some] at r2
    obtain ⟨f3, a1, a2, a3⟩ := keepP_less h r2
    exact qx x ρ hx cls d H' B' f3 (n'.less a2) (k'.part (fun i z => (some_ i _ rfl z).elim) (by rw [valsOf_some]; exact a1) (a3 k'.nd) a2) rx
end
section
variable {P : Program} {w : World} {K : PySem.W.Frag} {mg : Str → Option Value} {base : Heap} {T : List Addr} {k j : Nat} {A : Around} {cn m x : Str} {n : Nat} {ps qs : List Nat} {g : WFX}
theorem FdX.less (F : FdX P w K mg base T A x n ps g) (h : ∀ i, qs.contains i = true → ps.contains i = true) : FdX P w K mg base T A x n qs g := by
  obtain ⟨k, f, fd, q, a, b⟩ := F.ex
  exact ⟨k, f, fd, q, a.imp (spX_less h), b⟩
theorem FdMX.less (F : FdMX P w K mg base T A cn m n ps g) (h : ∀ i, qs.contains i = true → ps.contains i = true) : FdMX P w K mg base T A cn m n qs g := by
  obtain ⟨C, k, f, fd, q, a, b, c⟩ := F.ex
  exact ⟨C, k, f, fd, q, a, b.imp (spX_less h), c⟩
end
def isCM (cn m : Str) : O → Prop
  | .oi c gs => c = cn ∧ gs.lookup m = none
  | _ => False
def wChk (cn m : Str) (w : WE) : WE := fun ρ R => w ρ fun d ρ1 => isCM cn m d ∧ R d ρ1
def wMethX (a : AD) (cn m : Str) (as : List AD) (g : WFX) (xc : Ex → En → Prop) : WE := match a with
  | .nm i => fun ρ R => isCM cn m (nth ρ i) ∧ wCallX (.nm i :: as) g xc ρ R
  | .ex w => wCallX (.ex (wChk cn m w) :: as) g xc
def wMeth (a : AD) (cn m : Str) (as : List AD) (g : WF) : WE := wMethX a cn m as (noX g) fun _ _ => False
section
variable {K : PySem.W.Frag} {B H : Hp}
end
section
variable {X : Cx} {Z : Ent} {cn m x : Str} {n i : Nat} {ps : List Nat} {g : WFX} {as : List AD} {a : AD} {e : Expr} {es : List Expr} {px apos pos : Pos}
end
section
variable {X : Cx} {Z : Ent} {cn m : Str} {n : Nat} {ps : List Nat} {as : List AD} {a : AD} {o e : Expr} {es : List Expr} {apos pos : Pos}
end
end Pt
namespace Pt
open PySem PySem.Spec L2 PyProof.Rows
section
variable {X : Cx} {CX : CXT} {k : Nat} {C f : Addr} {fd : FuncData} {ps : List Str} {sp : Sp} {E : L2.St → XK} {x : Str} {p pos : Pos} {e : Expr} {es : List Expr} {t : TA}
end
def wMakeX (cn : Str) (as : List AD) (g : WFX) (xc : Ex → En → Prop) : WE := fun ρ R => wADs as ρ fun ds ρ1 => callA as ds ρ1 fun xs ρ2 =>
  g (.oi cn [] :: xs) (fun x ρf => xc x (backA as ρf.tail ρ2)) fun d ρf => d = .fz .none ∧ R (hd0 ρf) (backA as ρf.tail ρ2)
def wMake (cn : Str) (as : List AD) (g : WF) : WE := wMakeX cn as (noX g) fun _ _ => False
section
variable {Z : Ent} {as : List AD} {n : Nat}
end
section
variable {X : Cx} {Z : Ent} {cn : Str} {n : Nat} {ps : List Nat} {as : List AD} {e : Expr} {es : List Expr} {p pos : Pos}
theorem FdIX.less {P : Program} {w : World} {K : PySem.W.Frag} {mg : Str → Option Value} {base : Heap} {T : List Addr} {A : Around} {qs : List Nat} {g : WFX} (F : FdIX P w K mg base T A cn n ps g) (h : ∀ i, qs.contains i = true → ps.contains i = true) : FdIX P w K mg base T A cn n qs g := by
  obtain ⟨C, k, f, fd, q, a, b, c⟩ := F.ex
  exact ⟨C, k, f, fd, q, a, b.imp (spX_less h), c⟩
end
section
variable {P : Program} {w : World} {K : PySem.W.Frag} {mg : Str → Option Value} {base : Heap} {T : List Addr} {x y : Str} {st : Stmt} {f C : Addr} {fd : FuncData} {N qs : List Str} {n k : Nat} {ps : List Nat} {s : WS} {cn m : Str}
end
end Pt
namespace Pt
open PySem PySem.Spec L2 PyProof.Rows
section
variable {ρ : En} {R : O → En → Prop}
@[simp] theorem x_wMeth_nm {i : Nat} {cn m : Str} {as : List AD} {g : WF} : wMeth (.nm i) cn m as g ρ R = (isCM cn m (nth ρ i) ∧ wCall (.nm i :: as) g ρ R) := rfl
@[simp] theorem x_wMeth_ex {w : WE} {cn m : Str} {as : List AD} {g : WF} : wMeth (.ex w) cn m as g ρ R = wCall (.ex (wChk cn m w) :: as) g ρ R := rfl
@[simp] theorem x_wChk {cn m : Str} {w : WE} : wChk cn m w ρ R = w ρ fun d ρ1 => isCM cn m d ∧ R d ρ1 := rfl
@[simp] theorem x_isCM {cn m c : Str} {gs : List (Str × O)} : isCM cn m (.oi c gs) = (c = cn ∧ gs.lookup m = none) := rfl
@[simp] theorem x_wMake {cn : Str} {as : List AD} {g : WF} : wMake cn as g ρ R = wADs as ρ fun ds ρ1 => callA as ds ρ1 fun xs ρ2 => g (.oi cn [] :: xs) fun d ρf => d = .fz .none ∧ R (hd0 ρf) (backA as ρf.tail ρ2) := rfl
end
end Pt
namespace Pt
open PySem PySem.Spec L2 PyProof.Rows
section
variable {K : PySem.W.Frag} {B H : Hp}
end
structure PRd (X : Cx) (e : Expr) (w : En → Option PyData) : Prop where
  ex : ∃ t : TE, PE X e t ∧ ∀ (Z : Ent) (B H : Hp) (σ : L2.St) (ρ : En) (fp : List Addr) (d : PyData), Ok X.K Z B H σ ρ fp → w ρ = some d → ∃ v, RF X.K B v d ∧ ∀ Q : VK, Q v H → t σ H Q
def rds : List (En → Option PyData) → En → Option (List PyData)
  | [], _ => some []
  | w :: ws, ρ => match w ρ, rds ws ρ with
    | some d, some ds => some (d :: ds)
    | _, _ => none
structure PRds (X : Cx) (es : List Expr) (ws : List (En → Option PyData)) : Prop where
  ex : ∃ t : TA, PA X es t ∧ ∀ (Z : Ent) (B H : Hp) (σ : L2.St) (ρ : En) (fp : List Addr) (ds : List PyData), Ok X.K Z B H σ ρ fp → rds ws ρ = some ds → ∃ vs, RFs X.K B vs ds ∧ ∀ Q : List V → Hp → Prop, Q vs H → t σ H Q
section
variable {X : Cx}
end
section
variable {X : Cx} {Z : Ent} {x cn f : Str} {px p1 apos cpos : Pos}
theorem eqv_nil {ds : List PyData} : PyData.eqv (.list ds) (.list []) = decide (ds = []) := by cases ds <;> rfl
end
def gFld (i : Nat) (cn f : Str) : WG := fun d ρ R => isOi (nth ρ i) = true ∧ lmSetF cn f (nth ρ i) [d] fun x' _ => R (ρ.set i x')
section
variable {ρ : En} {R : O → En → Prop}
@[simp] theorem x_gFld {i : Nat} {cn f : Str} {d : O} {R : En → Prop} : gFld i cn f d ρ R = (isOi (nth ρ i) = true ∧ lmSetF cn f (nth ρ i) [d] fun x' _ => R (ρ.set i x')) := rfl
end
end Pt
namespace Pt
open PySem PySem.Spec L2 PyProof.Rows
section
variable {X : Cx} {CX : CXT} {k : Nat} {C f : Addr} {fd : FuncData} {ps : List Str} {sp : Sp} {E : L2.St → XK} {x k0 : Str} {p pos : Pos} {e : Expr} {t tk : TA}
end
structure FdIKX (P : Program) (w : World) (K : PySem.W.Frag) (mg : Str → Option Value) (base : Heap) (T : List Addr) (A : Around) (cn k0 : Str) (ps : List Nat) (g : WFX) : Prop where
  ex : ∃ (C : Addr) (k : Nat) (f : Addr) (fd : FuncData) (qs : List Str) (ds : List Value), clsA K cn C ∧ FnG P w K mg base (L2N.CX P w) k f fd qs (spX K T mg 3 ps g) ∧ A.guards = some [] ∧ Room (k + 1) A ∧ mg cn = some (.ref C) ∧ Mk K C f ∧ KBn K fd qs 2 [k0] (fun us ws => us ++ ws) (fun vs zs => vs ++ zs) ∧ Vals [V.non] ds ∧ Binds K fd qs ds
structure FgIKX (P : Program) (w : World) (K : PySem.W.Frag) (mg : Str → Option Value) (base : Heap) (T : List Addr) (k : Nat) (cn k0 : Str) (ps : List Nat) (g : WFX) : Prop where
  ex : ∃ (C f : Addr) (fd : FuncData) (qs : List Str) (ds : List Value), clsA K cn C ∧ FnG P w K mg base (L2N.CX P w) k f fd qs (spX K T mg 3 ps g) ∧ mg cn = some (.ref C) ∧ Mk K C f ∧ KBn K fd qs 2 [k0] (fun us ws => us ++ ws) (fun vs zs => vs ++ zs) ∧ Vals [V.non] ds ∧ Binds K fd qs ds
abbrev FgIK (P : Program) (w : World) (K : PySem.W.Frag) (mg : Str → Option Value) (base : Heap) (T : List Addr) (k : Nat) (cn k0 : Str) (ps : List Nat) (g : WF) : Prop := FgIKX P w K mg base T k cn k0 ps (noX g)
section
variable {P : Program} {w : World} {K : PySem.W.Frag} {mg : Str → Option Value} {base : Heap} {T : List Addr} {k j : Nat} {A : Around} {cn k0 : Str} {n : Nat} {ps : List Nat}
theorem FgIKX.to {g : WFX} (F : FgIKX P w K mg base T k cn k0 ps g) (hgd : A.guards = some []) (hr : Room j A) (h : k + 1 ≤ j) : FdIKX P w K mg base T A cn k0 ps g := by
  obtain ⟨C, f, fd, qs, ds, a, b, c, d, e⟩ := F.ex
  exact ⟨C, k, f, fd, qs, ds, a, b, hgd, hr.mono h, c, d, e⟩
theorem FgIKX.impX {g g' : WFX} (F : FgIKX P w K mg base T k cn k0 ps g) (h : ∀ ds Rx R, g' ds Rx R → g ds Rx R) : FgIKX P w K mg base T k cn k0 ps g' := by
  obtain ⟨C, f, fd, qs, ds, a, b, c, d, e⟩ := F.ex
  exact ⟨C, f, fd, qs, ds, a, b.imp (spX_imp h), c, d, e⟩
theorem FgIKX.imp {g g' : WF} (F : FgIK P w K mg base T k cn k0 ps g) (h : ∀ ds R, g' ds R → g ds R) : FgIK P w K mg base T k cn k0 ps g' := F.impX fun ds _ R => h ds R
theorem FdIKX.less {qs : List Nat} {g : WFX} (F : FdIKX P w K mg base T A cn k0 ps g) (h : ∀ i, qs.contains i = true → ps.contains i = true) : FdIKX P w K mg base T A cn k0 qs g := by
  obtain ⟨C, k, f, fd, q, ds, a, b, c⟩ := F.ex
  exact ⟨C, k, f, fd, q, ds, a, b.imp (spX_less h), c⟩
end
section
variable {K : PySem.W.Frag} {Z : Ent} {σ : L2.St} {H : Hp}
end
section
variable {X : Cx} {Z : Ent} {cn k0 : Str} {ps : List Nat} {a1 a2 : AD} {e v : Expr} {p pos kp : Pos} {g : WF}
end
section
variable {P : Program} {w : World} {K : PySem.W.Frag} {mg : Str → Option Value} {base : Heap} {T : List Addr} {x y : Str} {st : Stmt} {f C : Addr} {fd : FuncData} {N qs : List Str} {k : Nat} {ps : List Nat} {s : WS} {cn k0 : Str}
end
end Pt
namespace Pt
open PySem PySem.Spec L2 PyProof.Rows
def cut (H : Hp) (a : Addr) : Hp := fun b => if b = a then none else H b
theorem cut_ne {H : Hp} {a b : Addr} (h : b ≠ a) : cut H a b = H b := if_neg h
theorem cut_same {H : Hp} {a : Addr} : cut H a a = none := if_pos rfl
theorem cut_some {H : Hp} {a b : Addr} {o : HO} (h : cut H a b = some o) : b ≠ a ∧ H b = some o := by
  by_cases e : b = a
  · rw [e, cut_same] at h; cases h
  · rw [cut_ne e] at h; exact ⟨e, h⟩
theorem off_of {H : Hp} {a b : Addr} {o u : HO} (ha : H a = some o) (hb : H b = some u) (d : u ≠ o) : b ≠ a := fun e => by
  rw [e, ha] at hb
  exact d (Option.some.inj hb).symm
section
variable {X : Cx} {pins : List (Addr × Obj)} {σ : L2.St} {H : Hp} {s : Shared} {a : Addr} {oe : Obj} {vs : Array Value}
end
section
variable {X : Cx} {x n : Str} {c : Value} {i : Nat} {body suite : List Stmt} {b₀ : Stmt} {np pos pos' : Pos} {tb : WX → TS} {t2 : Addr → Obj → TS} {Wout : WX}
end
end Pt
namespace Pt
open PySem PySem.Spec L2 PyProof.Rows
mutual
def dX : O → O
  | .fz f => .fz f
  | .ol xs => .ol (dXs xs)
  | .ot xs => .ot (dXs xs)
  | .od kvs => .od (dXk kvs)
  | .oi cn gs => .oi cn (dXf gs)
  | .scr ns => .scr ns
  | .lf ds => .lf ds
  | .df kvs => .df kvs
  | .tn ds => .tn ds
  | .dl kvs => .dl kvs
  | .dt kvs => .dt kvs
  | .dq kvs => .dq kvs
  | .dn v kvs => .dn v kvs
  | .dz v kvs => .dz v kvs
  | .exn _ _ => .hid
  | .hid => .hid
def dXs : List O → List O
  | [] => []
  | x :: r => dX x :: dXs r
def dXk : List (Key × O) → List (Key × O)
  | [] => []
  | (k, x) :: r => (k, dX x) :: dXk r
def dXf : List (Str × O) → List (Str × O)
  | [] => []
  | (k, x) :: r => (k, dX x) :: dXf r
end
theorem dXk_fst : ∀ kvs : List (Key × O), (dXk kvs).map (·.1) = kvs.map (·.1)
  | [] => rfl
  | (k, x) :: r => by
    show k :: (dXk r).map (·.1) = k :: r.map (·.1)
    rw [dXk_fst r]
theorem dXk_snd : ∀ kvs : List (Key × O), (dXk kvs).map (·.2) = dXs (kvs.map (·.2))
  | [] => rfl
  | (k, x) :: r => by
    show dX x :: (dXk r).map (·.2) = dX x :: dXs (r.map (·.2))
    rw [dXk_snd r]
theorem dXf_fst : ∀ kvs : List (Str × O), (dXf kvs).map (·.1) = kvs.map (·.1)
  | [] => rfl
  | (k, x) :: r => by
    show k :: (dXf r).map (·.1) = k :: r.map (·.1)
    rw [dXf_fst r]
theorem dXf_snd : ∀ kvs : List (Str × O), (dXf kvs).map (·.2) = dXs (kvs.map (·.2))
  | [] => rfl
  | (k, x) :: r => by
    show dX x :: (dXf r).map (·.2) = dX x :: dXs (r.map (·.2))
    rw [dXf_snd r]
theorem dXs_map : ∀ xs : List O, dXs xs = xs.map dX
  | [] => rfl
  | x :: r => by
    show dX x :: dXs r = dX x :: r.map dX
    rw [dXs_map r]
section
variable {K : PySem.W.Frag} {B H : Hp} {a : Addr} {oe : Obj}
theorem cut_sqT (hB : B a = some (.frz oe (.own a))) {p : Addr} {vs : List V} (x : SqT K B p vs) : SqT K (cut B a) p vs := by
  rcases x with (x | ⟨o, x⟩) | x
  · exact .inl (.inl (by rw [cut_ne (off_of hB x (fun q => nomatch q))]; exact x))
  · exact .inl (.inr ⟨o, by rw [cut_ne (off_of hB x (fun q => by injection q with _ q2; exact nomatch q2))]; exact x⟩)
  · exact .inr x
theorem cut_sqL (hB : B a = some (.frz oe (.own a))) {p : Addr} {vs : List V} (x : SqL K B p vs) : SqL K (cut B a) p vs := by
  rcases x with (x | ⟨o, x⟩) | x
  · exact .inl (.inl (by rw [cut_ne (off_of hB x (fun q => nomatch q))]; exact x))
  · exact .inl (.inr ⟨o, by rw [cut_ne (off_of hB x (fun q => by injection q with _ q2; exact nomatch q2))]; exact x⟩)
  · exact .inr x
theorem cut_nd (hB : B a = some (.frz oe (.own a))) {p : Addr} (x : ND K B p) : ND K (cut B a) p := by
  rcases x with ⟨o, vs, e, z⟩ | z
  · exact .inl ⟨o, vs, by rw [cut_ne (off_of hB e (fun q => by injection q with _ q2; exact nomatch q2))]; exact e, z⟩
  · exact .inr z
theorem cut_at {o : HO} (hB : B a = some (.frz oe (.own a))) {p : Addr} (e : B p = some o) (d : o ≠ .frz oe (.own a)) : cut B a p = some o := by
  rw [cut_ne (off_of hB e d)]
  exact e
mutual
theorem RF.cutX (hB : B a = some (.frz oe (.own a))) : ∀ {d : PyData} {v : V}, RF K B v d → RF K (cut B a) v d
  | _, _, .non => .non
  | _, _, .bl b => .bl b
  | _, _, .int i => .int i
  | _, _, .str x => .str x
  | _, _, .lst e r => .lst (cut_at hB e (fun q => nomatch q)) (RFs.cutX hB r)
  | _, _, .tup e r => .tup (cut_sqT hB e) (RFs.cutX hB r)
  | _, _, .dic e r => .dic (cut_at hB e (fun q => nomatch q)) (RFd.cutX hB r)
  | _, _, .lm e d r => .lm (cut_at hB e (fun q => nomatch q)) (fun i z => by
    obtain ⟨b, e1, e2⟩ := d i z
    exact ⟨b, e1, cut_nd hB e2⟩) (RFs.cutX hB r)
theorem RFs.cutX (hB : B a = some (.frz oe (.own a))) : ∀ {ds : List PyData} {vs : List V}, RFs K B vs ds → RFs K (cut B a) vs ds
  | _, _, .nil => .nil
  | _, _, .cons r s => .cons (RF.cutX hB r) (RFs.cutX hB s)
theorem RFd.cutX (hB : B a = some (.frz oe (.own a))) : ∀ {ds : List (PyData × PyData)} {vs : List (Key × V)}, RFd K B vs ds → RFd K (cut B a) vs ds
  | _, _, .nil => .nil
  | _, _, .cons r s => .cons (RF.cutX hB r) (RFd.cutX hB s)
end
theorem DqE.cutX (hB : B a = some (.frz oe (.own a))) : ∀ {xs : List (List Int × Addr × Value)} {ds : List (List Int × PyData)}, DqE K B xs ds → DqE K (cut B a) xs ds
  | _, _, .nil => .nil
  | _, _, .cons e r f t => .cons (cut_sqT hB e) r (f.cutX hB) (t.cutX hB)
mutual
theorem RO.cutX (hB : B a = some (.frz oe (.own a))) (hH : H a = some (.frz oe (.own a))) : ∀ {x : O} {v : V} {fp : List Addr}, RO K B H v x fp → RO K (cut B a) (cut H a) v (dX x) fp
  | _, _, _, .fz r => .fz (r.cutX hB)
  | _, _, _, .hid => .hid
  | _, _, _, .tn e d r => .tn (cut_sqT hB e) (cut_nd hB d) (r.cutX hB)
  | _, _, _, .dl e q r => .dl (cut_at hB e (fun q => by injection q with _ q2; exact nomatch q2)) q (r.cutX hB)
  | _, _, _, .scr e => .scr (cut_sqL hB e)
  | _, _, _, .lf e r => .lf (cut_at hH e (fun q => nomatch q)) (r.cutX hB)
  | _, _, _, .df e q r => .df (cut_at hH e (fun q => nomatch q)) q (r.cutX hB)
  | _, _, _, .dt e q r => .dt (cut_at hH e (fun q => nomatch q)) q (r.cutX hB)
  | _, _, _, .dq e q r => .dq (cut_at hH e (fun q => nomatch q)) (q.cutX hB) r
  | _, _, _, .dn e q d r => .dn (cut_at hH e (fun q => nomatch q)) (q.cutX hB) (fun x hx => ⟨cut_nd hB (d x hx).1, fun z => let ⟨b, e, n⟩ := (d x hx).2 z; ⟨b, e, cut_nd hB n⟩⟩) r
  | _, _, _, .dz e q d r => .dz (cut_at hB e (fun q => nomatch q)) (q.cutX hB) (fun x hx => ⟨cut_nd hB (d x hx).1, fun z => let ⟨b, e, n⟩ := (d x hx).2 z; ⟨b, e, cut_nd hB n⟩⟩) r
  | _, _, _, .ol e r => .ol (cut_at hH e (fun q => nomatch q)) (ROs.cutX hB hH r)
  | _, _, _, .ot e r => .ot (cut_at hB e (fun q => nomatch q)) (ROs.cutX hB hH r)
  | _, _, _, .od e q r => .od (cut_at hH e (fun q => nomatch q)) (by rw [dXk_fst]; exact q) (by rw [dXk_snd]; exact ROs.cutX hB hH r)
  | _, _, _, .exn n e x => .hid
  | _, _, _, .oi n e q r => .oi n (cut_at hH e (fun q => nomatch q)) (by rw [dXf_fst]; exact q) (by rw [dXf_snd]; exact ROs.cutX hB hH r)
theorem ROs.cutX (hB : B a = some (.frz oe (.own a))) (hH : H a = some (.frz oe (.own a))) : ∀ {xs : List O} {vs : List V} {fp : List Addr}, ROs K B H vs xs fp → ROs K (cut B a) (cut H a) vs (dXs xs) fp
  | _, _, _, .nil => .nil
  | _, _, _, .cons r s => .cons (RO.cutX hB hH r) (ROs.cutX hB hH s)
end
theorem TbK.cutX {H0 : Hp} (t : TbK H0 H) (hH : H a = some (.frz oe (.own a))) : TbK H0 (cut H a) := fun P hP => by
  obtain ⟨ps, h1, h2, h3⟩ := t P hP
  refine ⟨ps, cut_at hH h1 (fun q => nomatch q), h2, fun pos cv hc => ?_⟩
  obtain ⟨c, e1, e2⟩ := h3 pos cv hc
  refine ⟨c, e1, cut_at hH e2 fun q => ?_⟩
  unfold LamX.CodeO at q
  exact nomatch q
theorem Nxt.cutX {B0 H0 : Hp} {f0 fp : List Addr} (n : Nxt B0 H0 f0 B H fp) (h0 : H0 a = none) (b0 : B0 a = none) (hH : H a = some (.frz oe (.own a))) : Nxt B0 H0 f0 (cut B a) (cut H a) fp where
  bsub := fun x o e => by
    rw [cut_ne (ne_of_none e b0)]
    exact n.bsub x o e
  keep := fun x o e m t => by
    rw [cut_ne (ne_of_none e h0)]
    exact n.keep x o e m t
  newB := fun x e => n.newB x fun z => by
    by_cases q : x = a
    · rw [q] at e; exact e cut_same
    · rw [cut_ne q] at e; exact e z
  newF := n.newF
  live := fun x e => by
    by_cases q : x = a
    · rw [q]; exact h0
    · rw [cut_ne q] at e; exact n.live x e
  tabs := n.tabs.cutX hH
  ntb := fun h x o e => n.ntb h x o (cut_some e).2
theorem Ok.cutX {Z : Ent} {σ : L2.St} {ρ : En} {fp : List Addr} (k : Ok K Z B H σ ρ fp) (h0 : Z.H a = none) (b0 : Z.B a = none) (hB : B a = some (.frz oe (.own a))) : Ok K Z (cut B a) (cut H a) σ (ρ.map dX) fp where
  sub := fun x o e => by
    obtain ⟨ne, e⟩ := cut_some e
    rw [cut_ne ne]
    exact k.sub x o e
  un := fun i e => by
    rw [List.getElem?_map, k.un i e]
    rfl
  rs := by
    rw [← dXs_map]
    exact k.rs.cutX hB (k.sub _ _ hB)
  nd := k.nd
  out := fun x hx => by
    by_cases q : x = a
    · rw [q]; exact cut_same
    · rw [cut_ne q]; exact k.out x hx
  nx := k.nx.cutX h0 b0 (k.sub _ _ hB)
end
def sRaise (cn : Str) : WS := fun E ρ => E.xc ⟨cn, []⟩ ρ
def sDropX (w : WEX) : WS := fun E ρ => w E.xc ρ fun _ ρ1 => E.nx ρ1
def sRetX (w : WEX) : WS := fun E ρ => w E.xc ρ fun d ρ1 => E.rt d ρ1
def sStoreX (i : Nat) (w : WEX) : WS := fun E ρ => w E.xc ρ fun d ρ1 => E.nx (ρ1.set i d)
def wFzX (w : WEX) : WEX := fun xc ρ R => w xc ρ fun d ρ1 => ∃ f, frO d = some f ∧ R (.fz f) ρ1
structure RaisC (K : PySem.W.Frag) (C : Addr) : Prop where
  x : PySem.W.excIn K C [.type "ValueError", .type "Exception", .type "BaseException", .type "object"] "ValueError.__new__" = true
  k : PySem.W.keepIn K (.ref C) = true
  b : PySem.W.subIn K (.ref C) (.type "BaseException") = some true
  t : PySem.W.typeIn K (.ref C) = some (.type "type")
section
variable {X : Cx} {Z : Ent} {ps : List Nat} {e : Expr} {w : WEX} {pos p p2 pos2 : Pos} {x m : Str} {j : Nat}
end
def nX (g : WFX) : WF := fun ds R => g ds (fun _ _ => False) R
section
variable {P : Program} {w : World} {K : PySem.W.Frag} {mg : Str → Option Value} {base : Heap} {T : List Addr} {A : Around} {cn m x : Str} {n : Nat} {ps : List Nat}
theorem spX_no {g : WFX} (vs : List V) (H : Hp) (Q : VK) (E : XK) (q : spX K T mg n ps (noX (nX g)) vs H Q E) : spX K T mg n ps g vs H Q E := by
  obtain ⟨hl, B, ds, fp, R, Rx, tb, nt, k, hg, q, _⟩ := q
  exact ⟨hl, B, ds, fp, R, _, tb, nt, k, hg, q, fun _ _ z => z.elim⟩
theorem FdX.nox {g : WFX} (F : FdX P w K mg base T A x n ps g) : Fd P w K mg base T A x n ps (nX g) := by
  obtain ⟨k, f, fd, q, a, b⟩ := F.ex
  exact ⟨k, f, fd, q, a.imp spX_no, b⟩
theorem FdMX.nox {g : WFX} (F : FdMX P w K mg base T A cn m n ps g) : FdM P w K mg base T A cn m n ps (nX g) := by
  obtain ⟨C, k, f, fd, q, a, b, c⟩ := F.ex
  exact ⟨C, k, f, fd, q, a, b.imp spX_no, c⟩
end
def pick : Option Bool → Prop → Prop → Prop
  | some true, p, _ => p
  | some false, _, q => q
  | none, _, _ => False
def suE (i : Nat) (E : DE) : DE := ⟨fun ρ => E.nx ((ρ.set i .hid).map dX), fun d ρ => E.rt (dX d) (ρ.map dX), fun ρ => E.bk ((ρ.set i .hid).map dX), fun ρ => E.ct ((ρ.set i .hid).map dX), fun _ _ => False⟩
def sTryAs (i : Nat) (sub : Str → Option Bool) (s t : WS) : WS := fun E ρ => s { E with xc := fun x ρ' => pick (sub x.cn) (t (suE i E) (ρ'.set i (.exn x.cn x.fs))) (E.xc x ρ') } ρ
def sTryOnly (sub : Str → Option Bool) (s t : WS) : WS := fun E ρ => s { E with xc := fun x ρ' => pick (sub x.cn) (t { E with xc := fun _ _ => False } ρ') (E.xc x ρ') } ρ
section
variable {X : Cx} {Z : Ent} {ps : List Nat} {x n : Str} {C : Addr} {i : Nat} {sub : Str → Option Bool} {body suite : List Stmt} {b₀ : Stmt} {np pos pos' : Pos} {s t : WS}
theorem RX.has {K : PySem.W.Frag} {mg : Str → Option Value} {B : Hp} {cls : Value} {d : Option Addr} {y : Ex} (r : RX K mg B cls d y) : ∃ D, cls = .ref D ∧ clsA K y.cn D := by
  obtain ⟨D, a, b, _⟩ := r
  exact ⟨D, a, b⟩
def Ent.at (Z : Ent) (B H : Hp) (fp : List Addr) (n : Nxt Z.B Z.H Z.fp B H fp) : Ent := { B := B, H := H, fp := fp, T := Z.T, tb := fun P hP => n.tabs P (Z.tb P hP), nt := n.ntb Z.nt, W := fun _ _ _ _ => False, mg := Z.mg }
def HotZ (A : Around) (B : Hp) : Prop := ∃ a oe, A.handled = some (.ref a) ∧ B a = some (.frz oe (.own a)) ∧ (∃ vs, oe.data = .fields vs) ∧ PXN.CtxN oe
end
end Pt
namespace Pt
open PySem PySem.Spec L2 PyProof.Rows
def EN : List Str := ["PlantError", "NoPlant", "NoStation", "NoStock", "NoPattern", "NoDays", "NoBox", "NotOrdered", "NoWords", "NoNumber", "TooMany", "Full", "Nothing", "NoText", "NoRow"]
def ES : List Str := ["NoPlant", "NoStation", "NoStock", "NoPattern", "NoDays", "NoBox", "NotOrdered", "NoWords", "NoNumber", "TooMany", "Full", "Nothing", "NoText", "NoRow"]
def isA (y d : Str) : Bool := y == d || (d == "PlantError" || d == "ValueError")
structure ErrF (K : PySem.W.Frag) : Prop where
  exc : ∀ y ∈ ES, ∀ D, clsA K y D → ExcC K D
  val : ∀ y ∈ ES, ∀ D, clsA K y D → PySem.W.kitOne K (.ref D) (.type "ValueError") = some true
  own : ∀ y ∈ ES, ∀ d ∈ EN, ∀ D C, clsA K y D → clsA K d C → PySem.W.kitOne K (.ref D) (.ref C) = some (isA y d) ∧ PySem.W.exmOne K (.ref D) (.ref C) = some (isA y d)
  rais : ∀ y ∈ ES, y ≠ "TooMany" → ∀ D, clsA K y D → RaisC K D
  size : ∀ D, clsA K "TooMany" D → PySem.W.findIn K (.ref D) "size" = some none
def asXn : O → (Str → List (Str × PyData) → Prop) → Prop
  | .exn c f, k => k c f
  | _, _ => False
def wVx (i : Nat) : WE := fun ρ R => asXn (nth ρ i) fun c f => R (.exn c f) ρ
section
variable {X : Cx} {Z : Ent} {pos : Pos}
end
def Xat (K : PySem.W.Frag) (H : Hp) (v : V) (C : Addr) : Prop := ∃ a oe, v = .ref a ∧ H a = some (.frz oe (.own a)) ∧ oe.cls = .ref C ∧ (∃ vs, oe.data = .fields vs) ∧ (oe.dict = none ∨ ∃ dd vs, oe.dict = some dd ∧ H dd = some (.xd vs))
section
variable {X : Cx}
end
def oIsX (d : Str) : List O → (O → Prop) → Prop
  | [.exn y _], R => ES.contains y = true ∧ R (.fz (.bool (isA y d)))
  | _, _ => False
def oIsXT (ds : List Str) : List O → (O → Prop) → Prop
  | [.exn y _], R => ES.contains y = true ∧ R (.fz (.bool (ds.any (isA y))))
  | _, _ => False
section
variable {K : PySem.W.Frag} {B H : Hp}
def ClE (K : PySem.W.Frag) (d : Str) (c : V) (u : Value) : Prop := (d ∈ EN ∧ ∃ C, clsA K d C ∧ c = .ref C ∧ u = .ref C) ∨ (d = "ValueError" ∧ c = .ty "ValueError" ∧ u = .type "ValueError")
inductive ClEs (K : PySem.W.Frag) : List Str → List V → List Value → Prop
  | nil : ClEs K [] [] []
  | cons {d : Str} {c : V} {u : Value} {ds : List Str} {cs : List V} {us : List Value} : ClE K d c u → ClEs K ds cs us → ClEs K (d :: ds) (c :: cs) (u :: us)
theorem Xat.upd {H : Hp} {v : V} {C p : Addr} {o : HO} (x : Xat K H v C) (hp : H p = none) : Xat K (upd H p o) v C := by
  obtain ⟨a, oe, e, h1, h2, h3, h4⟩ := x
  refine ⟨a, oe, e, by rw [upd_ne (ne_of_none h1 hp)]; exact h1, h2, h3, ?_⟩
  rcases h4 with h4 | ⟨dd, vs, h4, h5⟩
  · exact .inl h4
  · exact .inr ⟨dd, vs, h4, by rw [upd_ne (ne_of_none h5 hp)]; exact h5⟩
def oIsiT (Ts : List String) : List O → (O → Prop) → Prop
  | [x], R => ∃ t, tyO x = some t ∧ R (.fz (.bool (Ts.any (isSub t))))
  | _, _ => False
end
section
variable {X : Cx} {Z : Ent} {e : Expr} {p p2 pos : Pos} {a1 : AD} {y : Str}
end
section
variable {X : Cx} {Z : Ent} {e : Expr} {es : List Expr} {p p2 pos pos2 : Pos} {a1 : AD} {k4 : Nat}
end
end Pt
namespace Pt
open PySem PySem.Spec L2 PyProof.Rows
def light : O → Bool
  | .fz _ => true
  | .tn _ => true
  | .scr _ => true
  | .hid => true
  | .dl _ => true
  | .exn _ _ => true
  | _ => false
def snapO (x : O) : O := if light x = true then x else match frO x with
  | some f => .fz f
  | none => .hid
def flatP : PyData → Bool
  | .none => true
  | .bool _ => true
  | .int _ => true
  | .str _ => true
  | _ => false
def wPeek (w : WE) : WE := fun ρ R => w (ρ.map snapO) fun d _ => asF d fun f => flatP f = true ∧ R (.fz f) ρ
def wPeekT (w : WT) : WT := fun ρ R => w (ρ.map snapO) fun b _ => R b ρ
section
variable {K : PySem.W.Frag} {Z : Ent} {B H B' H' : Hp} {σ : L2.St} {ρ : En} {fp : List Addr}
theorem RF.flt0 {v : V} {f : PyData} (r : RF K B v f) (h : flatP f = true) : RF K B' v f := by
  cases r with
  | non => exact .non
  | bl b => exact .bl b
  | int i => exact .int i
  | str x => exact .str x
  | lst _ _ => cases h
  | tup _ _ => cases h
  | dic _ _ => cases h
  | lm _ _ _ => cases h
end
section
variable {X : Cx} {Z : Ent} {e : Expr} {w : WE} {wt : WT}
end
section
variable {X : Cx} {k : Nat} {C f : Addr} {fd : FuncData} {qs : List Str} {sp : Sp}
end
def wLenO (a : AD) (cn : Str) (g : WF) : WE := fun ρ R => wMeth a cn "__len__" [] g ρ fun d ρ1 => asI d fun n => (0 ≤ n ∧ n < 2 ^ 63) ∧ R (.fz (.int n)) ρ1
def eqG (cn : Str) (g : WF) : WF := fun ds R => (∃ x y, ds = [x, y] ∧ isCM cn "__eq__" x ∧ isCM cn "__eq__" y) ∧ g ds R
def wEqO (a b : AD) (cn : Str) (g : WF) : WE := fun ρ R => wCall [a, b] (eqG cn g) ρ fun d ρ1 => asB d fun c => R (.fz (.bool c)) ρ1
section
variable {K : PySem.W.Frag} {Z : Ent}
end
section
variable {X : Cx} {Z : Ent} {cn : Str} {ps : List Nat} {a b : AD} {o e e2 : Expr} {p pos : Pos} {g : WF} {k j : Nat}
end
section
variable {X : Cx} {Z : Ent} {o : Expr} {name : Str} {apos cpos : Pos} {id : String} {wo : WE} {lm : O → List O → (O → O → Prop) → Prop} {r : V → List V → Hp → VK → Prop}
end
end Pt
namespace Pt
open PySem PySem.Spec L2
section
variable {ρ : En} {R : O → En → Prop} {T : Bool → En → Prop} {E : DE} {i : Nat} {w : WE} {wx : WEX} {wt : WT} {s t : WS} {cn : Str} {f : PyData} {k : O → Prop} {sub : Str → Option Bool} {xc : Ex → En → Prop}
@[simp] theorem x_wPeek : wPeek w ρ R = w (ρ.map snapO) fun d _ => asF d fun f => flatP f = true ∧ R (.fz f) ρ := rfl
@[simp] theorem x_wPeekT : wPeekT wt ρ T = wt (ρ.map snapO) fun b _ => T b ρ := rfl
@[simp] theorem x_snap1 : snapO (.fz f) = .fz f := rfl
@[simp] theorem x_snap2 : snapO .hid = .hid := rfl
@[simp] theorem x_snap3 {ds : List PyData} : snapO (.tn ds) = .tn ds := rfl
@[simp] theorem x_snap4 {ns : List Int} : snapO (.scr ns) = .scr ns := rfl
@[simp] theorem x_snap5 {ds : List PyData} : snapO (.lf ds) = .fz (.list ds) := rfl
@[simp] theorem x_snap6 {c : Str} {gs : List (Str × O)} : snapO (.oi c gs) = .hid := rfl
@[simp] theorem x_flP1 {b : Bool} : flatP (.bool b) = true := rfl
@[simp] theorem x_flP2 {b : Int} : flatP (.int b) = true := rfl
@[simp] theorem x_flP3 {b : Str} : flatP (.str b) = true := rfl
@[simp] theorem x_flP4 : flatP .none = true := rfl
@[simp] theorem x_isiT {Ts : List String} : oIsiT Ts [.fz f] k = ∃ t, tyO (.fz f) = some t ∧ k (.fz (.bool (Ts.any (isSub t)))) := rfl
@[simp] theorem x_isX {d y : Str} {fs : List (Str × PyData)} : oIsX d [.exn y fs] k = (ES.contains y = true ∧ k (.fz (.bool (isA y d)))) := rfl
@[simp] theorem x_isXT {ds : List Str} {y : Str} {fs : List (Str × PyData)} : oIsXT ds [.exn y fs] k = (ES.contains y = true ∧ k (.fz (.bool (ds.any (isA y))))) := rfl
@[simp] theorem x_wVx : wVx i ρ R = asXn (nth ρ i) fun c f => R (.exn c f) ρ := rfl
@[simp] theorem x_asXn {fs : List (Str × PyData)} {kx : Str → List (Str × PyData) → Prop} : asXn (.exn cn fs) kx = kx cn fs := rfl
@[simp] theorem x_nhX {p : Prop} {fs : List (Str × PyData)} : notHid (.exn cn fs) p = p := rfl
@[simp] theorem x_wLenO {a : AD} {g : WF} : wLenO a cn g ρ R = wMeth a cn "__len__" [] g ρ fun d ρ1 => asI d fun n => (0 ≤ n ∧ n < 2 ^ 63) ∧ R (.fz (.int n)) ρ1 := rfl
@[simp] theorem x_wEqO {a b : AD} {g : WF} : wEqO a b cn g ρ R = wCall [a, b] (eqG cn g) ρ fun d ρ1 => asB d fun c => R (.fz (.bool c)) ρ1 := rfl
@[simp] theorem x_eqG {g : WF} {x y : O} : eqG cn g [x, y] R = ((isCM cn "__eq__" x ∧ isCM cn "__eq__" y) ∧ g [x, y] R) := propext ⟨fun ⟨⟨_, _, e, h⟩, h2⟩ => by cases e; exact ⟨h, h2⟩, fun ⟨h, h2⟩ => ⟨⟨_, _, rfl, h⟩, h2⟩⟩
@[simp] theorem x_sRaise : sRaise cn E ρ = E.xc ⟨cn, []⟩ ρ := rfl
@[simp] theorem x_sDropX : sDropX wx E ρ = wx E.xc ρ fun _ ρ1 => E.nx ρ1 := rfl
@[simp] theorem x_sRetX : sRetX wx E ρ = wx E.xc ρ fun d ρ1 => E.rt d ρ1 := rfl
@[simp] theorem x_sStoreX : sStoreX i wx E ρ = wx E.xc ρ fun d ρ1 => E.nx (ρ1.set i d) := rfl
@[simp] theorem x_wFzX : wFzX wx xc ρ R = wx xc ρ fun d ρ1 => ∃ f, frO d = some f ∧ R (.fz f) ρ1 := rfl
@[simp] theorem x_pickT {p q : Prop} : pick (some true) p q = p := rfl
@[simp] theorem x_pickF {p q : Prop} : pick (some false) p q = q := rfl
@[simp] theorem x_wCallX {as : List AD} {g : WFX} : wCallX as g xc ρ R = wADs as ρ fun ds ρ1 => callA as ds ρ1 fun xs ρ2 => g xs (fun x ρf => xc x (backA as ρf ρ2)) fun d ρf => R d (backA as ρf ρ2) := rfl
@[simp] theorem x_nX {g : WFX} {ds : List O} : nX g ds R = g ds (fun _ _ => False) R := rfl
@[simp] theorem x_tryAs : sTryAs i sub s t E ρ = s { E with xc := fun x ρ' => pick (sub x.cn) (t (suE i E) (ρ'.set i (.exn x.cn x.fs))) (E.xc x ρ') } ρ := rfl
@[simp] theorem x_tryOnly : sTryOnly sub s t E ρ = s { E with xc := fun x ρ' => pick (sub x.cn) (t { E with xc := fun _ _ => False } ρ') (E.xc x ρ') } ρ := rfl
@[simp] theorem x_dX1 : dX (.fz f) = .fz f := rfl
@[simp] theorem x_dX2 : dX .hid = .hid := rfl
@[simp] theorem x_dX3 {ds : List PyData} : dX (.lf ds) = .lf ds := rfl
@[simp] theorem x_dX4 {fs : List (Str × PyData)} : dX (.exn cn fs) = .hid := rfl
@[simp] theorem x_dX5 {ds : List PyData} : dX (.tn ds) = .tn ds := rfl
@[simp] theorem x_dX6 {ns : List Int} : dX (.scr ns) = .scr ns := rfl
@[simp] theorem x_dX7 {gs : List (Str × O)} : dX (.oi cn gs) = .oi cn (dXf gs) := rfl
@[simp] theorem x_suNx : (suE i E).nx ρ = E.nx ((ρ.set i .hid).map dX) := rfl
@[simp] theorem x_suRt {d : O} : (suE i E).rt d ρ = E.rt (dX d) (ρ.map dX) := rfl
end
end Pt
namespace Pt
open PySem PySem.Spec L2
section
variable {Z : Ent} {w : WE} {wt : WT} {g : WG}
end
theorem ItN.off {K : PySem.W.Frag} {B H : Hp} {fp : List Addr} {p : Addr} {vs : List V} {ds : List PyData} (h : H p = some (.lst vs)) (hp : p ∉ fp) (r : RFs K B vs ds) : ItN K (Itl K p) B H fp ds := fun B' H' g n s i => by
  have hb : SqL K H' p vs := .inl (.inl (n.keep _ _ h hp pl_lst.1))
  have hl := r.length
  refine ⟨fun hi => ?_, fun hi => ⟨vs, hb, by omega⟩⟩
  obtain ⟨v, hv, rv⟩ := r.get (List.getElem?_eq_getElem hi)
  refine ⟨⟨vs, v, hb, hv⟩, fun x H2 hy => ?_⟩
  obtain ⟨rfl, f⟩ := hy
  have e := f vs hb
  rw [hv] at e
  cases e
  exact ⟨_, B', List.getElem?_eq_getElem hi, Out.here (rv.mono n.bsub) s⟩
def wLcF (i : Nat) (cn f : Str) (g : WG) (wt : WT) (w : WE) (own : List Nat) : WE := fun ρ R => ∃ gs ds, nth ρ i = .oi cn gs ∧ gs.lookup f = some (.lf ds) ∧ ds.length ≤ szMax ∧
  lcN g wt w own (fun out ρ2 => (wipeO ρ2 own)[i]? = some O.hid ∧ R (.ol out) ((wipeO ρ2 own).set i (.oi cn gs))) ds (ρ.set i .hid) []
section
variable {X : Cx} {Z : Ent} {w : WE} {wt : WT} {g : WG}
end
section
variable {i : Nat} {cn f : Str} {g : WG} {wt : WT} {w : WE} {own : List Nat} {ρ : En} {R : O → En → Prop}
@[simp] theorem x_wLcF : wLcF i cn f g wt w own ρ R = ∃ gs ds, nth ρ i = .oi cn gs ∧ gs.lookup f = some (.lf ds) ∧ ds.length ≤ szMax ∧ lcN g wt w own (fun out ρ2 => (wipeO ρ2 own)[i]? = some O.hid ∧ R (.ol out) ((wipeO ρ2 own).set i (.oi cn gs))) ds (ρ.set i .hid) [] := rfl
end
end Pt
namespace Pt
open PySem PySem.Spec PyProof.Rows L2
end Pt
set_option maxHeartbeats 1000000
namespace Pt
open PySem PySem.Spec PyProof.Rows L2
def gUnO (n : Nat) (gs : List O → En → (En → Prop) → Prop) : WG := fun d ρ R => ∃ xs, d = .ol xs ∧ xs.length = n ∧ gs xs ρ R
section
variable {X : Cx} {Z : Ent} {own : List Nat} {pos : Pos} {gs : List O → En → (En → Prop) → Prop}
end
def oIsO (cn : Str) : List O → (O → Prop) → Prop
  | [.oi c _], R => c = cn ∧ R (.fz (.bool true))
  | _, _ => False
section
variable {X : Cx} {Z : Ent} {e : Expr} {p p2 pos : Pos} {a1 : AD} {y : Str}
end
@[simp] theorem x_isO {cn c : Str} {gs : List (Str × O)} {k : O → Prop} : oIsO cn [.oi c gs] k = (c = cn ∧ k (.fz (.bool true))) := rfl
@[simp] theorem x_gUnO {n : Nat} {gs : List O → En → (En → Prop) → Prop} {xs : List O} {ρ : En} {R : En → Prop} : gUnO n gs (.ol xs) ρ R = (xs.length = n ∧ gs xs ρ R) := propext ⟨fun ⟨_, e, h⟩ => by cases e; exact h, fun h => ⟨_, rfl, h⟩⟩
end Pt
namespace Pt
open PySem PySem.Spec L2 PyProof.Rows
def HotB (a : Addr) (B : Hp) : Prop := ∃ oe, B a = some (.frz oe (.own a)) ∧ (∃ vs, oe.data = .fields vs) ∧ PXN.CtxN oe
theorem HotB.up {a : Addr} {B B' : Hp} (h : HotB a B) (s : Sub B B') : HotB a B' := by
  obtain ⟨oe, h2, h3⟩ := h
  exact ⟨oe, s _ _ h2, h3⟩
theorem HotZ.up {A : Around} {B B' : Hp} (h : HotZ A B) (s : Sub B B') : HotZ A B' := by
  obtain ⟨a, oe, h1, h2, h3⟩ := h
  exact ⟨a, oe, h1, s _ _ h2, h3⟩
theorem HotZ.b {A : Around} {B : Hp} (h : HotZ A B) : ∃ a, A.handled = some (.ref a) ∧ HotB a B := by
  obtain ⟨a, oe, h1, h2⟩ := h
  exact ⟨a, h1, oe, h2⟩
theorem HotB.z {A : Around} {B : Hp} {a : Addr} (h : HotB a B) (h1 : A.handled = some (.ref a)) : HotZ A B := by
  obtain ⟨oe, h2⟩ := h
  exact ⟨a, oe, h1, h2⟩
def hotX (X : Cx) (a : Addr) (xe : Value → Shared → Prop) : Cx := { X with A := X.A.mark (some (.ref a)), calm := false, pn := [], xe := xe }
theorem inv_mark {X : Cx} {pins : List (Addr × Obj)} {σ : L2.St} {H : Hp} {s : Shared} (I : L2.Inv X pins σ H s) (a : Addr) (xe : Value → Shared → Prop) : L2.Inv (hotX X a xe) [] σ H s where
  ok := by
    have o := I.ok.suite a []
    exact ⟨o.mod, o.kind, o.glob, o.blt, o.above, o.inj, o.has, o.cab, (fun z => Bool.noConfusion (show false = true from z)), o.frames, o.stk, o.exf, o.bs, o.bsz, o.noex, o.exfs, o.funs, o.frf⟩
  os := I.os
  bare := I.bare
  base := I.base
  loc := I.loc
  cell := I.cell
  free := I.free
  freeC := I.freeC
  pin := fun p hp => by cases (show p ∈ ([] : List (Addr × Obj)) ++ [] from hp)
  hok := I.hok
  len := I.len
def cxT (CX : CXT) (P : Program) (w : World) (K : PySem.W.Frag) (mg : Str → Option Value) (base : Heap) (N : List Str) (qual : Str) (scope : Scope) (f : Addr) (cd : Value) (A : Around) (outer : List Env) (s : Shared) (H : Hp) (E : XK) : Cx :=
  { cxOf CX P w K mg base N qual scope f cd A outer s H E with calm := false, pn := [] }
structure FnT (P : Program) (w : World) (K : PySem.W.Frag) (mg : Str → Option Value) (base : Heap) (CX : CXT) (k : Nat) (f : Addr) (fd : FuncData) (ps : List Str) (sp : Addr → Sp) : Prop where
  len : ∀ a vs H Q E, sp a vs H Q E → vs.length = ps.length
  run : ∀ (A : Around) (outer : List Env) (s : Shared) (H : Hp) (args : Args) (us : List Value) (vs : List V) (Q : VK) (E : XK) (a : Addr), A.guards = some [] → L2H.RoomH k A → A.handled = some (.ref a) → Env0 P w K mg base A outer s H →
    BindsTo s fd args (ps.zip us) → Vals vs us → sp a vs H Q E → codeAny (model P w) A (.call (.ref f) args) (CR CX outer P w H s Q E) s
def coolA (A : Around) : Around := { A with handled := none }
section
variable {P : Program} {w : World} {K : PySem.W.Frag} {mg : Str → Option Value} {base : Heap} {CX : CXT} {k j : Nat} {f : Addr} {fd : FuncData} {sp sp' : Addr → Sp} {ps : List Str}
theorem FnT.imp (F : FnT P w K mg base CX k f fd ps sp) (h : ∀ a vs H Q E, sp' a vs H Q E → sp a vs H Q E) : FnT P w K mg base CX k f fd ps sp' :=
  ⟨fun a vs H Q E q => F.len a vs H Q E (h a vs H Q E q), fun A outer s H args us vs Q E a g r e b v q x => F.run A outer s H args us vs Q E a g r e b v q (h a vs H Q E x)⟩
theorem FnT.of {x qual : Str} {st : Stmt} {N qs : List Str} (F : Fun K x qual st f fd) (S : FnScope N qs (defScope st)) (len : ∀ a vs H Q E, sp a vs H Q E → vs.length = qs.length)
    (hb : ∀ (cdv : Value) (A : Around) (outer : List Env) (s : Shared) (H : Hp) (vs : List V) (Q : VK) (E : XK) (a : Addr), fd.code = cdv → A.guards = some [] → L2H.RoomH k (A.deeper (envOfC qual (defScope st) s.heap.objs.size f cdv)) → A.handled = some (.ref a) → sp a vs H Q E →
      ∃ t, PSs (cxT CX P w K mg base N qual (defScope st) f cdv A outer s H E) (defBody st) t ∧ t { nx := fun _ H' => Q .non H', rt := Q } (L2.start N vs) H) : FnT P w K mg base CX (k + 1) f fd qs sp := by
  obtain ⟨oc, od, kV, doc, pm, an, cdv, ct, osl, rfl, lk, hcd⟩ := F.ex
  refine ⟨len, fun A outer s H args us vs Q E a hgd hr hh e0 hbi r hsp => ?_⟩
  have n1 := len _ _ _ _ _ hsp
  have inK : K.In s.heap := e0.mod.kin.keeps fun b o e => (e0.bs b o e).1
  have nolim : s.heap.NoLimit := e0.mod.nolimit.keeps fun b o e => (e0.bs b o e).1
  have kinds : ∀ y ∈ qs.zip us, (defScope st).names.lookup y.1 = some .local ∨ ((defScope st).names.lookup y.1 = some .cell ∧ ((cellsFrom (s.heap.objs.size + 1) (defScope st).names []).lookup y.1).isSome = true) := fun ⟨n, v⟩ hy => by
    have hm := S.par n (List.of_mem_zip hy).1
    cases hm with
    | inl q => exact Or.inl q
    | inr q => exact Or.inr ⟨q, PySem.W.cellsFrom_some _ _ _ (Or.inl q)⟩
  refine codeAny_call_function hr.depth (inK _ _ lk) rfl S.co S.gen rfl (PySem.W.codeRec_of inK hcd) (hbi _ _ _ _ ?_)
  refine wpAny_newFunctionEnv_cells S.kind kinds fun env eq s1 cells => ?_
  subst eq
  refine ⟨nolim.keeps cells.toInCall.keep, codeAny_func ?_⟩
  obtain ⟨t, ht, hq⟩ := hb cdv A outer s H vs Q E a rfl hgd (hr.deeper _) hh hsp
  have e1 : Env0 P w K mg base (coolA A) outer s H := { e0 with frames := e0.frames }
  have J0 : L2.Inv (hotX (cxOf CX P w K mg base N qual (defScope st) f cdv (coolA A) outer s H E) a (cxOf CX P w K mg base N qual (defScope st) f cdv A outer s H E).xe) [] (L2.start N vs) H s1 := inv_mark (inv_start S rfl e1 n1 r cells) a _
  have eX : hotX (cxOf CX P w K mg base N qual (defScope st) f cdv (coolA A) outer s H E) a (cxOf CX P w K mg base N qual (defScope st) f cdv A outer s H E).xe = cxT CX P w K mg base N qual (defScope st) f cdv A outer s H E := by
    cases A
    simp only at hh
    subst hh
    rfl
  rw [eX] at J0
  have run := ht.run [] s1 (L2.start N vs) H _ J0 hq
  refine wpAny_mono run (fun fl s' hs => ?_) fun e s' hs => hs
  have close : ∀ {σ' : L2.St} {H' : Hp} {v : V} {u : Value}, L2.Inv (cxT CX P w K mg base N qual (defScope st) f cdv A outer s H E) [] σ' H' s' → RelV v u → Q v H' → CE outer P w H s Q u s' :=
    fun {σ' H' v u} J rv q => ⟨v, H', J.os, J.bare, J.base, J.hok, rv, q⟩
  cases fl with
  | ret u => obtain ⟨v, σ', H', J, rv, q⟩ := hs; exact close J rv q
  | next => obtain ⟨σ', H', J, q⟩ := hs; exact close (v := V.non) (u := Value.none) J rfl q
  | brk => obtain ⟨_, _, _, q⟩ := hs; exact q.elim
  | cont => obtain ⟨_, _, _, q⟩ := hs; exact q.elim
end
def spT (K : PySem.W.Frag) (T : List Addr) (mg : Str → Option Value) (n : Nat) (ps : List Nat) (g : WF) (a : Addr) : Sp := fun vs H Q E => vs.length = n ∧ ∃ B, HotB a B ∧ spAt K T mg n ps (noX g) B vs H Q E
structure FdT (P : Program) (w : World) (K : PySem.W.Frag) (mg : Str → Option Value) (base : Heap) (T : List Addr) (A : Around) (x : Str) (n : Nat) (ps : List Nat) (g : WF) : Prop where
  ex : ∃ (k : Nat) (f : Addr) (fd : FuncData) (qs : List Str), FnT P w K mg base (L2N.CX P w) k f fd qs (spT K T mg n ps g) ∧ A.guards = some [] ∧ L2H.RoomH k A ∧ mg x = some (.ref f) ∧ PySem.W.keepIn K (.ref f) = true ∧ Binds K fd qs []
structure FgT (P : Program) (w : World) (K : PySem.W.Frag) (mg : Str → Option Value) (base : Heap) (T : List Addr) (k : Nat) (x : Str) (n : Nat) (ps : List Nat) (g : WF) : Prop where
  ex : ∃ (f : Addr) (fd : FuncData) (qs : List Str), FnT P w K mg base (L2N.CX P w) k f fd qs (spT K T mg n ps g) ∧ mg x = some (.ref f) ∧ PySem.W.keepIn K (.ref f) = true ∧ Binds K fd qs []
section
variable {P : Program} {w : World} {K : PySem.W.Frag} {mg : Str → Option Value} {base : Heap} {T : List Addr} {k j n : Nat} {A : Around} {x : Str} {ps : List Nat} {g g' : WF}
theorem FgT.to (F : FgT P w K mg base T k x n ps g) (hgd : A.guards = some []) (hr : L2H.RoomH j A) (h : k ≤ j) : FdT P w K mg base T A x n ps g := by
  obtain ⟨f, fd, qs, a, b, c, d⟩ := F.ex
  exact ⟨k, f, fd, qs, a, hgd, hr.mono h, b, c, d⟩
theorem FgT.imp (F : FgT P w K mg base T k x n ps g) (h : ∀ ds R, g' ds R → g ds R) : FgT P w K mg base T k x n ps g' := by
  obtain ⟨f, fd, qs, a, b, c, d⟩ := F.ex
  refine ⟨f, fd, qs, a.imp fun a vs H Q E q => ?_, b, c, d⟩
  obtain ⟨hl, B, hB, ds, fp, R, Rx, tb, nt, k, hg, q⟩ := q
  exact ⟨hl, B, hB, ds, fp, R, Rx, tb, nt, k, h ds R hg, q⟩
end
structure BodyT (P : Program) (w : World) (K : PySem.W.Frag) (mg : Str → Option Value) (base : Heap) (T : List Addr) (N : List Str) (x : Str) (st : Stmt) (f : Addr) (fd : FuncData) (k : Nat) (cdv : Value) (A : Around) (outer : List Env) (s0 : Shared) (H : Hp) (E : XK) (X : Cx) (Z : Ent) : Prop where
  hX : X = cxT (L2N.CX P w) P w K mg base N x (defScope st) f cdv A outer s0 H E
  hT : Z.T = T
  gd : X.A.guards = some []
  hr : L2H.RoomH k X.A
  hp : PassesOwn (model X.prog X.w) X.A X.env X.xe
  tk : L2N.Takes X Z.W
  hmg : X.mg = Z.mg
  hcd : fd.code = cdv
  hz : HotZ X.A Z.B
section
variable {P : Program} {w : World} {K : PySem.W.Frag} {mg : Str → Option Value} {base : Heap} {T : List Addr} {x : Str} {st : Stmt} {f : Addr} {fd : FuncData} {N qs : List Str} {n k : Nat} {ps : List Nat} {s : WS}
end
section
variable {X : Cx} {CX : CXT} {k : Nat} {f : Addr} {fd : FuncData} {ps : List Str} {sp : Addr → Sp} {E : XK} {x : Str} {p pos : Pos} {e : Expr} {es : List Expr} {t : TA} {a : Addr}
end
section
variable {X : Cx} {Z : Ent} {n : Nat} {g : WF} {x : Str} {p pos : Pos} {e : Expr} {es : List Expr} {as : List AD} {ps : List Nat}
end
end Pt
namespace Pt
open PySem PySem.Spec L2 PyProof.Rows HotX
theorem HotZ.on {X : Cx} {pins : List (Addr × Obj)} {σ : L2.St} {H : Hp} {s : Shared} (h : HotZ X.A H) (I : L2.Inv X pins σ H s) : ∃ a, HotAt X.A a s.heap := by
  obtain ⟨a, oe, hh, hH, ⟨vs, hd⟩, hc⟩ := h
  obtain ⟨e, _⟩ := I.hok a _ hH
  exact ⟨a, hh, oe, vs, e, hd, hc vs hd⟩
section
variable {prog : Program} {w : World} {A : Around} {E : Value → Shared → Prop} {s : Shared}
end
structure TurnZ (P : Program) (w : World) (K : PySem.W.Frag) (tg : Expr) (J : It) (fp : List Addr) (it : Addr) (tn : Nat → Heap → Prop) : Prop where
  obj : ∀ i h, tn i h → ∀ b ∈ fp, ∃ o, h.get? b = some o ∧ ∀ v, o.data ≠ .cell v
  keep : ∀ i h h', tn i h → (∀ b ∈ fp, ∀ o, h.get? b = some o → h'.get? b = some o) → tn i h'
  item : ∀ (X : Cx), X.prog = P → X.w = w → X.K = K → ∀ (i : Nat) (pins : List (Addr × Obj)) (s : Shared) (σ : L2.St) (H : Hp) (E : Value → Shared → Prop), L2.Inv X pins σ H s → (∀ b ∈ fp, FpOk X pins H b) → tn i s.heap → J.go i H →
    wpAny (model P w) X.A (pyNext (.ref it)) (fun r s1 => ∃ u, r = some u ∧
      wpAny (model P w) X.A (letOwnedTupleGo tg (.ref it) u) (fun _ s2 => ∃ x H', L2.Inv X pins σ H' s2 ∧ RelV x u ∧ J.yld i H x H' ∧ tn (i + 1) s2.heap ∧ ∀ b ∈ fp, H' b = none) E s1) E s
  done : ∀ (X : Cx), X.prog = P → X.w = w → X.K = K → ∀ (i : Nat) (pins : List (Addr × Obj)) (s : Shared) (σ : L2.St) (H : Hp) (E : Value → Shared → Prop), HotZ X.A H → L2.Inv X pins σ H s → (∀ b ∈ fp, FpOk X pins H b) → tn i s.heap → J.stop i H →
    wpAny (model P w) X.A (pyNext (.ref it)) (fun r s1 => r = none ∧ L2.Inv X pins σ H s1) E s
  self : ∀ (A : Around) (i : Nat) (s : Shared) (Q : Value → Shared → Prop) (E : Value → Shared → Prop), tn i s.heap → Q (.ref it) s → wpAny (model P w) A (pyIter (.ref it)) Q E s
def PIEZ (X : Cx) (pins : List (Addr × Obj)) (σ : L2.St) (tg : Expr) (R : It → Hp → Prop) (itv : Value) (s2 : Shared) : Prop :=
  ∃ (it : Addr) (fp : List Addr) (tn : Nat → Heap → Prop) (J : It) (H' : Hp), itv = .ref it ∧ L2.Inv X pins σ H' s2 ∧ TurnZ X.prog X.w X.K tg J fp it tn ∧ tn 0 s2.heap ∧ (∀ b ∈ fp, FpOk X pins H' b) ∧ R J H'
structure PIZ (X : Cx) (tg iter : Expr) (wi : TI) : Prop where
  run : ∀ (pins : List (Addr × Obj)) (s : Shared) (σ : L2.St) (H : Hp) (R : It → Hp → Prop), L2.Inv X pins σ H s → wi σ H R →
    wpAny (model X.prog X.w) X.A (eval iter X.env) (fun v s1 => wpAny (model X.prog X.w) X.A (pyIter v) (PIEZ X pins σ tg R) X.xe s1) X.xe s
section
variable {X : Cx} {tg : Expr}
end
end Pt
namespace Pt
open PySem PySem.Spec L2 PyProof.Rows HotX
section
variable {X : Cx} {tg : Expr}
end
section
variable {X : Cx} {Z : Ent} {own : List Nat} {w : WE} {wt : WT} {g : WG} {tg : Expr} {p pos : Pos}
variable {elt iter : Expr} {ifs : List Expr} {scope : Scope} {ow : List (Str × Nat)} {wi : WI} {ps : List Nat}
end
section
variable {X : Cx} {Z : Ent} {pos px : Pos}
end
end Pt
namespace Pt
open PySem PySem.Spec L2 PyProof.Rows HotX
section
variable {prog : Program} {w : World} {A : Around} {E : Value → Shared → Prop} {s : Shared}
theorem HotAt.ext {x1 b : Addr} {h h' : Heap} (hot : HotAt A x1 h) (e : Heap.ExtBut b h h') (hb : b = h.objs.size) : HotAt A x1 h' := by
  obtain ⟨hh, o, vs, h1, d, c⟩ := hot
  exact ⟨hh, o, vs, e x1 o (by rw [hb]; exact Nat.ne_of_lt (Heap.lt_size h1)) h1, d, c⟩
end
section
variable {X : Cx} {Z : Ent} {pos : Pos} {own : List Nat} {gs : List O → En → (En → Prop) → Prop}
end
end Pt
namespace Pt
open PySem PySem.Spec L2
def CInt (i : Int) : Prop := i.natAbs.log2 < 1920
def shI (i : Int) : Str := toString i
def oStrI : List O → (O → Prop) → Prop
  | [.fz (.int i)], R => CInt i ∧ R (.fz (.str (shI i)))
  | _, _ => False
def fmO : O → (Str → Prop) → Prop
  | .fz (.str y), k => y.length ≤ szMax ∧ k y
  | .fz (.int i), k => CInt i ∧ k (shI i)
  | _, _ => False
def wFm (w : WE) : WE := fun ρ R => w ρ fun d ρ1 => fmO d fun y => R (.fz (.str y)) ρ1
def stO : O → (Str → Prop) → Prop
  | .fz (.str y), k => k y
  | _, _ => False
def wJs : List WE → Str → WE
  | [], acc => fun ρ R => R (.fz (.str acc)) ρ
  | w :: ws, acc => fun ρ R => w ρ fun d ρ1 => stO d fun y => (acc ++ y).length ≤ szMax ∧ wJs ws (acc ++ y) ρ1 R
section
variable {X : Cx} {Z : Ent} {pos p : Pos} {e e2 : Expr} {w : WE} {a1 a2 : AD}
end
section
variable {ρ : En} {R : O → En → Prop} {w : WE} {k : O → Prop}
@[simp] theorem x_strI {i : Int} : oStrI [.fz (.int i)] k = (CInt i ∧ k (.fz (.str (shI i)))) := rfl
@[simp] theorem x_wFm : wFm w ρ R = w ρ fun d ρ1 => fmO d fun y => R (.fz (.str y)) ρ1 := rfl
@[simp] theorem x_fmS {y : Str} {k : Str → Prop} : fmO (.fz (.str y)) k = (y.length ≤ szMax ∧ k y) := rfl
@[simp] theorem x_fmI {i : Int} {k : Str → Prop} : fmO (.fz (.int i)) k = (CInt i ∧ k (shI i)) := rfl
@[simp] theorem x_stS {y : Str} {k : Str → Prop} : stO (.fz (.str y)) k = k y := rfl
@[simp] theorem x_wJs0 {acc : Str} : wJs [] acc ρ R = R (.fz (.str acc)) ρ := rfl
@[simp] theorem x_wJs1 {acc : Str} {ws : List WE} : wJs (w :: ws) acc ρ R = w ρ fun d ρ1 => stO d fun y => (acc ++ y).length ≤ szMax ∧ wJs ws (acc ++ y) ρ1 R := rfl
end
end Pt
namespace Pt
open PySem PySem.Spec L2 PyProof.Rows
def wiZM (w w2 : WE) : WI := fun ρ R => wFz w ρ fun d ρ1 => asLf d fun ds => wFz w2 ρ1 fun d2 ρ2 => asTf d2 fun es => R (zipL ds es) ρ2
section
variable {X : Cx} {Z : Ent} {pos p tpos : Pos} {elts : List Expr} {kk : Nat}
end
section
variable {ρ : En} {R : List PyData → En → Prop} {w w2 : WE}
@[simp] theorem x_asLfL {ds : List PyData} {k : List PyData → Prop} : asLf (.fz (.list ds)) k = k ds := rfl
@[simp] theorem x_asTfT {ds : List PyData} {k : List PyData → Prop} : asTf (.fz (.tuple ds)) k = k ds := rfl
@[simp] theorem x_wiZM : wiZM w w2 ρ R = wFz w ρ fun d ρ1 => asLf d fun ds => wFz w2 ρ1 fun d2 ρ2 => asTf d2 fun es => R (zipL ds es) ρ2 := rfl
end
end Pt
namespace Pt
open PySem PySem.Spec L2 PyProof.Rows
def unL : PyData → PyData
  | .dict [(.none, .tuple [.list _, .list ds])] => .list ds
  | d => d
theorem mkL_dic {K : PySem.W.Frag} {B : Hp} {bs : List Bool} {ds : List PyData} {kvs : List (Key × V)} (r : RFd K B kvs [((.none : PyData), (.tuple [.list (bs.map PyData.bool), .list ds] : PyData))]) : False := by
  generalize hh : [((.none : PyData), (.tuple [.list (bs.map PyData.bool), .list ds] : PyData))] = l at r
  cases r with
  | nil => cases hh
  | @cons k => cases k <;> cases hh
theorem bools_inj : ∀ {a b : List Bool}, a.map PyData.bool = b.map PyData.bool → a = b
  | [], [], _ => rfl
  | [], _ :: _, h => nomatch h
  | _ :: _, [], h => nomatch h
  | x :: a, y :: b, h => by
    rw [List.map_cons, List.map_cons] at h
    injection h with h1 h2
    injection h1 with h1
    rw [h1, bools_inj h2]
section
variable {K : PySem.W.Frag} {B H : Hp} {v : V} {d : PyData}
theorem RF.unmark {bs : List Bool} {ds : List PyData} (r : RF K B v (mkL bs ds)) : ∃ a vs, v = .ref a ∧ B a = some (.lst vs) ∧ NDs K B bs vs ∧ RFs K B vs ds := by
  generalize hh : mkL bs ds = d at r
  cases r with
  | dic e r => injection hh with hh; subst hh; exact (mkL_dic r).elim
  | @lm a vs bs2 ds2 e n r =>
    unfold mkL at hh
    injection hh with h1
    injection h1 with h2 _
    injection h2 with _ h4
    injection h4 with h5
    injection h5 with h6 h7
    injection h6 with h6
    injection h7 with h8 _
    injection h8 with h9
    have e1 := bools_inj h6
    subst e1 h9
    exact ⟨_, _, rfl, e, n, r⟩
  | _ => cases hh
theorem RF.unL (r : RF K B v d) : RF K B v (unL d) := by
  cases r with
  | lm e n r => exact .lst e r
  | dic e r =>
    cases r with
    | nil => exact .dic e .nil
    | @cons k _ _ _ _ r t => cases k <;> exact .dic e (.cons r t)
  | non => exact .non
  | bl b => exact .bl b
  | int i => exact .int i
  | str x => exact .str x
  | lst e r => exact .lst e r
  | tup e r => exact .tup e r
end
def wUe (w : WE) : WE := fun ρ R => w ρ fun d ρ1 => asF d fun f => R (.fz (unL f)) ρ1
def unm : List O → Option (List Bool × List PyData)
  | [] => some ([], [])
  | .fz f :: r => (unm r).map fun q => (false :: q.1, f :: q.2)
  | .tn ds :: r => (unm r).map fun q => (true :: q.1, .tuple ds :: q.2)
  | _ :: _ => none
def oLstM : List O → (O → Prop) → Prop := fun xs R => ∃ bs ds, unm xs = some (bs, ds) ∧ ds.length ≤ szMax ∧ R (.fz (mkL bs ds))
def oIxM : List O → (O → Prop) → Prop
  | [.fz d, .fz (.int i)], R => (∃ bs ds es, ∃ j : Nat, d = mkL bs ds ∧ i = (j : Nat) ∧ bs[j]? = some true ∧ ds[j]? = some (.tuple es) ∧ R (.tn es)) ∨ ∃ ds z, d = .list ds ∧ atI ds i = some z ∧ R (.fz z)
  | _, _ => False
section
variable {K : PySem.W.Frag} {B H : Hp}
theorem unm_ok : ∀ {xs : List O} {vs : List V} {f : List Addr} {bs : List Bool} {ds : List PyData}, ROs K B H vs xs f → unm xs = some (bs, ds) → RFs K B vs ds ∧ NDs K B bs vs
  | [], _, _, _, _, .nil, h => by
    cases h
    exact ⟨.nil, fun i e => by simp at e⟩
  | .fz f :: r, _, _, bs, ds, .cons (.fz a) t, h => by
    have h' : (unm r).map (fun q => (false :: q.1, f :: q.2)) = some (bs, ds) := h
    cases q : unm r with
    | none => rw [q] at h'; cases h'
    | some z =>
      rw [q] at h'
      cases h'
      obtain ⟨h1, h2⟩ := unm_ok (bs := z.1) (ds := z.2) t q
      refine ⟨.cons a h1, fun i e => ?_⟩
      cases i with
      | zero => simp at e
      | succ i => exact h2 i e
  | .tn es :: r, _, _, bs, ds, .cons (.tn a b c) t, h => by
    have h' : (unm r).map (fun q => (true :: q.1, .tuple es :: q.2)) = some (bs, ds) := h
    cases q : unm r with
    | none => rw [q] at h'; cases h'
    | some z =>
      rw [q] at h'
      cases h'
      obtain ⟨h1, h2⟩ := unm_ok (bs := z.1) (ds := z.2) t q
      refine ⟨.cons (.tup a c) h1, fun i e => ?_⟩
      cases i with
      | zero => exact ⟨_, rfl, b⟩
      | succ i => exact h2 i e
theorem Out.lstM {vs : List V} {bs : List Bool} {ds : List PyData} {p : Addr} (r : RFs K B vs ds) (n : NDs K B bs vs) (s : Sub B H) (hp : H p = none) : Out K B H (.ref p) (.fz (mkL bs ds)) (upd B p (.lst vs)) (upd H p (.lst vs)) := by
  have sb : Sub B (upd B p (.lst vs)) := fun a o e => by rw [upd_ne (ne_of_none e (s.free hp))]; exact e
  exact ⟨[], Nxt.allocB hp (s.free hp) pl_lst, .fz (.lm upd_same (n.mono sb) (r.mono sb)), List.nodup_nil, fun _ h => (List.not_mem_nil h).elim, s.upd⟩
theorem rd_lstM : Rd K (fun xs H Q => xs.length ≤ sizeLine ∧ ∀ p, H p = none → Q (.ref p) (upd H p (.lst xs))) oLstM := fun B H vs xs f R Q s rr h q => by
  obtain ⟨bs, ds, h1, hz, h⟩ := h
  obtain ⟨t, n⟩ := unm_ok rr h1
  exact ⟨by rw [t.length]; exact szOk hz, fun p hp => q _ h _ _ _ (Out.lstM t n s hp)⟩
end
section
variable {X : Cx} {Z : Ent} {e : Expr} {es : List Expr} {pos : Pos} {as : List AD} {w : WE}
theorem e_ue (h : PE X e (tE X.K Z w)) : PE X e (tE X.K Z (wUe w)) := pe_to h fun σ H Q q => by
  obtain ⟨B, ρ, fp, R, k, h, q⟩ := q
  refine ⟨B, ρ, fp, _, k, h, fun d ρ' h1 v H' B' fp' n k1 => ?_⟩
  obtain ⟨f, rfl, h2⟩ := asF_iff h1
  have r := k1.headF
  obtain ⟨f2, k2, hs⟩ := k1.drop1
  exact q _ ρ' h2 v H' B' f2 (n.less hs) (k2.addF r.unL)
theorem e_listM (h : PA X es (tADs X.K Z as)) : PE X (.List es pos) (tE X.K Z (wRd as oLstM)) := pe_to (pe_lst h) fun σ H Q q => rd_glue rd_lstM q
end
section
variable {ρ : En} {R : O → En → Prop} {w : WE} {k : O → Prop}
@[simp] theorem x_wUe : wUe w ρ R = w ρ fun d ρ1 => asF d fun f => R (.fz (unL f)) ρ1 := rfl
@[simp] theorem x_oLstM2 {a : PyData} {b : List PyData} : oLstM [.fz a, .tn b] k = k (.fz (mkL [false, true] [a, .tuple b])) := propext ⟨fun ⟨bs, ds, e, _, h⟩ => by cases e; exact h, fun h => ⟨_, _, rfl, (by show _ ≤ 1000000; simp), h⟩⟩
@[simp] theorem x_oLstM3 {a c : PyData} {b : List PyData} : oLstM [.fz a, .tn b, .fz c] k = k (.fz (mkL [false, true, false] [a, .tuple b, c])) := propext ⟨fun ⟨bs, ds, e, _, h⟩ => by cases e; exact h, fun h => ⟨_, _, rfl, (by show _ ≤ 1000000; simp), h⟩⟩
@[simp] theorem x_oIxM {d : PyData} {i : Int} : oIxM [.fz d, .fz (.int i)] k = ((∃ bs ds es, ∃ j : Nat, d = mkL bs ds ∧ i = (j : Nat) ∧ bs[j]? = some true ∧ ds[j]? = some (.tuple es) ∧ k (.tn es)) ∨ ∃ ds z, d = .list ds ∧ atI ds i = some z ∧ k (.fz z)) := rfl
@[simp] theorem x_unLm {bs : List Bool} {ds : List PyData} : unL (mkL bs ds) = .list ds := rfl
@[simp] theorem x_unLl {ds : List PyData} : unL (.list ds) = .list ds := rfl
end
end Pt
namespace Pt
open PySem PySem.Spec L2 RZ
def chs (x : Str) : List PyData := x.cps.toList.map fun c => .str ⟨#[c]⟩
theorem chs_len (x : Str) : (chs x).length = x.cps.size := by simp [chs]
theorem chs_get {x : Str} {i c : Nat} (h : x.cps[i]? = some c) : (chs x)[i]? = some (.str ⟨#[c]⟩) := by
  unfold chs
  rw [List.getElem?_map, Array.getElem?_toList, h]
  rfl
theorem ItD.str {K : PySem.W.Frag} {B : Hp} (x : Str) : ItD K (Its x) B (chs x) := fun B' H' s1 s2 i => by
  rw [chs_len]
  refine ⟨fun hi => ⟨hi, fun y H2 hy => ?_⟩, fun hi => by rw [hi]; exact Nat.le_refl _⟩
  obtain ⟨rfl, c, e, rfl⟩ := hy
  exact ⟨_, B', chs_get e, Out.here (.str _) s2⟩
def wiC (w : WE) : WI := fun ρ R => w ρ fun d ρ1 => stO d fun y => R (chs y) ρ1
def oInC (neg : Bool) : List O → (O → Prop) → Prop
  | [.fz (.str x), .fz (.str z)], R => ∃ c, x = ⟨#[c]⟩ ∧ R (.fz (.bool (if neg then !decide (c ∈ z.cps.toList) else decide (c ∈ z.cps.toList))))
  | _, _ => False
def oIxC : List O → (O → Prop) → Prop
  | [.fz (.str z), .fz (.int i)], R => ∃ c, 0 ≤ i ∧ i < 2 ^ 63 ∧ i < z.length ∧ z.cps[i.toNat]? = some c ∧ R (.fz (.str ⟨#[c]⟩))
  | _, _ => False
def oIntT : List O → (O → Prop) → Prop
  | [.fz (.str a)], R => ∃ n, intText? a = some n ∧ a.length ≤ 640 ∧ R (.fz (.int n))
  | _, _ => False
def wSplit (w w2 : WE) : WE := fun ρ R => w ρ fun d ρ1 => stO d fun a => w2 ρ1 fun d2 ρ2 => stO d2 fun b => (b.length == 0) = false ∧ a.length ≤ szMax ∧ R (.lf ((Txt.split a b).map PyData.str)) ρ2
section
variable {K : PySem.W.Frag}
end
section
variable {X : Cx} {Z : Ent} {tg e e2 a b : Expr} {pos apos : Pos} {w w2 : WE} {a1 a2 : AD}
end
def wiZT (w w2 : WE) : WI := fun ρ R => wFz w ρ fun d ρ1 => asTf d fun ds => wFz w2 ρ1 fun d2 ρ2 => asTf d2 fun es => R (zipL ds es) ρ2
theorem ItD.zipT {K : PySem.W.Frag} {B : Hp} {a b : Addr} {vs us : List V} {ds es : List PyData} (h : SqT K B a vs) (r : RFs K B vs ds) (h2 : SqT K B b us) (r2 : RFs K B us es) : ItD K (ItzT K a b) B (Pt.zipL ds es) := fun B' H' s1 s2 i => by
  have up2 : ∀ {c : Addr} {ws : List V}, SqT K B c ws → SqT K H' c ws := fun h => s2.sqT (s1.sqT h)
  have hl := r.length
  have hl2 := r2.length
  rw [zipL_len]
  refine ⟨fun hi => ?_, fun hi => ⟨vs, us, up2 h, up2 h2, by omega⟩⟩
  have i1 : i < ds.length := by omega
  have i2 : i < es.length := by omega
  obtain ⟨v, hv, rv⟩ := r.get (List.getElem?_eq_getElem i1)
  obtain ⟨u, hu, ru⟩ := r2.get (List.getElem?_eq_getElem i2)
  refine ⟨⟨vs, us, v, u, up2 h, up2 h2, hv, hu⟩, fun x H2 hy => ?_⟩
  obtain ⟨T, y, z, rfl, hT, rfl, f, g⟩ := hy
  have e := f vs (up2 h)
  rw [hv] at e
  have e' := Option.some.inj e
  subst e'
  have e := g us (up2 h2)
  rw [hu] at e
  have e' := Option.some.inj e
  subst e'
  exact ⟨_, _, zipL_get (List.getElem?_eq_getElem i1) (List.getElem?_eq_getElem i2), Out.tup (.cons (rv.mono s1) (.cons (ru.mono s1) .nil)) s2 hT⟩
section
variable {X : Cx} {Z : Ent} {pos p tpos : Pos} {elts : List Expr} {kk : Nat}
end
def repS (x : Str) (n : Nat) : Str := ⟨(List.replicate n x.cps).foldl (· ++ ·) #[]⟩
def oMulStr : List O → (O → Prop) → Prop
  | [.fz (.str z), .fz (.int i)], R => 2 ≤ i ∧ i ≤ 10000 ∧ 1 ≤ z.length ∧ z.length * i.toNat ≤ 1000000 ∧ R (.fz (.str (repS z i.toNat)))
  | _, _ => False
section
variable {ρ : En} {R : O → En → Prop} {w w2 : WE} {k : O → Prop}
@[simp] theorem x_wiC {R : List PyData → En → Prop} : wiC w ρ R = w ρ fun d ρ1 => stO d fun y => R (chs y) ρ1 := rfl
@[simp] theorem x_wiZT {R : List PyData → En → Prop} : wiZT w w2 ρ R = wFz w ρ fun d ρ1 => asTf d fun ds => wFz w2 ρ1 fun d2 ρ2 => asTf d2 fun es => R (zipL ds es) ρ2 := rfl
@[simp] theorem x_mulStr {z : Str} {i : Int} : oMulStr [.fz (.str z), .fz (.int i)] k = (2 ≤ i ∧ i ≤ 10000 ∧ 1 ≤ z.length ∧ z.length * i.toNat ≤ 1000000 ∧ k (.fz (.str (repS z i.toNat)))) := rfl
@[simp] theorem x_inC {x z : Str} {neg : Bool} : oInC neg [.fz (.str x), .fz (.str z)] k = ∃ c, x = ⟨#[c]⟩ ∧ k (.fz (.bool (if neg then !decide (c ∈ z.cps.toList) else decide (c ∈ z.cps.toList)))) := rfl
@[simp] theorem x_ixC {z : Str} {i : Int} : oIxC [.fz (.str z), .fz (.int i)] k = ∃ c, 0 ≤ i ∧ i < 2 ^ 63 ∧ i < z.length ∧ z.cps[i.toNat]? = some c ∧ k (.fz (.str ⟨#[c]⟩)) := rfl
@[simp] theorem x_intT {a : Str} : oIntT [.fz (.str a)] k = ∃ n, intText? a = some n ∧ a.length ≤ 640 ∧ k (.fz (.int n)) := rfl
@[simp] theorem x_wSplit : wSplit w w2 ρ R = w ρ fun d ρ1 => stO d fun a => w2 ρ1 fun d2 ρ2 => stO d2 fun b => (b.length == 0) = false ∧ a.length ≤ szMax ∧ R (.lf ((Txt.split a b).map PyData.str)) ρ2 := rfl
end
end Pt
namespace Pt
open PySem PySem.Spec L2
open PySem.Sem (wp)
section
variable {prog : Program} {w : World} {A : Around} {E : Value → Shared → Prop} {s : Shared} {z TI TO T i1 i2 : Addr} {fp1 fp2 : List Addr} {n1 n2 i : Nat} {P1 P2 : Nat → Value → Prop} {St1 St2 : Nat → Heap → Prop} {f : Bool} {oT : Obj}
theorem zh_item {Q : Value → Shared → Prop} (S : ZipSep2 z TI TO i1 i2 fp1 fp2) (D1 : Draws prog w A i1 fp1 n1 P1 St1) (D2 : Draws prog w A i2 fp2 n2 P2 St2)
    (hz : IsZipHeld s.heap z TI TO T f) (hT : s.heap.get? T = some oT) (hTI : IsTupOf2 s.heap TI (.ref i1) (.ref i2)) (st1 : St1 i s.heap) (st2 : St2 i s.heap) (hlt1 : i < n1) (hlt2 : i < n2)
    (hQ : ∀ x1 x2 h' tk, P1 i x1 → P2 i x2 → IsZipHeld h' z TI TO T true → St1 (i + 1) h' → St2 (i + 1) h' → IsTupOf2 h' s.heap.objs.size x1 x2 → h'.objs.size = s.heap.objs.size + 1 →
      (∀ c o, c ≠ z → c ≠ i1 → c ≠ i2 → s.heap.get? c = some o → h'.get? c = some o) → Q (.ref s.heap.objs.size) { s with heap := h', toks := tk }) :
    wpAny (model prog w) A (Builtin.«zip.__next__» ⟨[.ref z], []⟩) (fun fin s' => ∃ v, fin = .done (.ret v) ∧ Q v s') E s := by
  obtain ⟨hp, g, d, tk0, os⟩ := s
  show wpAny _ _ (field (.ref z) 2 >>= _) _ _ _
  refine wpAny_bind (wpAny_field hz rfl (x := .bool false) rfl ?_)
  show wpAny _ _ (field (.ref z) 3 >>= _) _ _ _
  refine wpAny_bind (wpAny_field hz rfl (x := .ref TI) rfl ?_)
  refine wpAny_bind (wpAny_seqItems hTI rfl ?_)
  show wpAny _ _ (Builtin.SmallTypes.ownedTupleIsFree (.ref z) >>= _) _ _ _
  refine wpAny_bind (wpAny_tupleHeld_zip hz hT fun g0 hz0 hs0 => ?_)
  replace hs0 : Heap.SameBut z hp g0 := hs0
  simp only [Bool.false_eq_true, if_false]
  refine wpAny_bind ?_
  rw [← Array.forIn_toList]
  simp only [List.forIn_cons, List.forIn_nil]
  refine wpAny_bind (wpAny_bind (wpAny_holding ?_))
  show wpAny _ _ (Builtin.SmallTypes.nextOf (.ref i1) >>= _) _ _ ⟨g0, g, d, tk0, os⟩
  refine wpAny_bind (D1.item i _ _ _ hlt1 (D1.over st1 hs0 S.zf1) fun x1 p1 tk1 hx1 sn1 hp1 => wpAny_pure ?_)
  replace hp1 : Heap.SameBut i1 g0 p1 := hp1
  refine wpAny_pure ?_
  refine wpAny_bind (wpAny_bind (wpAny_holding ?_))
  show wpAny _ _ (Builtin.SmallTypes.nextOf (.ref i2) >>= _) _ _ ⟨p1, g, d, tk1, os⟩
  refine wpAny_bind (D2.item i _ _ _ hlt2 (D2.over (D2.over st2 hs0 S.zf2) hp1 S.sep1_2) fun x2 p2 tk2 hx2 sn2 hp2 => wpAny_pure ?_)
  replace hp2 : Heap.SameBut i2 p1 p2 := hp2
  refine wpAny_pure (wpAny_pure ?_)
  show wpAny _ _ (newTuple [x1, x2] >>= _) _ _ ⟨p2, g, d, tk2, os⟩
  refine wpAny_bind (wpAny_newTuple ?_)
  have hsz : p2.objs.size = hp.objs.size := by rw [hp2.1, hp1.1, hs0.1]
  have hz3 : IsZipHeld p2 z TI TO T true := hp2.extBut _ _ S.zi2 (hp1.extBut _ _ S.zi1 hz0)
  have hk : ∀ c o, c ≠ z → c ≠ i1 → c ≠ i2 → hp.get? c = some o → p2.get? c = some o := fun c o c1 c2 c3 e => hp2.extBut _ _ c3 (hp1.extBut _ _ c2 (hs0.extBut _ _ c1 e))
  have j1 : St1 (i + 1) p2 := D1.over sn1 hp2 S.sep2_1
  refine wpAny_pure ⟨_, rfl, ?_⟩
  show Q (.ref p2.objs.size) _
  have hp' : IsTupOf2 (p2.push { cls := .type "tuple", data := .seq #[x1, x2] }) p2.objs.size x1 x2 := Heap.get?_push_size _ rfl
  have hz4 : (p2.push { cls := .type "tuple", data := .seq #[x1, x2] }).objs.size = p2.objs.size + 1 := Heap.size_push ..
  rw [hsz] at hp' hz4 ⊢
  exact hQ x1 x2 _ tk2 hx1 hx2 (Heap.get?_push_of_some _ hz3) (D1.frame _ _ _ j1 fun b _ o e => Heap.get?_push_of_some _ e) (D2.frame _ _ _ sn2 fun b _ o e => Heap.get?_push_of_some _ e) hp' hz4 fun c o c1 c2 c3 e => Heap.get?_push_of_some _ (hk c o c1 c2 c3 e)
theorem zh_end {Q : Fin → Shared → Prop} (S : ZipSep2 z TI TO i1 i2 fp1 fp2) (D1 : Draws prog w A i1 fp1 n1 P1 St1) (D2 : Draws prog w A i2 fp2 n2 P2 St2)
    (hz : IsZipHeld s.heap z TI TO T f) (hT : s.heap.get? T = some oT) (hTI : IsTupOf2 s.heap TI (.ref i1) (.ref i2)) (st1 : St1 i s.heap) (st2 : St2 i s.heap) (hle1 : i ≤ n1) (hle2 : i ≤ n2) (hend : i = n1 ∨ i = n2)
    (hE : ∀ h' tk e, (∀ c o, c ≠ z → c ≠ i1 → c ≠ i2 → s.heap.get? c = some o → h'.get? c = some o) → (∃ o, h'.get? e = some o ∧ o.cls = .type "StopIteration") → E (.ref e) { s with heap := h', toks := tk }) :
    wpAny (model prog w) A (Builtin.«zip.__next__» ⟨[.ref z], []⟩) Q E s := by
  obtain ⟨hp, g, d, tk0, os⟩ := s
  show wpAny _ _ (field (.ref z) 2 >>= _) _ _ _
  refine wpAny_bind (wpAny_field hz rfl (x := .bool false) rfl ?_)
  show wpAny _ _ (field (.ref z) 3 >>= _) _ _ _
  refine wpAny_bind (wpAny_field hz rfl (x := .ref TI) rfl ?_)
  refine wpAny_bind (wpAny_seqItems hTI rfl ?_)
  show wpAny _ _ (Builtin.SmallTypes.ownedTupleIsFree (.ref z) >>= _) _ _ _
  refine wpAny_bind (wpAny_tupleHeld_zip hz hT fun g0 hz0 hs0 => ?_)
  replace hs0 : Heap.SameBut z hp g0 := hs0
  simp only [Bool.false_eq_true, if_false]
  refine wpAny_bind ?_
  rw [← Array.forIn_toList]
  simp only [List.forIn_cons, List.forIn_nil]
  refine wpAny_bind (wpAny_bind (wpAny_holding ?_))
  show wpAny _ _ (Builtin.SmallTypes.nextOf (.ref i1) >>= _) _ _ ⟨g0, g, d, tk0, os⟩
  by_cases hlt1 : i < n1
  · refine wpAny_bind (D1.item i _ _ _ hlt1 (D1.over st1 hs0 S.zf1) fun x1 p1 tk1 hx1 sn1 hp1 => wpAny_pure ?_)
    replace hp1 : Heap.SameBut i1 g0 p1 := hp1
    refine wpAny_pure ?_
    have hi2 : i = n2 := by omega
    refine wpAny_bind (wpAny_bind (wpAny_holding ?_))
    show wpAny _ _ (Builtin.SmallTypes.nextOf (.ref i2) >>= _) _ _ ⟨p1, g, d, tk1, os⟩
    refine wpAny_bind (D2.done ⟨p1, g, d, tk1, os⟩ _ _ (by rw [← hi2]; exact D2.over (D2.over st2 hs0 S.zf2) hp1 S.sep1_2) fun q e hq he => ?_)
    replace hq : Heap.ExtBut i2 p1 q := hq
    exact hE q tk1 e (fun c o c1 c2 c3 x => hq _ _ c3 (hp1.extBut _ _ c2 (hs0.extBut _ _ c1 x))) he
  · have hi1 : i = n1 := by omega
    refine wpAny_bind (D1.done ⟨g0, g, d, tk0, os⟩ _ _ (by rw [← hi1]; exact D1.over st1 hs0 S.zf1) fun q e hq he => ?_)
    replace hq : Heap.ExtBut i1 g0 q := hq
    exact hE q tk0 e (fun c o c1 c2 _ x => hq _ _ c2 (hs0.extBut _ _ c1 x)) he
theorem zh_next {Q : Option Value → Shared → Prop} (S : ZipSep2 z TI TO i1 i2 fp1 fp2) (D1 : Draws prog w A.in1 i1 fp1 n1 P1 St1) (D2 : Draws prog w A.in1 i2 fp2 n2 P2 St2)
    (hz : IsZipHeld s.heap z TI TO T f) (hT : s.heap.get? T = some oT) (hTI : IsTupOf2 s.heap TI (.ref i1) (.ref i2)) (st1 : St1 i s.heap) (st2 : St2 i s.heap) (hlt1 : i < n1) (hlt2 : i < n2)
    (hQ : ∀ x1 x2 h' tk, P1 i x1 → P2 i x2 → IsZipHeld h' z TI TO T true → St1 (i + 1) h' → St2 (i + 1) h' → IsTupOf2 h' s.heap.objs.size x1 x2 → h'.objs.size = s.heap.objs.size + 1 →
      (∀ c o, c ≠ z → c ≠ i1 → c ≠ i2 → s.heap.get? c = some o → h'.get? c = some o) → Q (some (.ref s.heap.objs.size)) { s with heap := h', toks := tk }) :
    wpAny (model prog w) A (pyNext (.ref z)) Q E s := by
  have hTy : s.TypeIs (.ref z) "zip" := ⟨_, hz, rfl⟩
  unfold pyNext
  exact wpAny_bind (wpAny_attempt (wpAny_callSpecial?_slot (name := Str.ofString "__next__") hTy F.slot_zip_next
    (wpAny_call_entry F.slot_zip_next hTy F.entry_zip_next
      (zh_item S D1 D2 hz hT hTI st1 st2 hlt1 hlt2 fun x1 x2 h' tk a0 a1 a2 a3 a4 a5 a6 a7 => wpAny_pure (hQ x1 x2 h' tk a0 a1 a2 a3 a4 a5 a6 a7)) (F.args_zip_next_1 _))))
theorem zh_stop {Q : Option Value → Shared → Prop} (S : ZipSep2 z TI TO i1 i2 fp1 fp2) (D1 : Draws prog w A.in1 i1 fp1 n1 P1 St1) (D2 : Draws prog w A.in1 i2 fp2 n2 P2 St2)
    (hz : IsZipHeld s.heap z TI TO T f) (hT : s.heap.get? T = some oT) (hTI : IsTupOf2 s.heap TI (.ref i1) (.ref i2)) (st1 : St1 i s.heap) (st2 : St2 i s.heap) (hle1 : i ≤ n1) (hle2 : i ≤ n2) (hend : i = n1 ∨ i = n2)
    (hQ : ∀ h' tk, (∀ c o, c ≠ z → c ≠ i1 → c ≠ i2 → s.heap.get? c = some o → h'.get? c = some o) → Q none { s with heap := h', toks := tk }) : wpAny (model prog w) A (pyNext (.ref z)) Q E s := by
  have hTy : s.TypeIs (.ref z) "zip" := ⟨_, hz, rfl⟩
  unfold pyNext
  refine wpAny_bind (wpAny_attempt (wpAny_callSpecial?_slot (name := Str.ofString "__next__") hTy F.slot_zip_next
    (wpAny_call_entry F.slot_zip_next hTy F.entry_zip_next (zh_end S D1 D2 hz hT hTI st1 st2 hle1 hle2 hend fun h' tk e hk he => ?_) (F.args_zip_next_1 _))))
  obtain ⟨o, ho, hc⟩ := he
  refine wpAny_bind (wpAny_isInstance (T := "StopIteration") (b := true) ⟨o, ho, hc⟩ isSubtype_stop ?_)
  exact wpAny_pure (hQ _ _ hk)
structure MadeZ (P1 P2 : Nat → Value → Prop) (lo : Addr) (h : Heap) (as : List Addr) : Prop where
  rise : as.Pairwise (· < ·)
  above : ∀ a ∈ as, lo < a
  pairs : ∀ (j : Nat) (a : Addr), as[j]? = some a → ∃ x y, P1 j x ∧ P2 j y ∧ h.get? a = some { cls := .type "tuple", data := .seq #[x, y] }
def ZSt (St1 St2 : Nat → Heap → Prop) (z TI TO i1 i2 S : Addr) (i : Nat) (h : Heap) : Prop := IsTupOf2 h TI (.ref i1) (.ref i2) ∧ St1 i h ∧ St2 i h ∧
  ((IsZip h z TI TO .none ∧ ∃ a b, IsTupOf2 h TO a b) ∨ ∃ T f oT, IsZipHeld h z TI TO T f ∧ h.get? T = some oT ∧ T ≠ z ∧ T ≠ i1 ∧ T ≠ i2 ∧ T ≠ S)
theorem ZSt.keep {S : Addr} {h h' : Heap} (D1 : Draws prog w A i1 fp1 n1 P1 St1) (D2 : Draws prog w A i2 fp2 n2 P2 St2) (st : ZSt St1 St2 z TI TO i1 i2 S i h) (hk : ∀ b o, b ≠ S → h.get? b = some o → h'.get? b = some o)
    (q0 : z ≠ S) (q1 : TI ≠ S) (q2 : TO ≠ S) (q3 : S ∉ fp1) (q4 : S ∉ fp2) : ZSt St1 St2 z TI TO i1 i2 S i h' := by
  obtain ⟨a, b, c, d⟩ := st
  refine ⟨hk _ _ q1 a, D1.frame _ _ _ b fun x hx o e => hk x o (fun q => q3 (q ▸ hx)) e, D2.frame _ _ _ c fun x hx o e => hk x o (fun q => q4 (q ▸ hx)) e, ?_⟩
  rcases d with ⟨hz, u, v, hO⟩ | ⟨T, f, oT, hz, hT, r1, r2, r3, r4⟩
  · exact .inl ⟨hk _ _ q0 hz, u, v, hk _ _ q2 hO⟩
  · exact .inr ⟨T, f, oT, hk _ _ q0 hz, hk _ _ r4 hT, r1, r2, r3, r4⟩
theorem ZSt.next {S : Addr} {Q : Option Value → Shared → Prop} (Sp : ZipSep2 z TI TO i1 i2 fp1 fp2) (D1 : Draws prog w A.in1 i1 fp1 n1 P1 St1) (D2 : Draws prog w A.in1 i2 fp2 n2 P2 St2) (st : ZSt St1 St2 z TI TO i1 i2 S i s.heap) (hlt1 : i < n1) (hlt2 : i < n2) (hS : S < s.heap.objs.size)
    (hQ : ∀ x1 x2 h' tk, P1 i x1 → P2 i x2 → ZSt St1 St2 z TI TO i1 i2 S (i + 1) h' → IsTupOf2 h' s.heap.objs.size x1 x2 →
      (∀ c o, c ≠ z → c ≠ TO → c ≠ i1 → c ≠ i2 → s.heap.get? c = some o → h'.get? c = some o) → Q (some (.ref s.heap.objs.size)) { s with heap := h', toks := tk }) :
    wpAny (model prog w) A (pyNext (.ref z)) Q E s := by
  obtain ⟨a, b, c, d⟩ := st
  obtain ⟨_, l1⟩ := D1.live _ _ b
  obtain ⟨_, l2⟩ := D2.live _ _ c
  have m1 := Nat.ne_of_gt (Heap.lt_size l1)
  have m2 := Nat.ne_of_gt (Heap.lt_size l2)
  rcases d with ⟨hz, u, v, hO⟩ | ⟨T, f, oT, hz, hT, r1, r2, r3, r4⟩
  · have m0 := Nat.ne_of_gt (Heap.lt_size hz)
    exact wpAny_pyNext_zipD2_item Sp D1 D2 hz a hO b c hlt1 hlt2 fun x1 x2 h' tk p1 p2 k1 k2 k3 k4 k5 k6 k7 => hQ x1 x2 h' tk p1 p2 ⟨k7 _ _ Sp.TIz Sp.TITO Sp.TIi1 Sp.TIi2 a, k3, k4, .inr ⟨_, _, _, k1, k5, m0, m1, m2, Nat.ne_of_gt hS⟩⟩ k5 k7
  · exact zh_next Sp D1 D2 hz hT a b c hlt1 hlt2 fun x1 x2 h' tk p1 p2 k1 k3 k4 k5 k6 k7 => hQ x1 x2 h' tk p1 p2 ⟨k7 _ _ Sp.TIz Sp.TIi1 Sp.TIi2 a, k3, k4, .inr ⟨_, _, _, k1, k7 _ _ r1 r2 r3 hT, r1, r2, r3, r4⟩⟩ k5 fun c o c1 _ c3 c4 e => k7 c o c1 c3 c4 e
theorem ZSt.stop {S : Addr} {Q : Option Value → Shared → Prop} (Sp : ZipSep2 z TI TO i1 i2 fp1 fp2) (D1 : Draws prog w A.in1 i1 fp1 n1 P1 St1) (D2 : Draws prog w A.in1 i2 fp2 n2 P2 St2) (st : ZSt St1 St2 z TI TO i1 i2 S i s.heap) (hle1 : i ≤ n1) (hle2 : i ≤ n2) (hend : i = n1 ∨ i = n2)
    (hQ : ∀ h' tk, (∀ c o, c ≠ z → c ≠ TO → c ≠ i1 → c ≠ i2 → s.heap.get? c = some o → h'.get? c = some o) → Q none { s with heap := h', toks := tk }) :
    wpAny (model prog w) A (pyNext (.ref z)) Q E s := by
  obtain ⟨a, b, c, d⟩ := st
  rcases d with ⟨hz, u, v, hO⟩ | ⟨T, f, oT, hz, hT, r1, r2, r3, r4⟩
  · exact wpAny_pyNext_zipD2_end Sp D1 D2 hz a hO b c hle1 hle2 hend hQ
  · exact zh_stop Sp D1 D2 hz hT a b c hle1 hle2 hend fun h' tk k => hQ h' tk fun c o c1 _ c3 c4 e => k c o c1 c3 c4 e
end
def putZ : Hp → List Addr → List (V × V) → Hp
  | H, a :: as, p :: ps => putZ (upd H a (.tup [p.1, p.2])) as ps
  | H, _, _ => H
theorem putZ_off {b : Addr} : ∀ (as : List Addr) (ps : List (V × V)) (H : Hp), b ∉ as → putZ H as ps b = H b
  | [], _, _, _ => rfl
  | _ :: _, [], _, _ => rfl
  | a :: as, p :: ps, H, h => by
    show putZ (upd H a (.tup [p.1, p.2])) as ps b = H b
    rw [putZ_off as ps _ (fun z => h (List.mem_cons_of_mem _ z)), upd_ne (fun z => h (by rw [z]; exact List.mem_cons_self))]
theorem upd_comm {H : Hp} {a b : Addr} {x y : HO} (h : a ≠ b) : upd (upd H a x) b y = upd (upd H b y) a x := by
  funext c
  by_cases h1 : c = a
  · subst h1
    rw [upd_ne h, upd_same, upd_same]
  · by_cases h2 : c = b
    · subst h2
      rw [upd_same, upd_ne h1, upd_same]
    · rw [upd_ne h2, upd_ne h1, upd_ne h1, upd_ne h2]
theorem putZ_upd {S : Addr} {o : HO} : ∀ (as : List Addr) (ps : List (V × V)) (H : Hp), S ∉ as → putZ (upd H S o) as ps = upd (putZ H as ps) S o
  | [], _, _, _ => rfl
  | _ :: _, [], _, _ => rfl
  | a :: as, p :: ps, H, h => by
    show putZ (upd (upd H S o) a (.tup [p.1, p.2])) as ps = upd (putZ (upd H a (.tup [p.1, p.2])) as ps) S o
    rw [upd_comm (fun z => h (by rw [z]; exact List.mem_cons_self)), putZ_upd as ps _ fun z => h (List.mem_cons_of_mem _ z)]
theorem none_upd {H : Hp} {a b : Addr} {o : HO} (h : H b = none) (n : b ≠ a) : upd H a o b = none := by rw [upd_ne n]; exact h
theorem nxt_putZ : ∀ (as : List Addr) (ps : List (V × V)) (B H : Hp), Sub B H → as.Nodup → (∀ a ∈ as, H a = none) → Nxt B H [] (putZ B as ps) (putZ H as ps) [] ∧ Sub (putZ B as ps) (putZ H as ps)
  | [], _, B, H, s, _, _ => ⟨Nxt.refl _ _ _, s⟩
  | _ :: _, [], B, H, s, _, _ => ⟨Nxt.refl _ _ _, s⟩
  | a :: as, p :: ps, B, H, s, hn, h => by
    obtain ⟨n1, n2⟩ := List.nodup_cons.mp hn
    have ha := h a List.mem_cons_self
    obtain ⟨r1, r2⟩ := nxt_putZ as ps (upd B a (.tup [p.1, p.2])) (upd H a (.tup [p.1, p.2])) s.upd n2 fun b hb => none_upd (h b (List.mem_cons_of_mem _ hb)) fun z => n1 (z ▸ hb)
    exact ⟨(Nxt.allocB ha (s.free ha) pl_tup).trans r1, r2⟩
theorem rfs_putZ {K : PySem.W.Frag} : ∀ (as : List Addr) (xs ys : List V) (ds es : List PyData) (B : Hp), as.Nodup → (∀ a ∈ as, B a = none) → as.length = xs.length → xs.length = ys.length → RFs K B xs ds → RFs K B ys es → RFs K (putZ B as (xs.zip ys)) (as.map V.ref) (zipL ds es)
  | [], [], [], _, _, B, _, _, _, _, .nil, .nil => .nil
  | a :: as, x :: xs, y :: ys, d :: ds, e :: es, B, hn, h, l1, l2, .cons rx rxs, .cons ry rys => by
    obtain ⟨n1, n2⟩ := List.nodup_cons.mp hn
    have ha := h a List.mem_cons_self
    have sb : Sub B (upd B a (.tup [x, y])) := fun b o q => by rw [upd_ne (ne_of_none q ha)]; exact q
    have h' : ∀ b ∈ as, upd B a (.tup [x, y]) b = none := fun b hb => none_upd (h b (List.mem_cons_of_mem _ hb)) fun z => n1 (z ▸ hb)
    have ih := rfs_putZ as xs ys ds es (upd B a (.tup [x, y])) n2 h' (Nat.succ.inj l1) (Nat.succ.inj l2) (rxs.mono sb) (rys.mono sb)
    exact .cons (.tup (SqT.of ((nxt_putZ as (xs.zip ys) _ _ (Sub.refl _) n2 h').1.bsub _ _ upd_same)) (.cons (rx.mono (sb.trans (nxt_putZ as (xs.zip ys) _ _ (Sub.refl _) n2 h').1.bsub)) (.cons (ry.mono (sb.trans (nxt_putZ as (xs.zip ys) _ _ (Sub.refl _) n2 h').1.bsub)) .nil))) ih
theorem Out.zipT {K : PySem.W.Frag} {B H : Hp} {S : Addr} {as : List Addr} {xs ys : List V} {ds es : List PyData} (s : Sub B H) (hS : H S = none) (h : ∀ a ∈ as, H a = none) (hn : as.Nodup) (nS : S ∉ as) (l1 : as.length = xs.length) (l2 : xs.length = ys.length) (r1 : RFs K B xs ds) (r2 : RFs K B ys es) :
    Out K B H (.ref S) (.lf (zipL ds es)) (putZ B as (xs.zip ys)) (putZ (upd H S (.lst (as.map V.ref))) as (xs.zip ys)) := by
  rw [putZ_upd as _ H nS]
  obtain ⟨n1, n2⟩ := nxt_putZ as (xs.zip ys) B H s hn h
  have hS2 : putZ H as (xs.zip ys) S = none := by rw [putZ_off as _ H nS]; exact hS
  have o : Out K (putZ B as (xs.zip ys)) (putZ H as (xs.zip ys)) (.ref S) (.lf (zipL ds es)) (putZ B as (xs.zip ys)) (upd (putZ H as (xs.zip ys)) S (.lst (as.map V.ref))) := Out.lst (rfs_putZ as xs ys ds es B hn (fun a ha => s.free (h a ha)) l1 l2 r1 r2) n2 hS2
  obtain ⟨g, a1, a2, a3, a4, a5⟩ := o
  exact ⟨g, n1.trans a1, a2, a3, a4, a5⟩
section
variable {X : Cx} {P1 P2 : Nat → Value → Prop}
end
def wListZ (w w2 : WE) : WE := fun ρ R => wFz w ρ fun d ρ1 => asTf d fun ds => wFz w2 ρ1 fun d2 ρ2 => asTf d2 fun es => ds.length = es.length ∧ R (.lf (zipL ds es)) ρ2
section
variable {X : Cx} {Z : Ent} {pos pos2 p p2 : Pos}
end
def pairD (p : Key × PyData) : PyData := .tuple [kD p.1, p.2]
def oDictP : List O → (O → Prop) → Prop
  | [.lf ds], R => ∃ kvs : List (Key × PyData), ds = kvs.map pairD ∧ (kvs.map (·.1)).Nodup ∧ R (.df kvs)
  | _, _ => False
def oGetN : List O → (O → Prop) → Prop
  | [.df kvs, x], R => (x = .fz .none ∧ R (.fz .none)) ∨ ∃ k, keyO x = some k ∧ R (.fz ((getK kvs k).getD .none))
  | _, _ => False
section
variable {ρ : En} {w w2 : WE} {k : O → Prop}
@[simp] theorem x_wListZ {R : O → En → Prop} : wListZ w w2 ρ R = wFz w ρ fun d ρ1 => asTf d fun ds => wFz w2 ρ1 fun d2 ρ2 => asTf d2 fun es => ds.length = es.length ∧ R (.lf (zipL ds es)) ρ2 := rfl
@[simp] theorem x_dictP {ds : List PyData} : oDictP [.lf ds] k = ∃ kvs : List (Key × PyData), ds = kvs.map pairD ∧ (kvs.map (·.1)).Nodup ∧ k (.df kvs) := rfl
@[simp] theorem x_getN {kvs : List (Key × PyData)} {x : O} : oGetN [.df kvs, x] k = ((x = .fz .none ∧ k (.fz .none)) ∨ ∃ key, keyO x = some key ∧ k (.fz ((getK kvs key).getD .none))) := rfl
end
end Pt
set_option maxHeartbeats 4000000
namespace Pt
open PySem PySem.Spec L2 PyProof.Rows
section
variable {K : PySem.W.Frag} {B H : Hp}
end
section
variable {X : Cx} {Z : Ent} {cn f cn2 m x : Str} {n i : Nat} {ps : List Nat} {g : WFX} {e : Expr} {es : List Expr} {px p1 apos pos : Pos} {ws : List (En → Option PyData)}
end
end Pt
namespace Pt
open PySem PySem.Spec L2 PyProof.Rows
def tabE : List DictEntry → Option (List (Str × Int))
  | [] => some []
  | e :: r => match e.key, e.val, tabE r with
    | .str x _, .int i _, some l => some ((x, i) :: l)
    | _, _, _ => none
structure KTab (K : PySem.W.Frag) (w : World) (d : Addr) (tbl : List (Str × Int)) : Prop where
  ex : ∃ es n, KDict K w d es n ∧ tabE es.toList = some tbl
def tabV (tbl : List (Str × Int)) (z : Str) : PyData := match tbl.lookup z with
  | some i => .int i
  | none => .none
theorem tabE_find (z : Str) : ∀ {l : List DictEntry} {tbl : List (Str × Int)}, tabE l = some tbl → l.any (·.refKey) = false ∧ match tbl.lookup z with
    | some i => ∃ e t, l.find? (·.key.isStr z) = some e ∧ e.val = .int i t
    | none => l.find? (·.key.isStr z) = none
  | [], _, h => by
    cases h
    exact ⟨rfl, rfl⟩
  | e :: r, tbl, h => by
    unfold tabE at h
    split at h
    · rename_i x t i u l h1 h2 h3
      cases h
      obtain ⟨a, b⟩ := tabE_find z h3
      have hr : e.refKey = false := by unfold DictEntry.refKey; rw [h1]
      refine ⟨by rw [List.any_cons, hr, a]; rfl, ?_⟩
      have hk : e.key.isStr z = (x == z) := by rw [h1]; rfl
      rw [List.lookup_cons]
      by_cases hx : x = z
      · subst hx
        rw [beq_self_eq_true]
        exact ⟨e, u, by rw [List.find?_cons, hk, beq_self_eq_true], h2⟩
      · have c1 : (z == x) = false := beq_eq_false_iff_ne.mpr (Ne.symm hx)
        have c2 : (x == z) = false := beq_eq_false_iff_ne.mpr hx
        rw [c1, List.find?_cons, hk, c2]
        exact b
    · cases h
theorem KTab.at_ {K : PySem.W.Frag} {w : World} {d : Addr} {tbl : List (Str × Int)} (T : KTab K w d tbl) (z : Str) : ∃ es n r, KDict K w d es n ∧ PySem.W.nsIn K d z = some r ∧ match tbl.lookup z with
    | some i => ∃ t, r = some (.int i t)
    | none => r = none := by
  obtain ⟨es, n, D, h⟩ := T.ex
  obtain ⟨a, b⟩ := tabE_find z h
  have e : PySem.W.nsIn K d z = match es.toList.find? (·.key.isStr z) with
      | some e => some (some e.val)
      | none => if es.toList.any (·.refKey) then none else some none := by
    unfold PySem.W.nsIn
    rw [D.at_]
    rfl
  rw [a] at e
  cases q : tbl.lookup z with
  | some i =>
    rw [q] at b
    obtain ⟨en, t, h1, h2⟩ := b
    rw [h1] at e
    exact ⟨es, n, _, D, e, t, congrArg some h2⟩
  | none =>
    rw [q] at b
    rw [b] at e
    exact ⟨es, n, _, D, e, rfl⟩
def wKGet (tbl : List (Str × Int)) (w : WE) : WE := fun ρ R => w ρ fun d ρ1 => stO d fun z => R (.fz (tabV tbl z)) ρ1
section
variable {X : Cx} {Z : Ent} {e : Expr} {w : WE} {x : Str} {p apos cpos : Pos} {d : Addr} {tbl : List (Str × Int)}
end
def oStrA : List O → (O → Prop) → Prop
  | [.fz (.int i)], R => CInt i ∧ R (.fz (.str (shI i)))
  | [.fz (.str y)], R => R (.fz (.str y))
  | _, _ => False
section
variable {X : Cx} {st : Stmt} {sts sts2 : List Stmt} {t u : TS} {e o a c : Expr} {te : TE}
open CwR
def wRepl (y z : Str) (w : WE) : WE := fun ρ R => w ρ fun d ρ1 => stO d fun x => x.length + (x.length + 1) * z.length ≤ 1000000 ∧ R (.fz (.str (Txt.replace x y z))) ρ1
variable {Z : Ent} {w : WE} {y z : Str} {j k : Nat} {c0 c1 apos pos : Pos}
variable {x : Str} {p : Pos} {n : Nat} {ps own : List Nat}
variable {tg : Expr} {g : WG} {wx : WEX}
end
section
variable {X : Cx} {Z : Ent} {e a b c : Expr} {w : WEX} {pos p : Pos} {x : Str}
end
end Pt
namespace Pt
open PySem PySem.Spec L2 PyProof.Rows
section
variable {K : PySem.W.Frag} {Z : Ent} {B H : Hp} {σ : L2.St} {ρ : En} {fp : List Addr}
end
def turnO (a o : Nat) (s : WS) (E : DE) (K : En → Prop) : En → Prop := fun ρ => nth ρ a ≠ .hid ∧ o < ρ.length ∧ s { E with nx := fun ρ' => K ((ρ'.set o .hid).set a (nth ρ' o)), ct := fun ρ' => K ((ρ'.set o .hid).set a (nth ρ' o)), bk := fun ρ' => E.nx ((ρ'.set o .hid).set a (nth ρ' o)) } ((ρ.set a .hid).set o (nth ρ a))
def sFor2 (a b o : Nat) (s : WS) : WS := fun E ρ => nth ρ b ≠ .hid ∧ turnO a o s E (turnO b o s E E.nx) ρ
section
variable {X : Cx} {Z : Ent} {ps : List Nat} {sts : List Stmt} {s : WS} {pos p1 p2 p3 tp : Pos} {x y o : Str} {a b c : Nat} {kx : Nat}
end
section
variable {ρ : En}
@[simp] theorem x_sFor2 {a b o : Nat} {s : WS} {E : DE} : sFor2 a b o s E ρ = (nth ρ b ≠ .hid ∧ turnO a o s E (turnO b o s E E.nx) ρ) := rfl
end
section
variable {X : Cx} {Z : Ent} {a e tg : Expr} {w : WE} {g : WG} {x : Str} {p pos : Pos} {ps own : List Nat}
end
section
variable {ρ : En} {R : O → En → Prop} {w : WE} {k : O → Prop}
@[simp] theorem x_strAi {i : Int} : oStrA [.fz (.int i)] k = (CInt i ∧ k (.fz (.str (shI i)))) := rfl
@[simp] theorem x_strAs {y : Str} : oStrA [.fz (.str y)] k = k (.fz (.str y)) := rfl
@[simp] theorem x_kget {tbl : List (Str × Int)} : wKGet tbl w ρ R = w ρ fun d ρ1 => stO d fun z => R (.fz (tabV tbl z)) ρ1 := rfl
@[simp] theorem x_repl {y z : Str} : wRepl y z w ρ R = w ρ fun d ρ1 => stO d fun x => x.length + (x.length + 1) * z.length ≤ 1000000 ∧ R (.fz (.str (Txt.replace x y z))) ρ1 := rfl
end
end Pt
namespace Pt
open PySem PySem.Spec PyProof.Rows L2
def wUpper (w : WE) : WE := fun ρ R => w ρ fun d ρ1 => stO d fun x => x.length ≤ 1000000 ∧ R (.fz (.str (Txt.upper x))) ρ1
section
variable {X : Cx} {Z : Ent} {w : WE} {o : Expr} {apos pos : Pos} {ρ : En} {R : O → En → Prop}
@[simp] theorem x_upper : wUpper w ρ R = w ρ fun d ρ1 => stO d fun x => x.length ≤ 1000000 ∧ R (.fz (.str (Txt.upper x))) ρ1 := rfl
theorem RFs.flt0 {K : PySem.W.Frag} {B B' : Hp} : ∀ {vs : List V} {ds : List PyData}, RFs K B vs ds → (∀ d ∈ ds, flatP d = true) → RFs K B' vs ds
  | _, _, .nil, _ => .nil
  | _, _, .cons r s, h => .cons (r.flt0 (h _ (List.mem_cons_self ..))) (s.flt0 fun d hd => h d (List.mem_cons_of_mem _ hd))
def wPeekL (w : WE) : WE := fun ρ R => w (ρ.map snapO) fun d _ => ∃ ds, d = .lf ds ∧ (∀ y ∈ ds, flatP y = true) ∧ R (.lf ds) ρ
@[simp] theorem x_wPeekL : wPeekL w ρ R = w (ρ.map snapO) fun d _ => ∃ ds, d = .lf ds ∧ (∀ y ∈ ds, flatP y = true) ∧ R (.lf ds) ρ := rfl
end
end Pt
namespace Pt
open PySem PySem.Spec PyProof.Rows L2
def wThrow (w : WEX) : WEX := fun xc ρ _ => w xc ρ fun _ _ => False
section
variable {X : Cx} {Z : Ent} {w : WEX} {apos pos pos' : Pos} {ρ : En} {R : O → En → Prop} {xc : Ex → En → Prop}
@[simp] theorem x_wThrow : wThrow w xc ρ R = w xc ρ fun _ _ => False := rfl
end
end Pt
namespace NS
open PySem PySem.Spec L2 PyProof.Rows
def TI (h : Heap) : Nat → Value → Prop
  | 0, v => ∃ i t, v = Value.int i t
  | n + 1, v => (∃ i t, v = Value.int i t) ∨ ∃ b o vs m, v = .ref b ∧ h.get? b = some o ∧ o.cls = .type "tuple" ∧ o.data = .seq vs m ∧ ∀ u ∈ vs.toList, TI h n u
theorem TI.ext {h h' : Heap} (x : ∀ b o, h.get? b = some o → h'.get? b = some o) : ∀ (n : Nat) (v : Value), TI h n v → TI h' n v
  | 0, _, q => q
  | n + 1, _, .inl q => .inl q
  | n + 1, _, .inr ⟨b, o, vs, m, e, h1, h2, h3, h4⟩ => .inr ⟨b, o, vs, m, e, x b o h1, h2, h3, fun u hu => TI.ext x n u (h4 u hu)⟩
section
variable {P : Program} {w : World} {A : Around} {E : Value → Shared → Prop} {s : Shared}
structure KAt (h : Heap) (q : Addr × NestedKey) : Prop where
  is : NestedIs h q.2 (.ref q.1)
  dp : q.2.depth ≤ 8
  ti : TI h 8 (.ref q.1)
theorem KAt.ext {h h' : Heap} {q : Addr × NestedKey} (k : KAt h q) (x : ∀ b o, h.get? b = some o → h'.get? b = some o) : KAt h' q :=
  ⟨NestedIs.at (fun a o vs n h1 _ => x a o h1) _ _ k.is, k.dp, TI.ext x _ _ k.ti⟩
end
abbrev rowK (w : World) (q : Addr × NestedKey) : Int × Value := (q.2.hash w, .ref q.1)
theorem fits_of {t : SetTable} {n : Nat} (h1 : t.dummies = #[]) (h2 : t.place.size = n) (h3 : n ≤ t.mask) : t.fits n = true := by
  have e : t.fill ≤ t.mask := by
    show t.place.size + t.dummies.size ≤ t.mask
    rw [h1, h2]
    exact h3
  show (t.place.size == n && decide (t.fill ≤ t.mask)) = true
  rw [h2, decide_eq_true e]
  simp
structure SR (w : World) (h : Heap) (a : Addr) (L : List (Addr × NestedKey)) (es : Array (Int × Value)) (ep : Nat) (t : SetTable) : Prop where
  ob : ∃ o : Obj, h.get? a = some o ∧ o.data = .set es ep t ∧ o.ExactSet
  rows : es.toList = L.map (rowK w)
  tab : TabOk t (L.map fun q => q.2.hash w)
  plain : t.plain = true
  led : t.led = true ∨ w.params.followText "set-order" = true
  room : 5 * L.length < 3 * t.mask
  few : L.length < 64
section
variable {P : Program} {w : World} {A : Around} {E : Value → Shared → Prop} {s : Shared} {a : Addr} {L : List (Addr × NestedKey)} {es : Array (Int × Value)} {ep : Nat} {t : SetTable}
theorem SR.size {h : Heap} (R : SR w h a L es ep t) : es.size = L.length := by
  rw [← Array.length_toList, R.rows, List.length_map]
theorem SR.fits {h : Heap} (R : SR w h a L es ep t) : t.fits es.size = true := by
  have h1 := R.tab.sz
  have h2 := R.size
  have h3 := R.room
  rw [List.length_map] at h1
  exact fits_of R.tab.dm (by omega) (by omega)
theorem SR.at {h : Heap} (R : SR w h a L es ep t) {i : Nat} {q : Addr × NestedKey} (e : L[i]? = some q) : es[i]? = some (rowK w q) := by
  rw [← Array.getElem?_toList, R.rows, List.getElem?_map, e]
  rfl
end
section
variable {P : Program} {w : World} {A : Around} {E : Value → Shared → Prop} {s : Shared}
abbrev set0 (w : World) : Obj := { cls := .type "set", dict := none, data := .set #[] 0 (.fresh 0 0 (!w.params.followText "set-order")) }
theorem SR.new {h : Heap} {a : Addr} (e : h.get? a = some (set0 w)) : SR w h a [] #[] 0 (.fresh 0 0 (!w.params.followText "set-order")) := by
  refine ⟨⟨_, e, rfl, ⟨rfl, rfl, rfl⟩⟩, rfl, ⟨List.Pairwise.nil, rfl, rfl, .inl rfl, (fun x hx => by cases hx), fun i h j hi => by simp at hi⟩, rfl, ?_, (show 5 * 0 < 3 * 7 by decide), (show 0 < 64 by decide)⟩
  show (!w.params.followText "set-order") = true ∨ w.params.followText "set-order" = true
  cases w.params.followText "set-order" <;> decide
end
section
variable {P : Program} {w : World} {A : Around} {E : Value → Shared → Prop} {s : Shared}
end
end NS
namespace Pt
open PySem PySem.Spec L2 PyProof.Rows
def tiD : Nat → PyData → Prop
  | 0, d => ∃ i, d = .int i
  | n + 1, d => (∃ i, d = .int i) ∨ ∃ ds, d = .tuple ds ∧ ∀ x ∈ ds, tiD n x
mutual
def kyD : PyData → NestedKey
  | .int i => .num i
  | .tuple ds => .tup (kyDs ds)
  | _ => .none
def kyDs : List PyData → List NestedKey
  | [] => []
  | d :: ds => kyD d :: kyDs ds
end
section
variable {X : Cx} {pins : List (Addr × Obj)} {σ : L2.St} {H : Hp} {s : Shared}
end
end Pt
namespace Pt
open PySem PySem.Spec L2 PyProof.Rows
section
variable {X : Cx}
variable {K : PySem.W.Frag}
def wLenSetN (w : WE) : WE := fun ρ R => w ρ fun d ρ1 => ∃ ds, d = .lf ds ∧ (∀ d ∈ ds, tiD 8 d ∧ ∃ ys, d = .tuple ys) ∧ (ds.map kyD).Nodup ∧ ds.length < 64 ∧ R (.fz (.int (ds.length : Nat))) ρ1
end
section
variable {ρ : En} {R : O → En → Prop} {w : WE}
@[simp] theorem x_wLenSetN : wLenSetN w ρ R = w ρ fun d ρ1 => ∃ ds, d = .lf ds ∧ (∀ d ∈ ds, tiD 8 d ∧ ∃ ys, d = .tuple ys) ∧ (ds.map kyD).Nodup ∧ ds.length < 64 ∧ R (.fz (.int (ds.length : Nat))) ρ1 := rfl
end
end Pt
namespace Pt
open PySem PySem.Spec L2 PyProof.Rows
def oGet2 : List O → (O → Prop) → Prop
  | [.df kvs, x, .fz d], R => ∃ k, keyO x = some k ∧ R (.fz ((getK kvs k).getD d))
  | _, _ => False
@[simp] theorem x_get2 {kvs : List (Key × PyData)} {x : O} {d : PyData} {k : O → Prop} : oGet2 [.df kvs, x, .fz d] k = ∃ key, keyO x = some key ∧ k (.fz ((getK kvs key).getD d)) := rfl
theorem u16 {a b : Nat} (h : a + 64 < b) : a + 16 < b := by omega
end Pt
namespace Pt
open PySem PySem.Spec L2
def putD (kvs : List (Key × PyData)) (k : Key) (f : PyData) : List (Key × PyData) := if (kvs.any fun p => decide (p.1 = k)) = true then kvs.map (fun p => if p.1 = k then (p.1, f) else p) else kvs ++ [(k, f)]
def lmDPut : O → List O → (O → O → Prop) → Prop
  | .df kvs, [.fz f, x], R => ∃ k, keyO x = some k ∧ kvs.length + 1 ≤ szMax ∧ R (.df (putD kvs k f)) (.fz .none)
  | _, _, _ => False
def sPutD (i : Nat) (we wk : WE) : WS := sDrop (wMu "dict" i [we, wk] lmDPut)
section
variable {X : Cx} {Z : Ent} {ps : List Nat} {e k : Expr} {x : Str} {pos px p2 : Pos} {we wk : WE}
end
section
variable {w w2 : WE} {i : Nat} {ρ : En} {R2 : O → O → Prop}
@[simp] theorem x_sPutD : sPutD i w w2 = sDrop (wMu "dict" i [w, w2] lmDPut) := rfl
@[simp] theorem x_lmDPut {kvs : List (Key × PyData)} {x : O} {f : PyData} : lmDPut (.df kvs) [.fz f, x] R2 = ∃ k, keyO x = some k ∧ kvs.length + 1 ≤ szMax ∧ R2 (.df (putD kvs k f)) (.fz .none) := rfl
end
def wGone (is : List Nat) (w : WE) : WE := fun ρ R => w (wipeO ρ is) R
@[simp] theorem x_wGone {is : List Nat} {w : WE} {ρ : En} {R : O → En → Prop} : wGone is w ρ R = w (wipeO ρ is) R := rfl
end Pt
namespace Pt
open PySem PySem.Spec L2 PyProof.Rows
end Pt
set_option maxHeartbeats 1000000
namespace Pt
open PySem PySem.Spec L2 PyProof.Rows HotX
open PySem.Sem (wp)
section
variable {prog : Program} {w : World} {A : Around} {E : Value → Shared → Prop} {s : Shared}
end
structure AtZ (z TI TO i1 i2 a b : Addr) (i : Nat) (h : Heap) : Prop where
  zip : IsZip h z TI TO .none
  inp : IsPair h TI (.ref i1) (.ref i2)
  out : ∃ u v, IsPair h TO u v
  one : h.IsListIter i1 a i
  two : h.IsListIter i2 b i
section
variable {z TI TO i1 i2 a b : Addr} {i : Nat} {h h' : Heap}
theorem AtZ.keep (q : AtZ z TI TO i1 i2 a b i h) (k : ∀ c ∈ [z, TI, TO, i1, i2], ∀ o, h.get? c = some o → h'.get? c = some o) : AtZ z TI TO i1 i2 a b i h' := by
  obtain ⟨q1, q2, ⟨u, v, q3⟩, q4, q5⟩ := q
  refine ⟨k _ (by simp) _ q1, k _ (by simp) _ q2, ⟨u, v, k _ (by simp) _ q3⟩, ?_, ?_⟩
  · exact q4.at (k i1 (by simp))
  · exact q5.at (k i2 (by simp))
theorem AtZ.obj (q : AtZ z TI TO i1 i2 a b i h) : ∀ c ∈ [z, TI, TO, i1, i2], ∃ o, h.get? c = some o ∧ ∀ v, o.data ≠ .cell v := by
  obtain ⟨q1, q2, ⟨u, v, q3⟩, ⟨o4, q4, _, d4⟩, ⟨o5, q5, _, d5⟩⟩ := q
  simp only [List.forall_mem_cons]
  exact ⟨⟨_, q1, fun _ e => nomatch e⟩, ⟨_, q2, fun _ e => nomatch e⟩, ⟨_, q3, fun _ e => nomatch e⟩, ⟨o4, q4, fun _ e => nomatch d4.symm.trans e⟩, ⟨o5, q5, fun _ e => nomatch d5.symm.trans e⟩, fun _ e => nomatch e⟩
end
section
variable {X : Cx} {Z : Ent} {p pos tpos : Pos} {elts : List Expr} {kk : Nat}
end
end Pt
namespace Pt
open PySem PySem.Spec L2 PyProof.Rows
abbrev TB := L2.St → Hp → (Hp → Prop) → Prop
def F0 : Value → Shared → Prop := fun _ _ => False
theorem thn0 {α : Type} {m : Sem α} {M : Model} {A : Around} {Q Q' : α → Shared → Prop} {E : Value → Shared → Prop} {s : Shared} (h : wpAny M A m Q F0 s) (q : ∀ a s', Q a s' → Q' a s') : wpAny M A m Q' E s := wpAny_mono h q fun _ _ x => x.elim
section
variable {prog : Program} {w : World} {A : Around} {R : Result → Shared → Prop} {s : Shared} {elt tg iter : Expr} {gens : List Comprehension} {ifs : List Expr} {scope : Scope} {pos : Pos} {k : Nat} {it acc : Value} {env : Env}
def runB (prog : Program) (w : World) (A : Around) (elt : Expr) (gens : List Comprehension) (scope : Scope) (pos : Pos) (k : Nat) (acc : Value) (env : Env) (Φ : Shared → Prop) (s : Shared) : Prop :=
  match gens[k + 1]? with
  | some g => wpAny (model prog w) A (eval g.iter env) (fun x s1 => wpAny (model prog w) A (pyIter x) (fun i s2 => codeAny (model prog w) A (.compStart (.ListComp elt gens scope pos) (k + 1) i acc env) (fun r s' => match r with
      | .ok _ => Φ s'
      | .error _ => False) s2) F0 s1) F0 s
  | none => wpAny (model prog w) A (eval elt env) (fun x s1 => wpAny (model prog w) A (call (.builtin "list.append") [acc, x]) (fun _ s2 => Φ s2) F0 s1) F0 s
theorem runB_mono {Φ Ψ : Shared → Prop} (h : runB prog w A elt gens scope pos k acc env Φ s) (q : ∀ s', Φ s' → Ψ s') : runB prog w A elt gens scope pos k acc env Ψ s := by
  unfold runB at h ⊢
  cases hg : gens[k + 1]? with
  | none =>
    rw [hg] at h
    exact thn0 h fun x s1 h1 => thn0 h1 fun _ s2 h2 => q s2 h2
  | some c =>
    rw [hg] at h
    refine thn0 h fun x s1 h1 => thn0 h1 fun i s2 h2 => codeAny_mono h2 fun r s3 h3 => ?_
    cases r with
    | ok f => exact q s3 h3
    | error e => exact h3
theorem clause_any (hk : gens[k]? = some ⟨tg, iter, ifs, 0⟩) (hz : ∀ g, gens[k + 1]? = some g → g.is_async = 0 ∧ ∀ x, foldedSetIterable g.iter env x = pure x) (I : Nat → Shared → Prop)
    (turn : ∀ n s, I n s → wpAny (model prog w) A (pyNext it) (fun r s1 => match r with
      | none => R (.ok .next) s1
      | some v => wpAny (model prog w) A (letOwnedTupleGo tg it v) (fun _ s2 => wpAny (model prog w) A (assign tg env v) (fun _ s3 =>
          wpAny (model prog w) A (forIn ifs true fun c r => if r = true then do let ok ← isTrue c env (eval c env); pure (ForInStep.yield ok) else pure (ForInStep.yield r)) (fun ok s4 =>
            if ok = true then runB prog w A elt gens scope pos k acc env (fun s' => ∃ m, m < n ∧ I m s') s4 else ∃ m, m < n ∧ I m s4) F0 s3) F0 s2) F0 s1) F0 s)
    (n : Nat) (h : I n s) : codeAny (model prog w) A (.compLoop (.ListComp elt gens scope pos) k it acc env) R s := by
  refine codeAny_loop rfl I (fun n s hI => ?_) n h
  show wpAny _ A ((compTurn (.ListComp elt gens scope pos) k it acc env).onRaise (fun x => do noteFrame x env; theTreesLotGoes x)) _ _ s
  refine wpAny_noted ?_
  have t := turn n s hI
  simp only [compTurn, hk]
  refine wpAny_bind (wpAny_standAt (wpAny_bind (thn0 t fun r s1 h1 => ?_)))
  cases r with
  | none => exact wpAny_pure h1
  | some v =>
    refine wpAny_bind (thn0 h1 fun _ s2 h2 => ?_)
    refine wpAny_bind (thn0 h2 fun _ s3 h3 => ?_)
    refine wpAny_bind (thn0 h3 fun ok s4 h4 => ?_)
    cases ok with
    | false => exact wpAny_pure ⟨rfl, h4⟩
    | true =>
      simp only [if_true] at h4 ⊢
      unfold runB at h4
      cases hg : gens[k + 1]? with
      | none =>
        rw [hg] at h4
        exact wpAny_bind (wpAny_bind (thn0 h4 fun x s5 h5 => wpAny_bind (thn0 h5 fun _ s6 h6 => wpAny_pure (wpAny_pure ⟨rfl, h6⟩))))
      | some c =>
        rw [hg] at h4
        obtain ⟨za, zf⟩ := hz c hg
        have nb : ¬ (c.is_async != 0) = true := by simp [za]
        simp only [if_neg nb]
        refine wpAny_bind (thn0 h4 fun x s5 h5 => wpAny_bind (wpAny_standAt (wpAny_bind (wpAny_of_eq (zf x) (wpAny_bind (wpAny_holding (thn0 h5 fun i s6 h6 => wpAny_bind (wpAny_runOwn ?_))))))))
        rw [Around.mark_none]
        refine codeAny_mono h6 fun r s7 h7 => ?_
        cases r with
        | ok f => exact wpAny_pure ⟨rfl, h7⟩
        | error e => exact h7.elim
theorem start_any {it1 : Value} (hz : ((gens[k]?).elim false fun g => g.is_async != 0) = false) (now : codeAny (model prog w) A (.compLoop (.ListComp elt gens scope pos) k it1 acc env) R s)
    (once : wpAny (model prog w) A (pyIter it1) (fun i s' => codeAny (model prog w) A (.compLoop (.ListComp elt gens scope pos) k i acc env) R s') F0 s) : codeAny (model prog w) A (.compStart (.ListComp elt gens scope pos) k it1 acc env) R s := by
  refine codeAny_of_tree ?_
  show wpAny _ _ ((compStart (.ListComp elt gens scope pos) k it1 acc env).onRaise (fun x => do noteFrame x env; standAt theWindowsPlace)) _ _ s
  refine wpAny_notedAt ?_
  unfold compStart
  have n0 : ¬ ((clausesOf (.ListComp elt gens scope pos))[k]?.elim false fun g => g.is_async != 0) = true := by
    show ¬ ((gens[k]?).elim false fun g => g.is_async != 0) = true
    rw [hz]
    exact Bool.false_ne_true
  simp only [if_neg n0]
  refine wpAny_bind (wpAny_askSetting ?_)
  refine wpAny_ite ?_
  split
  · exact wpAny_pure ⟨rfl, now⟩
  · refine wpAny_bind (wpAny_rule ?_)
    have last : wpAny (model prog w) A (pyIter it1 >>= fun i => again (.compLoop (.ListComp elt gens scope pos) k i acc env)) (fun fin s' => match fin with
        | .done f => R (.ok f) s'
        | .again c' => c'.quiet = true ∧ codeAny (model prog w) A c' R s') F0 s := wpAny_bind (thn0 once fun i s1 h1 => wpAny_pure ⟨rfl, h1⟩)
    cases hg : (clausesOf (.ListComp elt gens scope pos))[k]? with
    | none => exact thn0 last fun _ _ h => h
    | some c => exact wpAny_bind (wpAny_standAt (thn0 last fun _ _ h => h))
end
structure PBd (X : Cx) (elt : Expr) (gens : List Comprehension) (scope : Scope) (pos : Pos) (k : Nat) (D : Addr) (vs : List Nat) (bd : TB) : Prop where
  run : ∀ (pins : List (Addr × Obj)) (s : Shared) (σ : L2.St) (H : Hp) (Nx : Hp → Prop), L2.Inv X pins σ H s → bd σ H Nx →
    runB X.prog X.w X.A elt gens scope pos k (.ref D) X.env (fun s' => ∃ σ' H', L2.Inv X pins σ' H' s' ∧ σ'.length = σ.length ∧ (∀ (j : Nat) v, j ∉ vs → σ[j]? = some (some v) → σ'[j]? = some (some v)) ∧ Nx H') s
def bdE (te : TE) (D : Addr) : TB := fun σ H Nx => te σ H fun y H' => ∃ acc, H' D = some (.lst acc) ∧ acc.length < sizeLine ∧ Nx (upd H' D (.lst (acc ++ [y])))
def Turns (J : It) (g : TG) (tt : TT) (bd : TB) (vs : List Nat) (σ : L2.St) (W : Nat → Nat → Hp → Prop) (Nx : Hp → Prop) : Prop := ∀ i m H, W i m H → (J.stop i H ∧ Nx H) ∨ (J.go i H ∧ ∃ N1 : Hp → Prop, (∀ H', N1 H' → ∃ m', m' < m ∧ W (i + 1) m' H') ∧ ∀ x H', J.yld i H x H' →
  g x (wipe σ vs) H' fun σ2 H2 => wipe σ2 vs = wipe σ vs ∧ tt σ2 H2 fun b H3 => if b = true then bd σ2 H3 N1 else N1 H3)
def bdC (wi : TI) (g : TG) (tt : TT) (vs : List Nat) (bd : TB) : TB := fun σ H Nx => wi σ H fun J H1 => ∃ W : Nat → Nat → Hp → Prop, (∃ m, W 0 m H1) ∧ Turns J g tt bd vs σ W Nx
section
variable {X : Cx} {elt tg iter : Expr} {gens : List Comprehension} {ifs : List Expr} {scope : Scope} {pos : Pos} {k : Nat} {D : Addr} {vs vs1 : List Nat} {bd : TB} {g : TG} {tt : TT}
theorem bd_last {te : TE} (hx : X.xe = F0) (hk : gens[k + 1]? = none) (he : PE X elt te) : PBd X elt gens scope pos k D [] (bdE te D) := ⟨fun pins s σ H Nx I h => by
  unfold runB
  rw [hk]
  have r := he.run pins s σ H _ I h
  rw [hx] at r
  refine thn0 r fun v s1 ⟨y, H1, I1, r1, acc, hD, hz, nx⟩ => ?_
  exact app_ok I1 hD hz r1 fun s2 I2 => ⟨σ, _, I2, rfl, fun _ _ _ e => e, nx⟩⟩
theorem clause_loop (hx : X.xe = F0) (hc : X.calm = true) (hk : gens[k]? = some ⟨tg, iter, ifs, 0⟩) (hz : ∀ g, gens[k + 1]? = some g → g.is_async = 0 ∧ ∀ x, foldedSetIterable g.iter X.env x = pure x)
    (pg : PG X tg g) (pt : PTs X ifs tt) (pb : PBd X elt gens scope pos k D vs1 bd) (hv : ∀ i ∈ vs1, i ∈ vs) {J : It} {fp : List Addr} {it : Addr} {tn : Nat → Heap → Prop} (T : Turn X.prog X.w X.K tg J fp it tn)
    {pins : List (Addr × Obj)} {σ : L2.St} {W : Nat → Nat → Hp → Prop} {Nx : Hp → Prop} {R : Result → Shared → Prop} (turn : Turns J g tt bd vs σ W Nx) (out : ∀ s' H', L2.Inv X pins (wipe σ vs) H' s' → Nx H' → R (.ok .next) s')
    {s : Shared} {H : Hp} {m : Nat} (I : L2.Inv X pins (wipe σ vs) H s) (hf : ∀ b ∈ fp, FpOk X pins H b) (st : tn 0 s.heap) (w0 : W 0 m H) :
    codeAny (model X.prog X.w) X.A (.compLoop (.ListComp elt gens scope pos) k (.ref it) (.ref D) X.env) R s := by
  have still : ∀ {H' : Hp}, (∀ b ∈ fp, H' b = none) → ∀ b ∈ fp, FpOk X pins H' b := fun n b hb => ⟨n b hb, (hf b hb).2⟩
  refine clause_any hk hz (fun n s' => ∃ j H', L2.Inv X pins (wipe σ vs) H' s' ∧ tn j s'.heap ∧ (∀ b ∈ fp, H' b = none) ∧ W j n H') ?_ m ⟨0, H, I, st, fun b hb => (hf b hb).1, w0⟩
  rintro n s1 ⟨j, H1, I1, t1, n1, w1⟩
  rcases turn j n H1 w1 with ⟨stop, nx⟩ | ⟨go, N1, less, step⟩
  · refine thn0 (T.done X rfl rfl rfl hc j pins s1 _ H1 F0 I1 (still n1) t1 stop) fun r s2 ⟨hr, I2⟩ => ?_
    subst hr
    exact out s2 H1 I2 nx
  · refine thn0 (T.item X rfl rfl rfl hc j pins s1 _ H1 F0 I1 (still n1) t1 go) fun r s2 ⟨u, hr, h2⟩ => ?_
    subst hr
    refine thn0 h2 fun _ s3 ⟨x, H3, I3, r3, y3, t3, n3⟩ => ?_
    have P3 := I3.pinned (still n3) (T.obj _ _ t3)
    have a4 := pg.run _ s3 (wipe σ vs) H3 x u _ P3 r3 (step x H3 y3)
    rw [hx] at a4
    refine thn0 a4 fun _ s4 ⟨σ4, H4, I4, hw, q4⟩ => ?_
    have a5 := pt.run _ s4 σ4 H4 _ I4 q4
    rw [hx] at a5
    refine thn0 a5 fun b s5 ⟨H5, I5, q5⟩ => ?_
    have back : ∀ {σ6 : L2.St} {s6 : Shared} {H6 : Hp}, L2.Inv X (pins ++ pinsAt fp s3.heap) σ6 H6 s6 → σ6.length = σ4.length → (∀ (j : Nat) v, j ∉ vs → σ4[j]? = some (some v) → σ6[j]? = some (some v)) → N1 H6 →
        ∃ m, m < n ∧ ∃ j H', L2.Inv X pins (wipe σ vs) H' s6 ∧ tn j s6.heap ∧ (∀ b ∈ fp, H' b = none) ∧ W j m H' := fun {σ6 s6 H6} I6 hl hk6 nx => by
      obtain ⟨m', lt, w'⟩ := less H6 nx
      have held : ∀ c ∈ fp, ∀ o, s3.heap.get? c = some o → s6.heap.get? c = some o ∧ H6 c = none := fun c hcm o e => by
        have z := I6.pin (c, o) (List.mem_append_right _ (List.mem_append_right _ (mem_pinsAt hcm e)))
        exact ⟨z.1, z.2.1⟩
      refine ⟨m', lt, j + 1, H6, I6.unpinned.weak (by rw [hl, ← hw, wipe_length]) (fun i v e => ?_), T.keep _ _ _ t3 fun c hcm o e => (held c hcm o e).1, fun c hcm => ?_, w'⟩
      · rw [← hw] at e
        obtain ⟨e1, e2⟩ := wipe_some e
        exact hk6 i v e2 e1
      · obtain ⟨o, e, _⟩ := T.obj _ _ t3 c hcm
        exact (held c hcm o e).2
    cases b with
    | false =>
      simp only [Bool.false_eq_true, if_false] at q5 ⊢
      exact back I5 rfl (fun _ _ _ e => e) q5
    | true =>
      simp only [if_true] at q5 ⊢
      have a6 := pb.run _ s5 σ4 H5 N1 I5 q5
      refine runB_mono a6 fun s6 ⟨σ6, H6, I6, l6, k6, nx⟩ => back I6 l6 (fun i v hi e => k6 i v (fun z => hi (hv i z)) e) nx
theorem bd_more {wi : TI} (hx : X.xe = F0) (hc : X.calm = true) (hk : gens[k + 1]? = some ⟨tg, iter, ifs, 0⟩) (hz : ∀ g, gens[k + 1 + 1]? = some g → g.is_async = 0 ∧ ∀ x, foldedSetIterable g.iter X.env x = pure x) (hi : PI X tg iter wi)
    (pg : PG X tg g) (pt : PTs X ifs tt) (pb : PBd X elt gens scope pos (k + 1) D vs1 bd) (hv : ∀ i ∈ vs1, i ∈ vs) : PBd X elt gens scope pos k D vs (bdC wi g tt vs bd) := ⟨fun pins s σ H Nx I h => by
  unfold runB
  rw [hk]
  have r := hi.run pins s σ H _ I h
  rw [hx] at r
  refine thn0 r fun x s1 h1 => thn0 h1 fun iv s2 h2 => ?_
  obtain ⟨it, fp, tn, J, H2, rfl, I2, T, t2, f2, W, ⟨m, w0⟩, turn⟩ := h2
  have loop : codeAny (model X.prog X.w) X.A (.compLoop (.ListComp elt gens scope pos) (k + 1) (.ref it) (.ref D) X.env) (fun r s' => match r with
      | .ok _ => ∃ σ' H', L2.Inv X pins σ' H' s' ∧ σ'.length = σ.length ∧ (∀ (j : Nat) v, j ∉ vs → σ[j]? = some (some v) → σ'[j]? = some (some v)) ∧ Nx H'
      | .error _ => False) s2 :=
    clause_loop hx hc hk hz pg pt pb hv T turn (fun s' H' I' nx => ⟨wipe σ vs, H', I', wipe_length _ _, fun j v hj e => by rw [wipe_out hj]; exact e, nx⟩) (I2.weak (wipe_length _ _) fun j v e => (wipe_some e).1) f2 t2 w0
  exact start_any (by rw [hk]; rfl) loop (T.self X.A 0 _ _ _ t2 loop)⟩
def tLcN (wi : TI) (g : TG) (tt : TT) (bd : Addr → TB) (vs : List Nat) : TE := fun σ H Q => wi σ H fun J H1 => ∀ D, H1 D = none → ∃ W : Nat → Nat → Hp → Prop, (∃ m, W 0 m (upd H1 D (.lst []))) ∧ Turns J g tt (bd D) vs σ W (Q (.ref D))
theorem lcN_core {pins : List (Addr × Obj)} {s : Shared} {σ : L2.St} {H : Hp} {Q : VK} {rest : List Comprehension} {own : List (Str × Nat)} {pos' : Pos} {wi : TI} {bd : Addr → TB} {use : Option (Value → Sem Unit)} {Qf : Value → Shared → Prop}
    (hc : X.calm = true) (hN : X.N.Nodup) (I : L2.Inv X pins σ H s) (hi : PI X tg iter wi) (ok : BlkOk X.N X.env.scope scope own) (hv : ∀ i ∈ vs1, i ∈ own.map (·.2)) (hz : ∀ env g, rest[0]? = some g → g.is_async = 0 ∧ ∀ x, foldedSetIterable g.iter env x = pure x)
    (hg : ∀ (s : Shared) (H : Hp) (C : Addr) (cl : List (Str × Addr)) (fp : List Addr), PG (X.blk s H scope (compEnvC scope cl C X.env) fp) tg g) (ht : ∀ (s : Shared) (H : Hp) (C : Addr) (cl : List (Str × Addr)) (fp : List Addr), PTs (X.blk s H scope (compEnvC scope cl C X.env) fp) ifs tt)
    (hb : ∀ (s : Shared) (H : Hp) (C : Addr) (cl : List (Str × Addr)) (fp : List Addr) (D : Addr), PBd (X.blk s H scope (compEnvC scope cl C X.env) fp) elt (⟨tg, iter, ifs, 0⟩ :: rest) scope pos 0 D vs1 (bd D)) (hs : ∀ x, foldedSetIterable iter X.env x = pure x)
    (h : tLcN wi g tt bd (own.map (·.2)) σ H Q)
    (fin : ∀ D C s' m H', L2.Inv X pins σ H' s' → Q (.ref D) H' → s'.heap.Ns C m → FpOk X pins H' C → compPost (model X.prog X.w) X.A X.xe use Qf (.ref D) C (.ok .next) s') :
    wpAny (model X.prog X.w) X.A (comprehension (.ListComp elt (⟨tg, iter, ifs, 0⟩ :: rest) scope pos) scope X.env pos' (newList []) false (eval iter X.env) use) Qf X.xe s := by
  have cells : ∀ y ∈ scope.names, y.2 = .free → ∃ c, X.env.cells.lookup y.1 = some c := fun y hy e => (ok.free y hy e).elim (fun k => I.ok.has _ (.inl k)) (fun k => I.ok.has _ (.inr k))
  refine wpAny_comprehension_free (use := use) rfl hs (closure_ok cells) ok.kind (fun y hy e => by rw [ok.uniq y hy, e]) (thn (hi.run pins s σ H _ I h) fun xv s1 hx => thn hx fun itv s2 h2 => ?_)
  obtain ⟨it, fp, tn, J, H2, e, I2, T, st2, f2, q⟩ := h2
  subst e
  refine wpAny_newObj_type (newEnv_comp ?_) (by show 0 ≤ sizeLine; decide)
  obtain ⟨D, hD⟩ : ∃ D, s2.heap.objs.size = D := ⟨_, rfl⟩
  rw [hD]
  have dn : H2 D = none := I2.hok.fresh (Nat.le_of_eq hD)
  obtain ⟨W, ⟨m0, w0⟩, turn⟩ := q D dn
  obtain ⟨s3, hs3⟩ : ∃ s3 : Shared, ({ s2 with heap := s2.heap.push { cls := .type "list", data := .seq ([] : List Value).toArray } } : Shared) = s3 := ⟨_, rfl⟩
  rw [hs3]
  have h3 : s3.heap = s2.heap.push { cls := .type "list", data := .seq ([] : List Value).toArray } := by rw [← hs3]
  have I3 : L2.Inv X pins σ (upd H2 D (.lst [])) s3 := by
    rw [← hs3]
    exact I2.laid (t' := s2.toks) (fun b o e => Heap.get?_push_of_some _ e) (Nat.le_of_eq hD) ⟨Nat.zero_le _, [], 0, .nil, by rw [← hD]; exact Heap.get?_push_size _ rfl⟩
  have f3 : ∀ b ∈ fp, FpOk X pins (upd H2 D (.lst [])) b ∧ b < s3.heap.objs.size := fun b hb => by
    obtain ⟨o, eo, _⟩ := T.obj _ _ st2 b hb
    have lt := Heap.lt_size eo
    exact ⟨⟨by rw [upd_ne (by rw [← hD]; exact Nat.ne_of_lt lt)]; exact (f2 b hb).1, (f2 b hb).2⟩, by rw [h3, Heap.size_push]; exact Nat.lt_succ_of_lt lt⟩
  have st3 : tn 0 s3.heap := T.keep _ _ _ st2 fun b _ o e => by rw [h3]; exact Heap.get?_push_of_some _ e
  have I4 := block_start I3 ok hN f3
  have pg := hg s3 (upd H2 D (.lst [])) s3.heap.objs.size (cellsFrom (s3.heap.objs.size + 1) scope.names (cloFrom X.env.cells scope.names [])) fp
  have pt := ht s3 (upd H2 D (.lst [])) s3.heap.objs.size (cellsFrom (s3.heap.objs.size + 1) scope.names (cloFrom X.env.cells scope.names [])) fp
  have pb := hb s3 (upd H2 D (.lst [])) s3.heap.objs.size (cellsFrom (s3.heap.objs.size + 1) scope.names (cloFrom X.env.cells scope.names [])) fp D
  show codeAny _ _ (.compStart (.ListComp elt (⟨tg, iter, ifs, 0⟩ :: rest) scope pos) 0 (.ref it) (.ref D) (compEnvC scope (cellsFrom (s3.heap.objs.size + 1) scope.names (cloFrom X.env.cells scope.names [])) s3.heap.objs.size X.env)) (compPost (model X.prog X.w) X.A X.xe use Qf (.ref D) s3.heap.objs.size) { s3 with heap := pushCells (s3.heap.push { cls := .type "dict", data := .dict #[] }) scope.names }
  have off : ∀ b ∈ fp, (upd H2 D (.lst [])) b = none := fun b hb => (f3 b hb).1.1
  generalize hce : compEnvC scope (cellsFrom (s3.heap.objs.size + 1) scope.names (cloFrom X.env.cells scope.names [])) s3.heap.objs.size X.env = ce at I4 pg pt pb ⊢
  have cL : ce.locals = s3.heap.objs.size := by subst hce; rfl
  generalize hH3 : upd H2 D (.lst []) = H3 at I3 I4 pg pt pb w0 off f3
  generalize hs4 : ({ s3 with heap := pushCells (s3.heap.push { cls := .type "dict", data := .dict #[] }) scope.names } : Shared) = s4 at I4 ⊢
  have st4 : tn 0 s4.heap := T.keep _ _ _ st3 fun b _ o e => by rw [← hs4]; exact pushCells_keeps _ _ _ _ (Heap.get?_push_of_some _ e)
  have f4 : ∀ b ∈ fp, FpOk (X.blk s3 H3 scope ce fp) [] H3 b := fun b hb =>
    ⟨off b hb, (I4.ok.exf b hb).1, I4.ok.exfs b hb, .inl hb, fun x c e => (I4.ok.exf b hb).2 x c e, fun p hp => by cases (show p ∈ ([] : List (Addr × Obj)) ++ [] from hp)⟩
  have loop : codeAny (model X.prog X.w) X.A (.compLoop (.ListComp elt (⟨tg, iter, ifs, 0⟩ :: rest) scope pos) 0 (.ref it) (.ref D) ce) (compPost (model X.prog X.w) X.A X.xe use Qf (.ref D) s3.heap.objs.size) s4 := by
    refine clause_loop (X := X.blk s3 H3 scope ce fp) rfl hc (k := 0) rfl (fun g hg => hz ce g (by simpa using hg)) pg pt pb hv T turn (fun s6 H5 I6 qq => ?_) I4 f4 st4 w0
    have I7 : L2.Inv X pins σ H5 s6 := I3.call' (ch := fp) I6.os I6.base I6.hok I6.bare fun b hb => ⟨(f3 b hb).1.2.2.2.1, (f3 b hb).1.2.1, (f3 b hb).1.2.2.2.2.1, (f3 b hb).1.2.2.2.2.2⟩
    have nC : H5 s3.heap.objs.size = none := by
      have z : H5 ce.locals = none := I6.free
      rwa [cL] at z
    obtain ⟨m, hn, _⟩ := I6.loc
    have hn : s6.heap.Ns ce.locals m := hn
    rw [cL] at hn
    exact fin D s3.heap.objs.size s6 m H5 I7 qq hn (I3.fpOk (Nat.le_refl _) nC)
  exact codeAny_compStart_list loop (T.self X.A 0 _ _ _ st4 loop)
theorem pe_lcN {rest : List Comprehension} {own : List (Str × Nat)} {wi : TI} {bd : Addr → TB} (hc : X.calm = true) (hN : X.N.Nodup) (hi : PI X tg iter wi) (ok : BlkOk X.N X.env.scope scope own) (hv : ∀ i ∈ vs1, i ∈ own.map (·.2)) (hz : ∀ env g, rest[0]? = some g → g.is_async = 0 ∧ ∀ x, foldedSetIterable g.iter env x = pure x)
    (hg : ∀ (s : Shared) (H : Hp) (C : Addr) (cl : List (Str × Addr)) (fp : List Addr), PG (X.blk s H scope (compEnvC scope cl C X.env) fp) tg g) (ht : ∀ (s : Shared) (H : Hp) (C : Addr) (cl : List (Str × Addr)) (fp : List Addr), PTs (X.blk s H scope (compEnvC scope cl C X.env) fp) ifs tt)
    (hb : ∀ (s : Shared) (H : Hp) (C : Addr) (cl : List (Str × Addr)) (fp : List Addr) (D : Addr), PBd (X.blk s H scope (compEnvC scope cl C X.env) fp) elt (⟨tg, iter, ifs, 0⟩ :: rest) scope pos 0 D vs1 (bd D)) (hs : ∀ x, foldedSetIterable iter X.env x = pure x := by intro _; rfl) :
    PE X (.ListComp elt (⟨tg, iter, ifs, 0⟩ :: rest) scope pos) (tLcN wi g tt bd (own.map (·.2))) := by
  refine ⟨fun pins s σ H Q I h => ?_⟩
  rw [eval_ListComp]
  refine lcN_core hc hN I hi ok hv hz hg ht hb hs h fun D C s' m H' I' q hn f => ⟨m, hn, fun h2 sb => ?_⟩
  obtain ⟨f0, f1, f2, f3, f4, f5⟩ := f
  exact ⟨.ref D, H', I'.turned (t' := s'.toks) (fun b o hb e => (sb.2 b hb).trans e) f0 f1 f3 f4 f5, rfl, q⟩
theorem ps_setLcN {i : Nat} {y : Str} {py spos : Pos} {rest : List Comprehension} {own : List (Str × Nat)} {wi : TI} {bd : Addr → TB} (hc : X.calm = true) (hN : X.N.Nodup) (hy : X.N[i]? = some y) (hyl : X.env.scope.names.lookup y = some .local)
    (hsw : swapsWith (.ListComp elt (⟨tg, iter, ifs, 0⟩ :: rest) scope pos) (some (.Name y py)) spos.line X.env = pure true) (hi : PI X tg iter wi) (ok : BlkOk X.N X.env.scope scope own) (hv : ∀ i ∈ vs1, i ∈ own.map (·.2)) (hz : ∀ env g, rest[0]? = some g → g.is_async = 0 ∧ ∀ x, foldedSetIterable g.iter env x = pure x)
    (hg : ∀ (s : Shared) (H : Hp) (C : Addr) (cl : List (Str × Addr)) (fp : List Addr), PG (X.blk s H scope (compEnvC scope cl C X.env) fp) tg g) (ht : ∀ (s : Shared) (H : Hp) (C : Addr) (cl : List (Str × Addr)) (fp : List Addr), PTs (X.blk s H scope (compEnvC scope cl C X.env) fp) ifs tt)
    (hb : ∀ (s : Shared) (H : Hp) (C : Addr) (cl : List (Str × Addr)) (fp : List Addr) (D : Addr), PBd (X.blk s H scope (compEnvC scope cl C X.env) fp) elt (⟨tg, iter, ifs, 0⟩ :: rest) scope pos 0 D vs1 (bd D)) (hs : ∀ x, foldedSetIterable iter X.env x = pure x := by intro _; rfl) :
    PS X (.Assign [.Name y py] (.ListComp elt (⟨tg, iter, ifs, 0⟩ :: rest) scope pos) spos) (tAsg (tLcN wi g tt bd (own.map (·.2))) (gName i)) := by
  refine ⟨fun pins s σ H D I h => ?_⟩
  rw [exec_Assign_Name_used _ _ _ _ hsw]
  refine wpAny_bind (wpAny_standAt (wpAny_bind ?_))
  have h2 : tLcN wi g tt bd (own.map (·.2)) σ H (fun x H1 => gName i x σ H1 D.nx) := h
  refine wpAny_bind (thn (lcN_core (Qf := fun _ s' => SP X pins D .next s') hc hN I hi ok hv hz hg ht hb hs h2 fun L C s' m H' I' q hn f => ?_) fun _ s' hq => wpAny_pure (wpAny_pure hq))
  show wpAny _ _ (assign (.Name y py) X.env (.ref L)) _ _ _
  refine wpAny_assign_Name (store_ok2 (v := V.ref L) I' hN hy (.inl hyl) rfl (fun s2 I2 ⟨a, sb, ha⟩ => ?_) (.inr hyl))
  obtain ⟨f0, f1, f2, f3, f4, f5⟩ := f
  have ne : C ≠ a := ha.elim (fun z => z ▸ f1) fun z e => f4 y a z e.symm
  exact ⟨m, hn.sameBut sb ne, fun h3 sb3 => ⟨_, H', I2.turned (t' := s2.toks) (fun b o hb e => (sb3.2 b hb).trans e) f0 f1 f3 f4 f5, q⟩⟩
end
end Pt
namespace Pt
open PySem PySem.Spec L2
abbrev WIo := En → (List O → En → Prop) → Prop
abbrev BD := En → List O → (List O → En → Prop) → Prop
def bE (w : WE) : BD := fun ρ acc K => acc.length + 1 ≤ szMax ∧ w ρ fun y ρ1 => K (acc ++ [y]) ρ1
def lcM (g : WG) (wt : WT) (b : BD) (own : List Nat) (K : List O → En → Prop) : List O → En → List O → Prop
  | [], ρ, acc => K acc ρ
  | d :: r, ρ, acc => g d (wipeO ρ own) fun ρ1 => wt ρ1 fun q ρ2 => br q (b ρ2 acc fun acc' ρ3 => lcM g wt b own K r ρ3 acc') (lcM g wt b own K r ρ2 acc)
def bC (wi : WIo) (g : WG) (wt : WT) (own : List Nat) (b : BD) : BD := fun ρ acc K => wi ρ fun items ρ1 => lcM g wt b own (fun acc' ρ2 => K acc' (wipeO ρ2 own)) items ρ1 acc
def wLcN (wi : WIo) (g : WG) (wt : WT) (own : List Nat) (b : BD) : WE := fun ρ R => wi ρ fun items ρ1 => lcM g wt b own (fun out ρ2 => R (.ol out) (wipeO ρ2 own)) items ρ1 []
section
variable {K : PySem.W.Frag} {Z : Ent} {g : WG} {wt : WT} {b : BD} {vs vs1 : List Nat} {D : Addr}
def tB (K : PySem.W.Frag) (Z : Ent) (vs : List Nat) (b : BD) (D : Addr) : TB := fun σ H Nx => ∃ B ρ fp acc Kc, Ok K Z B H (some (.ref D) :: σ) (.ol acc :: ρ) fp ∧ b ρ acc Kc ∧ ∀ acc' ρ', Kc acc' ρ' → ∀ H' B' fp', Nxt B H fp B' H' fp' → Ok K Z B' H' (some (.ref D) :: L2.wipe σ vs) (.ol acc' :: wipeO ρ' vs) fp' → Nx H'
def ItDo (K : PySem.W.Frag) (J : It) (B : Hp) (items : List O) : Prop := ∀ B' H', Sub B B' → Sub B' H' → ∀ i, (i < items.length → J.go i H' ∧ ∀ x H'', J.yld i H' x H'' → ∃ d B'', items[i]? = some d ∧ Out K B' H' x d B'' H'') ∧ (i = items.length → J.stop i H')
def ItNo (K : PySem.W.Frag) (J : It) (B H : Hp) (fp : List Addr) (items : List O) : Prop := ∀ B' H' g, Nxt B H fp B' H' g → Sub B' H' → ∀ i, (i < items.length → J.go i H' ∧ ∀ x H'', J.yld i H' x H'' → ∃ d B'', items[i]? = some d ∧ Out K B' H' x d B'' H'') ∧ (i = items.length → J.stop i H')
theorem ItDo.n {J : It} {B H : Hp} {fp : List Addr} {items : List O} (h : ItDo K J B items) : ItNo K J B H fp items := fun B' H' g n s => h B' H' n.bsub s
theorem ItD.o {J : It} {B : Hp} {items : List PyData} (h : ItD K J B items) : ItDo K J B (items.map O.fz) := fun B' H' s1 s2 i => by
  obtain ⟨a, b⟩ := h B' H' s1 s2 i
  rw [List.length_map]
  refine ⟨fun hi => ⟨(a hi).1, fun x H2 y => ?_⟩, b⟩
  obtain ⟨d, B2, e, o⟩ := (a hi).2 x H2 y
  exact ⟨_, B2, by rw [List.getElem?_map, e]; rfl, o⟩
theorem ItN.o {J : It} {B H : Hp} {fp : List Addr} {items : List PyData} (h : ItN K J B H fp items) : ItNo K J B H fp (items.map O.fz) := fun B' H' g n s2 i => by
  obtain ⟨a, b⟩ := h B' H' g n s2 i
  rw [List.length_map]
  refine ⟨fun hi => ⟨(a hi).1, fun x H2 y => ?_⟩, b⟩
  obtain ⟨d, B2, e, o⟩ := (a hi).2 x H2 y
  exact ⟨_, B2, by rw [List.getElem?_map, e]; rfl, o⟩
def tIo (K : PySem.W.Frag) (Z : Ent) (wi : WIo) : TI := fun σ H R => ∃ B ρ fp Rd, Ok K Z B H σ ρ fp ∧ wi ρ Rd ∧ ∀ items ρ', Rd items ρ' → ∀ J H' B' fp', Nxt B H fp B' H' fp' → Ok K Z B' H' σ ρ' fp' → ItNo K J B' H' fp' items → R J H'
def tID (K : PySem.W.Frag) (Z : Ent) (wi : WIo) : TI := fun σ H R => ∃ B ρ fp Rd, Ok K Z B H σ ρ fp ∧ wi ρ Rd ∧ ∀ items ρ', Rd items ρ' → ∀ J H' B' fp', Nxt B H fp B' H' fp' → Ok K Z B' H' σ ρ' fp' → ItDo K J B' items → R J H'
theorem wipeTw (h : ∀ i ∈ vs1, i ∈ vs) (σ : L2.St) : L2.wipe (L2.wipe σ vs1) vs = L2.wipe σ vs := List.ext_getElem? fun k => by
  rw [wipe_get, wipe_get, wipe_get]
  cases q : vs.contains k with
  | true =>
    rw [if_pos rfl, if_pos rfl]
    split
    · cases (σ[k]? : Option (Option V)) <;> rfl
    · rfl
  | false =>
    have : vs1.contains k = false := by
      cases q1 : vs1.contains k with
      | false => rfl
      | true =>
        have := h k (by simpa using q1)
        rw [show vs.contains k = true from by simpa using this] at q
        cases q
    simp only [this, Bool.false_eq_true, if_false]
theorem wipeOT (h : ∀ i ∈ vs1, i ∈ vs) (ρ : En) : wipeO (wipeO ρ vs1) vs = wipeO ρ vs := List.ext_getElem? fun k => by
  rw [wipeO_get, wipeO_get, wipeO_get]
  cases q : vs.contains k with
  | true =>
    rw [if_pos rfl, if_pos rfl]
    split
    · cases (ρ[k]? : Option O) <;> rfl
    · rfl
  | false =>
    have : vs1.contains k = false := by
      cases q1 : vs1.contains k with
      | false => rfl
      | true =>
        have := h k (by simpa using q1)
        rw [show vs.contains k = true from by simpa using this] at q
        cases q
    simp only [this, Bool.false_eq_true, if_false]
theorem bE_ok {w : WE} {σ : L2.St} {H : Hp} {Nx : Hp → Prop} (h : tB K Z [] (bE w) D σ H Nx) : bdE (tE K Z w) D σ H Nx := by
  obtain ⟨B, ρ, fp, acc, Kc, k, ⟨hz, h⟩, q⟩ := h
  obtain ⟨fD, fE, rfl, _, kE, fr⟩ := Ok.frame (τ := [some (.ref D)]) (xs := [.ol acc]) k rfl
  refine ⟨B, ρ, fE, _, kE, h, fun y ρ6 h6 v H6 B6 f6 n6 k6 => ?_⟩
  obtain ⟨k7, n7⟩ := fr n6 k6
  obtain ⟨us, f8, hD, hl, k8, n8⟩ := Ok.push k7
  exact ⟨us, hD, szLt (by omega), q _ _ h6 _ _ f8 (n7.trans n8) k8⟩
theorem turns_ok (hv : ∀ i ∈ vs1, i ∈ vs) {J : It} {B1 H0 H1 : Hp} {f0 f1 : List Addr} {σ : L2.St} {ρ1 : En} {items : List O} {acc0 : List O} {Kc : List O → En → Prop} {Nx : Hp → Prop} (n0 : Nxt B1 H0 f0 B1 H1 f1)
    (hJ : ItNo K J B1 H0 f0 items) (k0 : Ok K Z B1 H1 (some (.ref D) :: L2.wipe σ vs) (.ol acc0 :: wipeO ρ1 vs) f1) (h0 : lcM g wt b vs Kc items ρ1 acc0)
    (q : ∀ acc' ρ', Kc acc' ρ' → ∀ H' B' fp', Nxt B1 H0 f0 B' H' fp' → Ok K Z B' H' (some (.ref D) :: L2.wipe σ vs) (.ol acc' :: wipeO ρ' vs) fp' → Nx H') :
    ∃ W : Nat → Nat → Hp → Prop, (∃ m, W 0 m H1) ∧ Turns J (tG K Z vs g) (tT K Z wt) (tB K Z vs1 b D) vs σ W Nx := by
  refine ⟨fun i m H' => i + m = items.length ∧ ∃ B' ρ' fp' acc, Nxt B1 H0 f0 B' H' fp' ∧ Ok K Z B' H' (some (.ref D) :: L2.wipe σ vs) (.ol acc :: wipeO ρ' vs) fp' ∧ lcM g wt b vs Kc (items.drop i) ρ' acc,
    ⟨items.length, Nat.zero_add _, B1, ρ1, f1, acc0, n0, k0, h0⟩, fun i m H2 hW => ?_⟩
  obtain ⟨em, B2, ρ2, f2, acc, n2, k2, h2⟩ := hW
  obtain ⟨ja, jb⟩ := hJ B2 H2 _ n2 k2.sub i
  by_cases hi : i < items.length
  · obtain ⟨hgo, hy⟩ := ja hi
    refine .inr ⟨hgo, fun H' => ∃ B' ρ' fp' acc, Nxt B1 H0 f0 B' H' fp' ∧ Ok K Z B' H' (some (.ref D) :: L2.wipe σ vs) (.ol acc :: wipeO ρ' vs) fp' ∧ lcM g wt b vs Kc (items.drop (i + 1)) ρ' acc, fun H' hN => ⟨m - 1, by omega, by omega, hN⟩, fun x H3 hyl => ?_⟩
    obtain ⟨d, B3, hd, o3⟩ := hy x H3 hyl
    rw [List.drop_eq_getElem_cons hi] at h2
    have ed : items[i] = d := by
      rw [List.getElem?_eq_getElem hi] at hd
      exact Option.some.inj hd
    rw [ed] at h2
    obtain ⟨fD, fE, rfl, _, kE, fr⟩ := Ok.frame (τ := [some (.ref D)]) (xs := [.ol acc]) k2 rfl
    obtain ⟨g3, k3, n3⟩ := o3.ok kE
    have ww : L2.wipe (L2.wipe σ vs) vs = L2.wipe σ vs := wipeTw (fun _ h => h) σ
    refine ⟨B3, _, g3, _, _, k3, h2, fun ρ4 h4 σ4 H4 B4 f4 n4 k4 ag => ⟨ag.wipe.trans ww, ?_⟩⟩
    have e4 : L2.wipe σ4 vs = L2.wipe σ vs := ag.wipe.trans ww
    refine ⟨B4, ρ4, f4, _, k4, h4, fun c ρ5 h5 H5 B5 f5 n5 k5 => ?_⟩
    obtain ⟨k7, n7⟩ := fr ((n3.trans n4).trans n5) k5
    replace k7 : Ok K Z B5 H5 (some (.ref D) :: σ4) (.ol acc :: ρ5) (fD ++ f5) := k7
    cases c with
    | true =>
      rw [if_pos rfl]
      refine ⟨B5, ρ5, _, acc, _, k7, h5, fun acc' ρ6 h6 H6 B6 f6 n6 k6 => ?_⟩
      obtain ⟨f9, k9, hs9⟩ := Ok.wipe1 (own := vs) k6
      rw [wipeTw hv, wipeOT hv, e4] at k9
      exact ⟨B6, ρ6, f9, acc', ((n2.trans n7).trans n6).less hs9, k9, h6⟩
    | false =>
      rw [if_neg Bool.false_ne_true]
      obtain ⟨f9, k9, hs9⟩ := Ok.wipe1 (own := vs) k7
      rw [e4] at k9
      exact ⟨B5, ρ5, f9, acc, (n2.trans n7).less hs9, k9, h5⟩
  · refine .inl ⟨jb (by omega), ?_⟩
    rw [List.drop_eq_nil_of_le (by omega)] at h2
    exact q acc ρ2 h2 H2 B2 f2 n2 k2
theorem bC_ok (hv : ∀ i ∈ vs1, i ∈ vs) {wi : WIo} {σ : L2.St} {H : Hp} {Nx : Hp → Prop} (h : tB K Z vs (bC wi g wt vs b) D σ H Nx) : bdC (tID K Z wi) (tG K Z vs g) (tT K Z wt) vs (tB K Z vs1 b D) σ H Nx := by
  obtain ⟨B, ρ, fp, acc, Kc, k, h, q⟩ := h
  obtain ⟨fD, fE, rfl, _, kE, fr⟩ := Ok.frame (τ := [some (.ref D)]) (xs := [.ol acc]) k rfl
  refine ⟨B, ρ, fE, _, kE, h, fun items ρ1 h1 J H1 B1 f1 n1 k1 hJ => ?_⟩
  obtain ⟨k7, n7⟩ := fr n1 k1
  replace k7 : Ok K Z B1 H1 (some (.ref D) :: σ) (.ol acc :: ρ1) (fD ++ f1) := k7
  obtain ⟨f9, k9, hs9⟩ := Ok.wipe1 (own := vs) k7
  refine turns_ok hv (Nxt.self hs9) (ItDo.n hJ) k9 h1 fun acc' ρ' h2 H' B' fp' n k2 => ?_
  exact q acc' _ h2 H' B' fp' (n7.trans n) (by rw [wipeOT (fun _ h => h)]; exact k2)
theorem lcN_ok (hv : ∀ i ∈ vs1, i ∈ vs) {wi : WIo} {σ : L2.St} {H : Hp} {Q : VK} (h : tE K Z (wLcN wi g wt vs b) σ H Q) : tLcN (tIo K Z wi) (tG K Z vs g) (tT K Z wt) (tB K Z vs1 b) vs σ H Q := by
  obtain ⟨B, ρ, fp, R, k, h, q⟩ := h
  refine ⟨B, ρ, fp, _, k, h, fun items ρ1 h1 J H1 B1 f1 n1 k1 hJ D hD => ?_⟩
  obtain ⟨f2, kw, hs2⟩ := k1.wipe vs
  have o0 : Out K B1 H1 (.ref D) (.ol (([] : List PyData).map O.fz)) B1 (upd H1 D (.lst [])) := Out.lstO .nil k1.sub hD
  obtain ⟨g0, k0, n0⟩ := o0.ok kw
  refine turns_ok hv ((Nxt.self hs2).trans n0) hJ k0 h1 fun acc' ρ' h2 H' B' fp' n k2 => ?_
  obtain ⟨a1, a2, rfl, a3, a4, _⟩ := Ok.frame (τ := [some (.ref D)]) (xs := [.ol acc']) k2 rfl
  have a5 := a4.unwipe
  refine q _ _ h2 (.ref D) H' B' (a1 ++ a2) (n1.trans n) ⟨k2.sub, fun j z => ?_, ?_, k2.nd, k2.out, k2.nx⟩
  · cases j with
    | zero => cases z
    | succ j => exact a5.un j z
  · rw [valsOf_cons]
    exact a3.append a5.rs
end
theorem PBd.to {X : Cx} {elt : Expr} {gens : List Comprehension} {scope : Scope} {pos : Pos} {k : Nat} {D : Addr} {vs : List Nat} {bd bd' : TB} (h : PBd X elt gens scope pos k D vs bd') (i : ∀ σ H Nx, bd σ H Nx → bd' σ H Nx) : PBd X elt gens scope pos k D vs bd := ⟨fun pins s σ H Nx I q => h.run pins s σ H Nx I (i σ H Nx q)⟩
section
variable {X : Cx} {Z : Ent} {tg : Expr} {w w2 : WE} {p pos : Pos}
end
section
variable {X : Cx} {Z : Ent} {elt tg iter tg1 iter1 tg2 iter2 : Expr} {ifs ifs1 ifs2 : List Expr} {scope : Scope} {pos : Pos} {ow : List (Str × Nat)} {vs1 vs2 : List Nat} {wi wi1 wi2 : WIo} {g g1 g2 : WG} {wt wt1 wt2 : WT} {w : WE} {ps : List Nat}
theorem b2 (hc : X.calm = true) (hx : X.xe = F0) (D : Addr) (hf1 : ∀ x, foldedSetIterable iter1 X.env x = pure x)
    (hi1 : PI X tg1 iter1 (tID X.K Z wi1)) (hg1 : PG X tg1 (tG X.K Z vs1 g1)) (ht1 : PTs X ifs1 (tT X.K Z wt1)) (he : PE X elt (tE X.K Z w)) :
    PBd X elt [⟨tg, iter, ifs, 0⟩, ⟨tg1, iter1, ifs1, 0⟩] scope pos 0 D vs1 (tB X.K Z vs1 (bC wi1 g1 wt1 vs1 (bE w)) D) := by
  have last : PBd X elt [⟨tg, iter, ifs, 0⟩, ⟨tg1, iter1, ifs1, 0⟩] scope pos 1 D [] (tB X.K Z [] (bE w) D) := (bd_last hx rfl he).to fun σ H Nx q => bE_ok q
  refine (bd_more (vs1 := []) hx hc (k := 0) rfl (fun g hg => by cases hg) hi1 hg1 ht1 last (fun i hi => by cases hi)).to fun σ H Nx q => ?_
  exact bC_ok ((fun i hi => by cases hi)) q
theorem b3 (hc : X.calm = true) (hx : X.xe = F0) (D : Addr) (hv : ∀ i ∈ vs2, i ∈ vs1) (hf2 : ∀ x, foldedSetIterable iter2 X.env x = pure x)
    (hi1 : PI X tg1 iter1 (tID X.K Z wi1)) (hg1 : PG X tg1 (tG X.K Z vs1 g1)) (ht1 : PTs X ifs1 (tT X.K Z wt1)) (hi2 : PI X tg2 iter2 (tID X.K Z wi2)) (hg2 : PG X tg2 (tG X.K Z vs2 g2)) (ht2 : PTs X ifs2 (tT X.K Z wt2)) (he : PE X elt (tE X.K Z w)) :
    PBd X elt [⟨tg, iter, ifs, 0⟩, ⟨tg1, iter1, ifs1, 0⟩, ⟨tg2, iter2, ifs2, 0⟩] scope pos 0 D vs1 (tB X.K Z vs1 (bC wi1 g1 wt1 vs1 (bC wi2 g2 wt2 vs2 (bE w))) D) := by
  have last : PBd X elt [⟨tg, iter, ifs, 0⟩, ⟨tg1, iter1, ifs1, 0⟩, ⟨tg2, iter2, ifs2, 0⟩] scope pos 2 D [] (tB X.K Z [] (bE w) D) := (bd_last hx rfl he).to fun σ H Nx q => bE_ok q
  have mid : PBd X elt [⟨tg, iter, ifs, 0⟩, ⟨tg1, iter1, ifs1, 0⟩, ⟨tg2, iter2, ifs2, 0⟩] scope pos 1 D vs2 (tB X.K Z vs2 (bC wi2 g2 wt2 vs2 (bE w)) D) :=
    (bd_more (vs1 := []) hx hc (k := 1) rfl (fun g hg => by cases hg) hi2 hg2 ht2 last (fun i hi => by cases hi)).to fun σ H Nx q => bC_ok ((fun i hi => by cases hi)) q
  exact (bd_more hx hc (k := 0) rfl (fun g hg => by cases hg; exact ⟨rfl, hf2⟩) hi1 hg1 ht1 mid hv).to fun σ H Nx q => bC_ok hv q
theorem s_setLc2 {U : WE → WE} {i : Nat} {y : Str} {py spos : Pos} (hc : X.calm = true) (up : Up X.K Z U) (hN : X.N.Nodup) (hy : X.N[i]? = some y) (hyl : X.env.scope.names.lookup y = some .local) (hp : ps.contains i = false) (hsw : swapsWith (.ListComp elt [⟨tg, iter, ifs, 0⟩, ⟨tg1, iter1, ifs1, 0⟩] scope pos) (some (.Name y py)) spos.line X.env = pure true)
    (hi : PI X tg iter (tIo X.K Z wi)) (ok : BlkOk X.N X.env.scope scope ow) (hv : ∀ i ∈ vs1, i ∈ ow.map (·.2)) (hg : ∀ (s : Shared) (H : Hp) (C : Addr) (cl : List (Str × Addr)) (fp : List Addr), PG (X.blk s H scope (compEnvC scope cl C X.env) fp) tg (tG X.K Z (ow.map (·.2)) g))
    (ht : ∀ (s : Shared) (H : Hp) (C : Addr) (cl : List (Str × Addr)) (fp : List Addr), PTs (X.blk s H scope (compEnvC scope cl C X.env) fp) ifs (tT X.K Z wt)) (hi1 : ∀ (s : Shared) (H : Hp) (C : Addr) (cl : List (Str × Addr)) (fp : List Addr), PI (X.blk s H scope (compEnvC scope cl C X.env) fp) tg1 iter1 (tID X.K Z wi1))
    (hg1 : ∀ (s : Shared) (H : Hp) (C : Addr) (cl : List (Str × Addr)) (fp : List Addr), PG (X.blk s H scope (compEnvC scope cl C X.env) fp) tg1 (tG X.K Z vs1 g1)) (ht1 : ∀ (s : Shared) (H : Hp) (C : Addr) (cl : List (Str × Addr)) (fp : List Addr), PTs (X.blk s H scope (compEnvC scope cl C X.env) fp) ifs1 (tT X.K Z wt1))
    (he : ∀ (s : Shared) (H : Hp) (C : Addr) (cl : List (Str × Addr)) (fp : List Addr), PE (X.blk s H scope (compEnvC scope cl C X.env) fp) elt (tE X.K Z w)) (hs : ∀ x, foldedSetIterable iter X.env x = pure x := by intro _; rfl) (hf1 : ∀ env x, foldedSetIterable iter1 env x = pure x := by intro _ _; rfl) :
    PS X (.Assign [.Name y py] (.ListComp elt [⟨tg, iter, ifs, 0⟩, ⟨tg1, iter1, ifs1, 0⟩] scope pos) spos) (tS X.K Z ps (sStore i (U (wLcN wi g wt (ow.map (·.2)) (bC wi1 g1 wt1 vs1 (bE w)))))) :=
  ps_to (ps_setLcN hc hN hy hyl hsw hi ok hv (fun env c h => by cases h; exact ⟨rfl, hf1 env⟩) hg ht (fun s H C cl fp D => b2 (X := X.blk s H scope (compEnvC scope cl C X.env) fp) hc rfl D (hf1 _) (hi1 s H C cl fp) (hg1 s H C cl fp) (ht1 s H C cl fp) (he s H C cl fp)) hs) fun D σ H q => lcN_ok hv (up.ok _ _ _ _ (sStore_ok hp q))
end
end Pt
namespace Pt
open PySem PySem.Spec L2
open PyProof.Rows (AllBare)
def spF (K : PySem.W.Frag) (fld : Str) : Sp := fun vs H Q _ => ∃ (a C : Addr) (y : V), vs = [.ref a, y] ∧ OexC K C ∧ PySem.W.findIn K (.ref C) fld = some none ∧ H a = some (exo a C none) ∧
  ∀ dx, H dx = none → dx ≠ a → Q .non (upd (upd H dx (exd dx [(fld, y)])) a (exo a C (some dx)))
section
variable {P : Program} {w : World} {K : PySem.W.Frag} {mg : Str → Option Value} {base : Heap}
end
section
variable {X : Cx} {x fld : Str} {e : Expr} {ta : TA} {p pos : Pos} {C fI : Addr} {k : Nat} {fd : FuncData} {ps : List Str}
structure RaisF (K : PySem.W.Frag) (mg : Str → Option Value) (cn fld : Str) (k : Nat) : Prop where
  ex : ∃ (C fI : Addr) (fd : FuncData) (ps : List Str), mg cn = some (.ref C) ∧ clsA K cn C ∧ OexC K C ∧ PySem.W.findIn K (.ref C) "__init__" = some (some (.ref fI)) ∧ PySem.W.typeIn K (.ref fI) = some (.type "function") ∧ Binds K fd ps [] ∧ PySem.W.findIn K (.ref C) fld = some none ∧
    ∀ (P : Program) (w : World) (base : Heap), FnG P w K mg base (L2N.CX P w) k fI fd ps (spF K fld)
end
end Pt
namespace Pt
open PySem PySem.Spec L2
def tupM (rs : List (List PyData)) : PyData := mkL (rs.map fun _ => true) (rs.map PyData.tuple)
theorem unm_tn : ∀ rs : List (List PyData), unm (rs.map O.tn) = some (rs.map (fun _ => true), rs.map PyData.tuple)
  | [] => rfl
  | es :: rs => by
    show (unm (rs.map O.tn)).map (fun q => (true :: q.1, PyData.tuple es :: q.2)) = _
    rw [unm_tn rs]
    rfl
def asM (d : O) (k : List O → Prop) : Prop := (∃ ds, d = .fz (.list ds) ∧ k (ds.map O.fz)) ∨ ∃ rs, d = .fz (tupM rs) ∧ k (rs.map O.tn)
def wiM (w : WE) : WIo := fun ρ R => wFz w ρ fun d ρ1 => asM d fun items => R items ρ1
def toM (d : O) (k : O → Prop) : Prop := ∃ rs : List (List PyData), d = .ol (rs.map O.tn) ∧ k (.fz (tupM rs))
def wFzM (w : WE) : WE := fun ρ R => w ρ fun d ρ1 => toM d fun d' => R d' ρ1
def oLst0 : List O → (O → Prop) → Prop := fun xs R => xs = [] ∧ R (.ol [])
theorem rd_lst0 {K : PySem.W.Frag} : Rd K (fun xs H Q => xs.length ≤ sizeLine ∧ ∀ p, H p = none → Q (.ref p) (upd H p (.lst xs))) oLst0 := fun B H vs xs f R Q s rr h q => by
  obtain ⟨rfl, h⟩ := h
  cases rr
  refine ⟨by rw [sizeLine_eq]; simp, fun p hp => q _ h _ B _ ?_⟩
  exact ⟨[p], Nxt.alloc hp, .ol (fp := []) upd_same .nil, List.nodup_cons.mpr ⟨List.not_mem_nil, List.nodup_nil⟩, fun a ha => by rw [List.mem_singleton.mp ha]; exact s.free hp, s.updR (s.free hp)⟩
theorem e_list0 {X : Cx} {Z : Ent} {es : List Expr} {pos : Pos} {as : List AD} (h : PA X es (tADs X.K Z as)) : PE X (.List es pos) (tE X.K Z (wRd as oLst0)) := pe_to (pe_lst h) fun σ H Q q => rd_glue rd_lst0 q
def tupOf : PyData → List PyData
  | .tuple es => es
  | _ => []
section
variable {K : PySem.W.Frag} {Z : Ent} {B H : Hp} {v : V} {σ : L2.St} {ρ : En} {fp : List Addr}
theorem ItDo.listM {a : Addr} {vs : List V} {rs : List (List PyData)} (h : SqL K B a vs) (n : NDs K B (rs.map fun _ => true) vs) (r : RFs K B vs (rs.map PyData.tuple)) : ItDo K (Itl K a) B (rs.map O.tn) := fun B' H' s1 s2 i => by
  have hb : SqL K H' a vs := by
    rcases h with (h | ⟨o, h⟩) | h
    · exact .inl (.inl (s2 _ _ (s1 _ _ h)))
    · exact .inl (.inr ⟨o, s2 _ _ (s1 _ _ h)⟩)
    · exact .inr h
  have hl := r.length
  rw [List.length_map] at hl
  rw [List.length_map]
  refine ⟨fun hi => ?_, fun hi => ⟨vs, hb, by omega⟩⟩
  obtain ⟨v, hv, rv⟩ := r.get (i := i) (d := .tuple rs[i]) (by rw [List.getElem?_map, List.getElem?_eq_getElem hi]; rfl)
  refine ⟨⟨vs, v, hb, hv⟩, fun x H2 hy => ?_⟩
  obtain ⟨rfl, f⟩ := hy
  have e := f vs hb
  rw [hv] at e
  have e' := Option.some.inj e
  subst e'
  obtain ⟨b, e1, nd⟩ := n i (by rw [List.getElem?_map, List.getElem?_eq_getElem hi]; rfl)
  rw [hv] at e1
  have e2 := Option.some.inj e1
  subst e2
  cases rv with
  | tup e r2 => exact ⟨.tn rs[i], B', by rw [List.getElem?_map, List.getElem?_eq_getElem hi]; rfl, [], Nxt.refl _ _ _, .tn (s1.sqT e) (nd.mono s1) (r2.mono s1), List.nodup_nil, fun _ h => (List.not_mem_nil h).elim, s2⟩
theorem Ok.frM {rs : List (List PyData)} (k : Ok K Z B H (some v :: σ) (.ol (rs.map O.tn) :: ρ) fp) : ∃ B' f2, Nxt B H fp B' H f2 ∧ Ok K Z B' H (some v :: σ) (.fz (tupM rs) :: ρ) f2 := by
  obtain ⟨f1, f2, rfl, r, k2, fr⟩ := Ok.frame (τ := [some v]) (xs := [.ol (rs.map O.tn)]) k rfl
  obtain ⟨n1, n2, n3⟩ := List.nodup_append.mp k.nd
  rw [show valsOf [some v] = [v] from rfl] at r
  cases r with
  | @cons _ _ _ _ g1 g2 r t =>
    cases t
    rw [List.append_nil] at *
    have n : Nxt B H (g1 ++ f2) (addB B H g1) H f2 := Nxt.addB k.sub r.liveP (fun a ha => List.mem_append_left _ ha) (fun a ha => List.mem_append_right _ ha)
    refine ⟨addB B H g1, f2, n, ?_⟩
    have k3 : Ok K Z (addB B H g1) H σ ρ f2 := ⟨fun a o e => ?_, k2.un, k2.rs.next (k.sub.addB g1) fun _ _ _ e _ => e, k2.nd, fun a ha => ?_, k.nx.trans n⟩
    · refine k3.addF ?_
      cases r with
      | ol e rr =>
        obtain ⟨rf, nd⟩ := unm_ok rr (unm_tn rs)
        refine .lm ?_ (nd.mono (k.sub.addB _)) (rf.mono (k.sub.addB _))
        unfold addB
        rw [if_pos (List.mem_cons_self ..)]
        exact e
    · unfold addB at e
      split at e
      · exact e
      · exact k.sub a o e
    · unfold addB
      rw [if_neg fun h => n3 a h a ha rfl]
      exact k2.out a ha
theorem fm_ok {w : WE} {Q : VK} (h : tE K Z (wFzM w) σ H Q) : tE K Z w σ H Q := by
  obtain ⟨B, ρ, fp, R, k, h, q⟩ := h
  refine ⟨B, ρ, fp, _, k, h, fun d ρ' h1 v H' B' fp' n k1 => ?_⟩
  obtain ⟨rs, rfl, h2⟩ := h1
  obtain ⟨B2, f2, n2, k2⟩ := k1.frM
  exact q _ ρ' h2 v H' B2 f2 (n.trans n2) k2
theorem up_fm : Up K Z wFzM := ⟨fun _ _ _ _ h => fm_ok h⟩
end
section
variable {X : Cx} {Z : Ent} {tg e : Expr} {w : WE}
theorem m_seq {d : O} {H : Hp} {σ : L2.St} {ρ : En} {B : Hp} {fp : List Addr} {v : V} {k : List O → Prop} (h : asM d k) (k1 : Ok X.K Z B H (some v :: σ) (d :: ρ) fp) : ∃ a vs items f2, v = .ref a ∧ SqL X.K H a vs ∧ k items ∧ ItDo X.K (Itl X.K a) B items ∧ Ok X.K Z B H σ ρ f2 ∧ ∀ b ∈ f2, b ∈ fp := by
  rcases h with ⟨ds, rfl, h⟩ | ⟨rs, rfl, h⟩
  · have r := k1.headF
    obtain ⟨f2, k2, hs⟩ := k1.drop1
    cases r with
    | @lst a vs _ hB rr => exact ⟨a, vs, _, f2, rfl, SqL.of (k1.sub _ _ hB), h, ItD.o (ItD.list (.inl (.inl hB)) rr), k2, hs⟩
  · have r := k1.headF
    obtain ⟨f2, k2, hs⟩ := k1.drop1
    obtain ⟨a, vs, rfl, hB, n, rr⟩ := RF.unmark r
    exact ⟨a, vs, _, f2, rfl, SqL.of (k1.sub _ _ hB), h, ItDo.listM (.inl (.inl hB)) n rr, k2, hs⟩
theorem iD_M (h : PE X e (tE X.K Z w)) : PI X tg e (tID X.K Z (wiM w)) := pi_to (pi_seq (e_fz h)) fun σ H R q => by
  obtain ⟨B, ρ, fp, Rd, k, h, q⟩ := q
  refine ⟨B, ρ, fp, _, k, h, fun d ρ' h1 v H' B' fp' n k1 => ?_⟩
  obtain ⟨a, vs, items, f2, rfl, h3, h4, h5, k2, hs⟩ := m_seq h1 k1
  exact ⟨a, vs, rfl, .inl ⟨h3, q _ ρ' h4 _ H' B' f2 (n.less hs) k2 h5⟩⟩
theorem i_M (h : PE X e (tE X.K Z w)) : PI X tg e (tIo X.K Z (wiM w)) := pi_to (pi_seq (e_fz h)) fun σ H R q => by
  obtain ⟨B, ρ, fp, Rd, k, h, q⟩ := q
  refine ⟨B, ρ, fp, _, k, h, fun d ρ' h1 v H' B' fp' n k1 => ?_⟩
  obtain ⟨a, vs, items, f2, rfl, h3, h4, h5, k2, hs⟩ := m_seq h1 k1
  exact ⟨a, vs, rfl, .inl ⟨h3, q _ ρ' h4 _ H' B' f2 (n.less hs) k2 h5.n⟩⟩
end
end Pt
set_option maxHeartbeats 4000000
namespace Pt
open PySem PySem.Spec L2 PyProof.Rows
section
variable {P : Program} {w : World} {K : PySem.W.Frag}
theorem key_ofN {X : Cx} {pins : List (Addr × Obj)} {σ : L2.St} {H : Hp} {s : Shared} {b : Addr} {ks : List Key} (I : L2.Inv X pins σ H s) (e : SqT X.K H b (ks.map kV)) : (tupleKind (mixKind X.prog X.w)).is s.heap ks b := by
  obtain ⟨its, rv, ⟨o, h1, h2, n, h3⟩, _⟩ := I.tuple e
  exact ⟨o, its.toArray, n, h1, h2, h3, by simpa using items_are rv⟩
end
def keyL : List PyData → Option (List Key)
  | [] => some []
  | .int i :: r => (keyL r).map (Sum.inl i :: ·)
  | .str x :: r => (keyL r).map (Sum.inr x :: ·)
  | _ :: _ => none
def tupO : O → Option (List PyData)
  | .fz (.tuple ds) => some ds
  | .tn ds => some ds
  | .ot xs => unf xs
  | _ => none
theorem tupO_sq {K : PySem.W.Frag} {B H : Hp} {x : O} {v : V} {f : List Addr} {ds : List PyData} (s : Sub B H) (r : RO K B H v x f) (h : tupO x = some ds) : ∃ b vs, v = .ref b ∧ SqT K H b vs ∧ RFs K B vs ds := by
  cases r with
  | fz r =>
    cases r with
    | tup e r =>
      cases h
      exact ⟨_, _, rfl, s.sqT e, r⟩
    | _ => cases h
  | tn e _ r =>
    cases h
    exact ⟨_, _, rfl, s.sqT e, r⟩
  | ot e r =>
    rw [unf_iff h] at r
    exact ⟨_, _, rfl, SqT.of (s _ _ e), (ROs.unfz r).1⟩
  | _ => cases h
section
variable {X : Cx} {Z : Ent} {sts : List Stmt} {own ps : List Nat} {pos : Pos} {g : WG} {s : WS}
def forNo (g : WG) (s : WS) (E : DE) : List O → En → Prop
  | [], ρ => E.nx ρ
  | d :: r, ρ => g d ρ fun ρ1 => s { E with nx := forNo g s E r, ct := forNo g s E r, bk := E.nx } ρ1
def sForO (wi : WIo) (g : WG) (s : WS) : WS := fun E ρ => wi ρ fun items ρ1 => forNo g s E items ρ1
theorem s_forO {tg iter : Expr} {wi : WIo} (hp : PassesOwn (model X.prog X.w) X.A X.env X.xe) (hc : X.calm = true) (hi : PI X tg iter (tIo X.K Z wi)) (hg : PG X tg (tG X.K Z own g)) (ho : (ps.any fun k => own.contains k) = false) (hb : PSs X sts (tS X.K Z ps s)) (hs : ∀ x, foldedSetIterable iter X.env x = pure x := by intro _; rfl) :
    PS X (.For tg iter sts [] pos) (tS X.K Z ps (sForO wi g s)) := ps_to (ps_for hp hc hi hg hb hs) fun D σ H q => by
  obtain ⟨B, ρ, fp, E, k, q, p⟩ := q
  refine ⟨B, ρ, fp, _, k, q, fun items ρ1 h1 J H1 B1 f1 n1 k1 hJ => ?_⟩
  have p1 := p.step n1 (Pin.refl ps σ)
  refine ⟨fun i m σ' H' => i + m = items.length ∧ ∃ B' ρ' fp', Nxt B1 H1 f1 B' H' fp' ∧ Ok X.K Z B' H' σ' ρ' fp' ∧ Pin ps σ σ' ∧ forNo g s E (items.drop i) ρ', ⟨items.length, Nat.zero_add _, B1, ρ1, f1, Nxt.refl _ _ _, k1, Pin.refl _ _, h1⟩, fun i m σ' H' hW => ?_⟩
  obtain ⟨em, B2, ρ2, f2, n2, k2, pn, h2⟩ := hW
  obtain ⟨ja, jb⟩ := hJ B2 H' _ n2 k2.sub i
  by_cases hi : i < items.length
  · obtain ⟨hgo, hy⟩ := ja hi
    refine .inr ⟨hgo, fun σ3 H3 => ∃ B' ρ' fp', Nxt B1 H1 f1 B' H3 fp' ∧ Ok X.K Z B' H3 σ3 ρ' fp' ∧ Pin ps σ σ3 ∧ forNo g s E (items.drop (i + 1)) ρ', fun σ3 H3 h3 => ⟨m - 1, by omega, by omega, h3⟩, fun x H3 hyl => ?_⟩
    obtain ⟨d, B3, hd, ho3⟩ := hy x H3 hyl
    obtain ⟨g3, k3, n3⟩ := ho3.ok k2
    rw [List.drop_eq_getElem_cons hi] at h2
    have ed : items[i] = d := by
      rw [List.getElem?_eq_getElem hi] at hd
      exact Option.some.inj hd
    rw [ed] at h2
    refine ⟨B3, ρ2, g3, _, _, k3, h2, fun ρ4 h4 σ4 H4 B4 f4 n4 k4 ag => ?_⟩
    have pn4 : Pin ps σ σ4 := pn.trans (ag.pin ho)
    have n14 := (n2.trans n3).trans n4
    have p4 := p1.step n14 pn4
    refine ⟨B4, ρ4, f4, _, k4, h4, ⟨fun ρ' h' σ5 H5 B5 f5 n5 k5 q5 => ⟨B5, ρ', f5, n14.trans n5, k5, pn4.trans q5, h'⟩, p4.rt, p4.nx, fun ρ' h' σ5 H5 B5 f5 n5 k5 q5 => ⟨B5, ρ', f5, n14.trans n5, k5, pn4.trans q5, h'⟩, p4.xc⟩⟩
  · refine .inl ⟨jb (by omega), ?_⟩
    rw [List.drop_eq_nil_of_le (by omega)] at h2
    exact p1.nx ρ2 h2 σ' H' B2 f2 n2 k2 pn
theorem for_goO {g : WG} {s : WS} {E : DE} : ∀ (items : List O) (P : Nat → En → Prop) (ρ : En), (∀ i d, items[i]? = some d → ∀ ρ, P i ρ → ∀ N : En → Prop, (∀ ρ', P (i + 1) ρ' → N ρ') → g d ρ fun ρ1 => s { E with nx := N, ct := N, bk := E.nx } ρ1) → P 0 ρ → (∀ ρ', P items.length ρ' → E.nx ρ') → forNo g s E items ρ
  | [], P, ρ, h, h0, hn => hn ρ h0
  | d :: r, P, ρ, h, h0, hn => h 0 d rfl ρ h0 (forNo g s E r) fun ρ' h1 => for_goO r (fun i => P (i + 1)) ρ' (fun i d e => h (i + 1) d e) h1 hn
end
theorem e_fzM {X : Cx} {Z : Ent} {e : Expr} {w : WE} (h : PE X e (tE X.K Z w)) : PE X e (tE X.K Z (wFzM w)) := pe_to h fun _ _ _ q => fm_ok q
def oTupP : List O → (O → Prop) → Prop
  | [x], R => ∃ ds, vL x = some ds ∧ R (.ot (ds.map O.fz))
  | _, _ => False
theorem RFs.ros {K : PySem.W.Frag} {B H : Hp} : ∀ {ds : List PyData} {vs : List V}, RFs K B vs ds → ROs K B H vs (ds.map O.fz) []
  | _, _, .nil => .nil
  | _, _, .cons r t => .cons (f1 := []) (.fz r) (RFs.ros t)
theorem rd_tupP {K : PySem.W.Frag} : Rd K (fun xs H Q => ∃ p ys, xs = [.ref p] ∧ ((SqL K H p ys ∧ ∀ l, H l = none → Q (.ref l) (upd H l (.tup ys))) ∨ (SqT K H p ys ∧ Q (.ref p) H))) oTupP := fun B H vs xs f R Q s rr h q => by
  unfold oTupP at h
  split at h
  · obtain ⟨v, _, rfl, r⟩ := ros1 rr
    obtain ⟨ds, h1, h⟩ := h
    obtain ⟨a, us, rfl, e, t⟩ := r.vL s h1
    refine ⟨a, us, rfl, .inl ⟨SqL.of e, fun p hp => q _ h _ (upd B p (.tup us)) _ ?_⟩⟩
    have hB := s.free hp
    have sb : Sub B (upd B p (.tup us)) := fun a o e => by rw [upd_ne (ne_of_none e hB)]; exact e
    exact ⟨[], Nxt.allocB hp hB pl_tup, .ot upd_same (RFs.ros (t.mono sb)), List.nodup_nil, fun _ h => (List.not_mem_nil h).elim, s.upd⟩
  · exact h.elim
def wDict0T : WE := fun ρ R => R (.dt []) ρ
def getT (kvs : List (List Key × PyData)) (k : List Key) : Option PyData := (kvs.find? fun p => decide (p.1 = k)).map (·.2)
def oGet2T : List O → (O → Prop) → Prop
  | [.dt kvs, x, .fz d], R => ∃ ds k, tupO x = some ds ∧ keyL ds = some k ∧ R (.fz ((getT kvs k).getD d))
  | _, _ => False
def putT (kvs : List (List Key × PyData)) (k : List Key) (f : PyData) : List (List Key × PyData) := if (kvs.any fun p => decide (p.1 = k)) = true then kvs.map (fun p => if p.1 = k then (p.1, f) else p) else kvs ++ [(k, f)]
def lmTPut : O → List O → (O → O → Prop) → Prop
  | .dt kvs, [.fz f, .ot xs], R => ∃ ds k, unf xs = some ds ∧ keyL ds = some k ∧ kvs.length + 1 ≤ szMax ∧ R (.dt (putT kvs k f)) (.fz .none)
  | _, _, _ => False
def sPutT (i : Nat) (we wk : WE) : WS := sDrop (wMu "dict" i [we, wk] lmTPut)
def asOt (d : O) (k : List PyData → Prop) : Prop := ∃ ds, d = .ot (ds.map O.fz) ∧ k ds
def wVp (i : Nat) : WE := fun ρ R => asOt (nth ρ i) fun ds => R (.ot (ds.map O.fz)) ρ
section
variable {X : Cx} {Z : Ent} {ps : List Nat} {e k : Expr} {x : Str} {pos px p2 : Pos} {we wk : WE}
end
section
variable {w w2 : WE} {i : Nat} {ρ : En} {R : O → En → Prop} {R2 : O → O → Prop} {kvs : List (List Key × PyData)} {x : O} {d f : PyData} {k : O → Prop} {xs : List O} {p : Prop}
@[simp] theorem x_sPutT : sPutT i w w2 = sDrop (wMu "dict" i [w, w2] lmTPut) := rfl
@[simp] theorem x_lmTPut : lmTPut (.dt kvs) [.fz f, .ot xs] R2 = ∃ ds k, unf xs = some ds ∧ keyL ds = some k ∧ kvs.length + 1 ≤ szMax ∧ R2 (.dt (putT kvs k f)) (.fz .none) := rfl
@[simp] theorem x_get2T : oGet2T [.dt kvs, x, .fz d] k = ∃ ds key, tupO x = some ds ∧ keyL ds = some key ∧ k (.fz ((getT kvs key).getD d)) := rfl
@[simp] theorem x_dict0T : wDict0T ρ R = R (.dt []) ρ := rfl
@[simp] theorem x_wVp : wVp i ρ R = asOt (nth ρ i) fun ds => R (.ot (ds.map O.fz)) ρ := rfl
@[simp] theorem x_isDctT : isDct (.dt kvs) = true := rfl
@[simp] theorem x_isLstT : isLst (.dt kvs) = false := rfl
@[simp] theorem x_nhT : notHid (.dt kvs) p = p := rfl
end
end Pt
namespace Pt
open PySem PySem.Spec L2 PyProof.Rows
section
variable {X : Cx} {es : List Expr} {pos : Pos} {t : TA}
def tTupD (t : TA) : TE := fun σ H Q => t σ H fun xs H1 => xs.length ≤ sizeLine ∧ ∀ p ob, H1 p = none → ob.dict = none → Q (.ref p) (upd H1 p (.frz ob (.tup xs)))
theorem pe_tupD {x1} (h : PA X es t) : PE X (.Tuple es x1 pos) (tTupD t) := by
  refine ⟨fun pins s σ H Q I hq => ?_⟩
  refine wpAny_Tuple_spliced (thn (h.run pos pins s σ H _ I hq) fun us s1 ⟨xs, H1, I1, r, z, q⟩ => ⟨by rw [← r.length]; exact z, ?_⟩)
  have hf : H1 s1.heap.objs.size = none := I1.hok.fresh (Nat.le_refl _)
  have e0 : (s1.heap.push { cls := .type "tuple", data := .seq us.toArray }).get? s1.heap.objs.size = some { cls := .type "tuple", data := .seq us.toArray } := Heap.get?_push_size _ rfl
  exact ⟨.ref s1.heap.objs.size, upd H1 s1.heap.objs.size (.frz { cls := .type "tuple", data := .seq us.toArray } (.tup xs)), I1.laid (t' := s1.toks) (fun b u e => Heap.get?_push_of_some _ e) (Nat.le_refl _) ⟨e0, z, us, r, IsTup.new _ _⟩, rfl, q _ _ hf rfl⟩
end
def oTupD : List O → (O → Prop) → Prop := fun xs R => ∃ ds, unf xs = some ds ∧ ds.length ≤ szMax ∧ R (.tn ds)
theorem out_tn {K : PySem.W.Frag} {B H : Hp} {l : Addr} {ob : Obj} {us : List V} {ds : List PyData} (hl : H l = none) (hd : ob.dict = none) (s : Sub B H) (rf : RFs K B us ds) : Out K B H (.ref l) (.tn ds) (upd B l (.frz ob (.tup us))) (upd H l (.frz ob (.tup us))) := by
  have hB := s.free hl
  have sb : Sub B (upd B l (.frz ob (.tup us))) := fun a o e => by rw [upd_ne (ne_of_none e hB)]; exact e
  exact ⟨[], Nxt.allocB hl hB pl_frz, .tn (.inl (.inr ⟨ob, upd_same⟩)) (.inl ⟨ob, us, upd_same, hd⟩) (rf.mono sb), List.nodup_nil, fun _ h => (List.not_mem_nil h).elim, s.upd⟩
theorem rd_tupD {K : PySem.W.Frag} : Rd K (fun xs H Q => xs.length ≤ sizeLine ∧ ∀ p ob, H p = none → ob.dict = none → Q (.ref p) (upd H p (.frz ob (.tup xs)))) oTupD := fun B H vs xs f R Q s rr h q => by
  obtain ⟨ds, e, hz, h⟩ := h
  rw [unf_iff e] at rr
  obtain ⟨t, _⟩ := ROs.unfz rr
  exact ⟨by rw [t.length]; exact szOk hz, fun p ob hp hd => q _ h _ _ _ (out_tn hp hd s t)⟩
theorem e_tupleD {X : Cx} {Z : Ent} {es : List Expr} {pos : Pos} {as : List AD} {k : Nat} (h : PA X es (tADs X.K Z as)) : PE X (.Tuple es k pos) (tE X.K Z (wRd as oTupD)) := pe_to (pe_tupD h) fun σ H Q q => rd_glue rd_tupD q
def rCatN (K : PySem.W.Frag) : R2 := fun x y H Q => ∃ a b xs ys, x = .ref a ∧ y = .ref b ∧ SqT K H a xs ∧ SqT K H b ys ∧ ys ≠ [] ∧ xs.length + ys.length ≤ sizeLine ∧
  (xs = [] → Q (.ref b) H) ∧ (xs ≠ [] → ∀ p ob, H p = none → ob.dict = none → Q (.ref p) (upd H p (.frz ob (.tup (xs ++ ys)))))
theorem op_catN {X : Cx} : OpR X (binaryOp .Add) (rCatN X.K) := by
  intro pins s σ H x y v u Q I rx ry h
  obtain ⟨a, b, xs, ys, rfl, rfl, ha, hb, hy, hz, q1, q2⟩ := h
  cases rx
  cases ry
  obtain ⟨its, r1, p1, _⟩ := I.tuple ha
  obtain ⟨its2, r2, p2, _⟩ := I.tuple hb
  by_cases hx : xs = []
  · subst hx
    cases r1
    exact cat_tup0 p1 p2 ⟨.ref b, H, I, rfl, q1 rfl⟩
  · refine HT.cat_tup p1 p2 (fun z => hx (r1.nil_iff.mp z)) (fun z => absurd (r2.nil_iff.mp z) hy) (fun z => ?_) (by rw [← r1.length, ← r2.length]; exact hz)
    have e0 : (s.heap.push { cls := .type "tuple", data := .seq (its ++ its2).toArray }).get? s.heap.objs.size = some { cls := .type "tuple", data := .seq (its ++ its2).toArray } := Heap.get?_push_size _ rfl
    exact ⟨.ref s.heap.objs.size, _, I.laid (t' := s.toks) (o := .frz { cls := .type "tuple", data := .seq (its ++ its2).toArray } (.tup (xs ++ ys))) (fun b ob q => Heap.get?_push_of_some _ q) (Nat.le_refl _) ⟨e0, by rw [List.length_append]; exact hz, _, r1.append r2, IsTup.new _ _⟩, rfl, q2 hx _ _ (I.hok.fresh (Nat.le_refl _)) rfl⟩
def oAddN : List O → (O → Prop) → Prop
  | [x, .tn es], R => ∃ ds, tupO x = some ds ∧ es ≠ [] ∧ ds.length + es.length ≤ szMax ∧ R (.tn (ds ++ es))
  | _, _ => False
theorem rd_addN {K : PySem.W.Frag} : Rd K (r2L (rCatN K)) oAddN := fun B H vs xs f R Q s rr h q => by
  unfold oAddN at h
  split at h
  · obtain ⟨ds, e, hne, hz, h⟩ := h
    cases rr with
    | cons rx t =>
      cases t with
      | cons ry t =>
        cases t
        obtain ⟨b, us, rfl, e1, r1⟩ := tupO_sq s rx e
        cases ry with
        | @tn a vs _ e2 nd r2 =>
          have l1 := r1.length
          have l2 := r2.length
          refine ⟨b, a, us, vs, rfl, rfl, e1, s.sqT e2, fun z => hne (by subst z; cases r2; rfl), by rw [l1, l2]; exact szOk hz, fun z => ?_, fun z p ob hp hd => q _ h _ _ _ (out_tn hp hd s (r1.append r2))⟩
          subst z
          cases r1
          exact q _ h _ B H ⟨[], Nxt.refl _ _ _, .tn e2 nd r2, List.nodup_nil, fun _ h => (List.not_mem_nil h).elim, s⟩
  · exact h.elim
def lmExtendM : O → List O → (O → O → Prop) → Prop
  | .ol xs, [.ol ys], R => xs.length + ys.length ≤ szMax ∧ R (.ol (xs ++ ys)) (.fz .none)
  | _, _, _ => False
theorem lm_extendM {K : PySem.W.Frag} : LMu K rExtend lmExtendM := fun B H q x vs xs fx fa R Q s r rr nd h k => by
  unfold lmExtendM at h
  split at h
  · obtain ⟨hz, h⟩ := h
    cases rr with
    | cons rd t =>
      cases t
      cases r with
      | ol e r =>
        cases rd with
        | @ol b us _ fb e2 t2 =>
          rw [List.append_nil] at nd
          obtain ⟨n1, n2⟩ := List.nodup_cons.mp nd
          refine ⟨q, b, _, us, rfl, rfl, e, e2, by rw [r.length, t2.length]; exact szOk hz, k _ _ h .non _ _ [] (.ol upd_same ((r.append t2).upd ?_)) (.fz .non) ?_ ?_⟩
          · intro z
            rcases List.mem_append.mp z with z | z
            · exact n1 (List.mem_append_left _ z)
            · exact n1 (List.mem_append_right _ (List.mem_cons_of_mem _ z))
          · rw [List.append_nil]
            refine List.nodup_cons.mpr ⟨fun z => ?_, ?_⟩
            · rcases List.mem_append.mp z with z | z
              · exact n1 (List.mem_append_left _ z)
              · exact n1 (List.mem_append_right _ (List.mem_cons_of_mem _ z))
            · exact n2.sublist (List.Sublist.append (List.Sublist.refl _) (List.sublist_cons_self _ _))
          · intro a ha
            rw [List.append_nil] at *
            rcases List.mem_cons.mp ha with z | z
            · rw [z]; exact List.mem_cons_self ..
            · rcases List.mem_append.mp z with z | z
              · exact List.mem_cons_of_mem _ (List.mem_append_left _ z)
              · exact List.mem_cons_of_mem _ (List.mem_append_right _ (List.mem_cons_of_mem _ z))
  · exact h.elim
def oTupB : List O → (O → Prop) → Prop := fun xs R => oTupN xs R ∨ oTupP xs R
theorem rd_tupB {K : PySem.W.Frag} {r1 r2 : List V → Hp → VK → Prop} (h1 : Rd K r1 oTupN) (h2 : Rd K r2 oTupP) : Rd K (fun xs H Q => r1 xs H Q ∨ r2 xs H Q) oTupB := fun B H vs xs f R Q s rr h q => by
  rcases h with h | h
  · exact .inl (h1 B H vs xs f R Q s rr h q)
  · exact .inr (h2 B H vs xs f R Q s rr h q)
theorem cr_or {X : Cx} {f : Value} {r1 r2 : List V → Hp → VK → Prop} (h1 : CallR X f r1) (h2 : CallR X f r2) : CallR X f (fun xs H Q => r1 xs H Q ∨ r2 xs H Q) := fun pins s σ H xs us Q I r h => by
  rcases h with h | h
  · exact h1 pins s σ H xs us Q I r h
  · exact h2 pins s σ H xs us Q I r h
def oListT : List O → (O → Prop) → Prop
  | [.ol xs], R => ∃ ds, unm xs = some (ds.map (fun _ => true), ds) ∧ R (.lf ds)
  | [x], R => ∃ ds, vL x = some ds ∧ R (.lf ds)
  | _, _ => False
section
variable {X : Cx}
end
def wSortSetT (w : WE) : WE := fun ρ R => w ρ fun d ρ1 => ∃ (ts : List (List Int)) (n : Nat) (b : Int), vL d = some (ts.map fun t => PyData.tuple (t.map PyData.int)) ∧ ts.length < 64 ∧ 1 ≤ n ∧ (∀ t ∈ ts, t.length = n ∧ TS.Bd b t) ∧
  ∀ out : List (List Int), out.Nodup → (∀ t, t ∈ out ↔ t ∈ ts) → out.Pairwise (fun q r => TS.code b q ≤ TS.code b r) → R (.lf (out.map fun t => PyData.tuple (t.map PyData.int))) ρ1
section
variable {K : PySem.W.Frag} {Z : Ent}
end
section
variable {K : PySem.W.Frag} {Z : Ent} {B H : Hp} {σ σ' : L2.St} {ρ : En} {fp : List Addr}
end
section
variable {X : Cx} {Z : Ent} {ps qs : List Nat} {st : Stmt} {s : WS} {i : Nat}
end
section
variable {k : O → Prop}
@[simp] theorem x_oTupD {xs : List O} : oTupD xs k = ∃ ds, unf xs = some ds ∧ ds.length ≤ szMax ∧ k (.tn ds) := rfl
@[simp] theorem x_oAddN {x : O} {es : List PyData} : oAddN [x, .tn es] k = ∃ ds, tupO x = some ds ∧ es ≠ [] ∧ ds.length + es.length ≤ szMax ∧ k (.tn (ds ++ es)) := rfl
@[simp] theorem x_lmExtendM {xs ys : List O} {R2 : O → O → Prop} : lmExtendM (.ol xs) [.ol ys] R2 = (xs.length + ys.length ≤ szMax ∧ R2 (.ol (xs ++ ys)) (.fz .none)) := rfl
@[simp] theorem x_oListT1 {xs : List O} : oListT [.ol xs] k = ∃ ds, unm xs = some (ds.map (fun _ => true), ds) ∧ k (.lf ds) := rfl
@[simp] theorem x_oListT2 {ds : List PyData} : oListT [.lf ds] k = k (.lf ds) := by simp [oListT]
@[simp] theorem x_wSortSetT {w : WE} {ρ : En} {R : O → En → Prop} : wSortSetT w ρ R = w ρ fun d ρ1 => ∃ (ts : List (List Int)) (n : Nat) (b : Int), vL d = some (ts.map fun t => PyData.tuple (t.map PyData.int)) ∧ ts.length < 64 ∧ 1 ≤ n ∧ (∀ t ∈ ts, t.length = n ∧ TS.Bd b t) ∧
  ∀ out : List (List Int), out.Nodup → (∀ t, t ∈ out ↔ t ∈ ts) → out.Pairwise (fun q r => TS.code b q ≤ TS.code b r) → R (.lf (out.map fun t => PyData.tuple (t.map PyData.int))) ρ1 := rfl
@[simp] theorem x_oTupB1 {ds : List PyData} : oTupB [.lf ds] k = (k (.tn ds) ∨ k (.ot (ds.map O.fz))) := by simp [oTupB, oTupP]
end
theorem tns_ro {K : PySem.W.Frag} {B H : Hp} : ∀ {rs : List (List PyData)} {vs : List V}, RFs K B vs (rs.map PyData.tuple) → NDs K B (rs.map fun _ => true) vs → ROs K B H vs (rs.map O.tn) []
  | [], _, .nil, _ => .nil
  | r :: rs, v :: vs, .cons h t, n => by
    cases h with
    | tup e h =>
      obtain ⟨b, e1, e2⟩ := n 0 rfl
      cases e1
      exact .cons (f1 := []) (.tn e e2 h) (tns_ro t fun i hi => n (i + 1) hi)
def oSortO : List O → (O → Prop) → Prop
  | [.ol xs], R => ∃ rs : List (List PyData), xs = rs.map O.tn ∧ PyData.canLayAll0 (rs.map PyData.tuple) = true ∧ PySem.W.AllAlike (rs.map PyData.tuple) ∧ PySem.W.Sortable (rs.map PyData.tuple) ∧ (∀ d ∈ rs.map PyData.tuple, d.depth ≤ 40) ∧
    ∀ L : List (List PyData), L.Perm rs → L.map PyData.tuple = (rs.map PyData.tuple).mergeSort (PySem.W.dataLe false id) → R (.ol (L.map O.tn))
  | _, _ => False
theorem rd_sortO {K : PySem.W.Frag} : Rd K (rSortD K false) oSortO := fun B H vs xs f R Q s rr h q => by
  unfold oSortO at h
  split at h
  · obtain ⟨rs, rfl, hcl, hal, hk, hd, hR⟩ := h
    obtain ⟨v, g, rfl, r⟩ := ros1 rr
    cases r with
    | @ol p us _ _ e rr2 =>
      obtain ⟨rf, nd⟩ := unm_ok rr2 (unm_tn rs)
      refine ⟨p, us, rs.map PyData.tuple, rfl, .inl (SqL.of e), rf.dp s hcl, hal, hk, hd, fun a ha => ?_⟩
      have hl := rf.length
      have hs := sort_zip (rev := false) hl
      obtain ⟨L, eL⟩ : ∃ L, (us.zip (rs.map PyData.tuple)).mergeSort (PySem.W.dataLe false Prod.snd) = L := ⟨_, rfl⟩
      have pm : L.Perm (us.zip (rs.map PyData.tuple)) := by rw [← eL]; exact List.mergeSort_perm _ _
      rw [eL] at hs ⊢
      have each : ∀ b ∈ L, RF K B b.1 b.2 ∧ b.2 = .tuple (tupOf b.2) ∧ ∃ c, b.1 = .ref c ∧ ND K B c := fun b hb => by
        have hb2 := pm.mem_iff.mp hb
        obtain ⟨i, hi, hg⟩ := List.mem_iff_getElem.mp hb2
        have hg' : (us.zip (rs.map PyData.tuple))[i]? = some b := by rw [List.getElem?_eq_getElem hi, hg]
        obtain ⟨e1, e2⟩ := List.getElem?_zip_eq_some.mp hg'
        rw [List.getElem?_map] at e2
        cases q1 : rs[i]? with
        | none => rw [q1] at e2; cases e2
        | some es =>
          rw [q1] at e2
          have e3 : PyData.tuple es = b.2 := Option.some.inj e2
          obtain ⟨c, e4, hnd⟩ := nd i (by rw [List.getElem?_map, q1]; rfl)
          rw [e1] at e4
          exact ⟨rfs_zip rf b hb2, by rw [← e3]; rfl, c, Option.some.inj e4, hnd⟩
      have pr : (L.map fun b => tupOf b.2).Perm rs := by
        have h1 := pm.map fun b : V × PyData => tupOf b.2
        rw [show (us.zip (rs.map PyData.tuple)).map (fun b : V × PyData => tupOf b.2) = ((us.zip (rs.map PyData.tuple)).map Prod.snd).map tupOf from by rw [List.map_map]; rfl, zip_snd hl, List.map_map, show (tupOf ∘ PyData.tuple) = id from rfl, List.map_id] at h1
        exact h1
      have e5 : (L.map fun b => tupOf b.2).map PyData.tuple = L.map Prod.snd := by
        rw [List.map_map]
        exact List.map_congr_left fun b hb => (each b hb).2.1.symm
      have r5 : RFs K B (L.map Prod.fst) ((L.map fun b => tupOf b.2).map PyData.tuple) := by
        rw [e5]
        exact rfs_of fun b hb => (each b hb).1
      have n5 : NDs K B ((L.map fun b => tupOf b.2).map fun _ => true) (L.map Prod.fst) := by
        intro i hi
        rw [List.map_map, List.getElem?_map] at hi
        cases q1 : L[i]? with
        | none => rw [q1] at hi; cases hi
        | some b =>
          obtain ⟨c, e6, e7⟩ := (each b (List.mem_of_getElem? q1)).2.2
          exact ⟨c, by rw [List.getElem?_map, q1, ← e6]; rfl, e7⟩
      refine q _ (hR _ pr (by rw [e5, hs])) _ B _ ⟨[a], Nxt.alloc ha, .ol upd_same (tns_ro r5 n5), List.nodup_cons.mpr ⟨List.not_mem_nil, List.nodup_nil⟩, fun b hb => by rw [List.mem_singleton.mp hb]; exact s.free ha, s.updR (s.free ha)⟩
  · exact h.elim
@[simp] theorem x_oSortO {xs : List O} {k : O → Prop} : oSortO [.ol xs] k = ∃ rs : List (List PyData), xs = rs.map O.tn ∧ PyData.canLayAll0 (rs.map PyData.tuple) = true ∧ PySem.W.AllAlike (rs.map PyData.tuple) ∧ PySem.W.Sortable (rs.map PyData.tuple) ∧ (∀ d ∈ rs.map PyData.tuple, d.depth ≤ 40) ∧
    ∀ L : List (List PyData), L.Perm rs → L.map PyData.tuple = (rs.map PyData.tuple).mergeSort (PySem.W.dataLe false id) → k (.ol (L.map O.tn)) := rfl
end Pt
namespace Pt
open PySem PySem.Spec L2
def tOpen (K : PySem.W.Frag) (Z : Ent) (qs : List Nat) (s : WS) (u : TS) : TS := fun D σ H => tS K Z qs s { D with nx := u D } σ H
structure PSo (X : Cx) (Z : Ent) (sts : List Stmt) (qs : List Nat) (s : WS) : Prop where
  run : ∀ (rest : List Stmt) (u : TS), PSs X rest u → PSs X (sts ++ rest) (tOpen X.K Z qs s u)
section
variable {X : Cx} {Z : Ent} {st : Stmt} {sts rest : List Stmt} {qs ps : List Nat} {s s2 : WS}
end
end Pt
namespace Pt
open PySem PySem.Spec L2
def zipT (k1 k2 i1 i2 : Nat) (s : WS) (E : DE) : Nat → Nat → En → Prop
  | 0, _, ρ => E.nx ρ
  | m + 1, t, ρ => ∃ (xs ys : List O) (x y : O), nth ρ k1 = .ol xs ∧ nth ρ k2 = .ol ys ∧ xs.length = t + m + 1 ∧ ys.length = t + m + 1 ∧ xs[t]? = some x ∧ ys[t]? = some y ∧
    s { nx := fun ρ' => nth ρ' k1 = .hid ∧ nth ρ' k2 = .hid ∧ nth ρ' i1 ≠ .hid ∧ nth ρ' i2 ≠ .hid ∧ k1 < ρ'.length ∧ k2 < ρ'.length ∧ zipT k1 k2 i1 i2 s E m (t + 1) ((((ρ'.set i2 .hid).set k2 (.ol (ys.set t (nth ρ' i2)))).set i1 .hid).set k1 (.ol (xs.set t (nth ρ' i1)))),
        ct := fun _ => False, rt := fun _ _ => False } ((((ρ.set k1 .hid).set i1 x).set k2 .hid).set i2 y)
section
variable {X : Cx} {Z : Ent} {ps : List Nat} {sts : List Stmt} {s : WS} {pos pq p p1 p2 p3 p4 tp : Pos} {x y a b : Str} {k1 k2 i1 i2 kk : Nat}
end
end Pt
namespace Pt
open PySem PySem.Spec L2
section
variable {K : PySem.W.Frag} {Z : Ent} {k i : Nat} {w : WE} {σ : L2.St} {H : Hp} {Q : VK}
end
section
variable {X : Cx} {Z : Ent} {elt : Expr} {scope : Scope} {pos p1 p2 : Pos} {a y : Str} {ow : List (Str × Nat)} {w : WE} {k i : Nat} {ps : List Nat}
end
end Pt
namespace Pt
open PySem PySem.Spec L2 PyProof.Rows
def oAddP : List O → (O → Prop) → Prop
  | [x, y], R => ∃ ds es, tupO x = some ds ∧ tupO y = some es ∧ ds ≠ [] ∧ es ≠ [] ∧ ds.length + es.length ≤ szMax ∧ R (.ot ((ds ++ es).map O.fz))
  | _, _ => False
def otL (dss : List (List PyData)) : List O := dss.map fun ds => .ot (ds.map O.fz)
def toOt (d : O) (k : List O → Prop) : Prop := ∃ dss, d = .ol (otL dss) ∧ k (otL dss)
def wiOt (w : WE) : WIo := fun ρ R => w ρ fun d ρ1 => toOt d fun items => R items ρ1
def oNotInT : List O → (O → Prop) → Prop
  | [.ot xs, .dt kvs], R => ∃ ds k, unf xs = some ds ∧ keyL ds = some k ∧ R (.fz (.bool (!(getT kvs k).isSome)))
  | _, _ => False
def wAppF1 (i : Nat) (cn f : Str) (w : En → Option PyData) : WE := fun ρ R => ∃ gs y d, nth ρ i = .oi cn gs ∧ gs.lookup f = some y ∧ isLst y = true ∧ w ρ = some d ∧ lmAppend y [.fz d] fun x' z => R z (ρ.set i (.oi cn (putO f x' gs)))
def wIxF (i : Nat) (cn f : Str) (w : En → Option PyData) (od : List O → (O → Prop) → Prop) : WE := fun ρ R => ∃ gs y d, nth ρ i = .oi cn gs ∧ gs.lookup f = some y ∧ w ρ = some d ∧ od [y, .fz d] fun z => R z ρ
def qC (n : Int) : En → Option PyData := fun _ => some (.int n)
def oFldIx (cn f : Str) (n : Int) (od : List O → (O → Prop) → Prop) : List O → (O → Prop) → Prop
  | [.oi c gs], R => c = cn ∧ ∃ y, gs.lookup f = some y ∧ od [y, .fz (.int n)] R
  | _, _ => False
section
variable {X : Cx} {Z : Ent} {x cn f : Str} {px p1 apos cpos : Pos}
end
section
variable {ρ : En} {R : O → En → Prop} {w : En → Option PyData} {i : Nat} {cn f : Str} {k : O → Prop} {od : List O → (O → Prop) → Prop}
@[simp] theorem x_appF1 : wAppF1 i cn f w ρ R = ∃ gs y d, nth ρ i = .oi cn gs ∧ gs.lookup f = some y ∧ isLst y = true ∧ w ρ = some d ∧ lmAppend y [.fz d] fun x' z => R z (ρ.set i (.oi cn (putO f x' gs))) := rfl
@[simp] theorem x_ixF : wIxF i cn f w od ρ R = ∃ gs y d, nth ρ i = .oi cn gs ∧ gs.lookup f = some y ∧ w ρ = some d ∧ od [y, .fz d] fun z => R z ρ := rfl
@[simp] theorem x_qC {n : Int} : qC n ρ = some (.int n) := rfl
@[simp] theorem x_fldIx {gs : List (Str × O)} {n : Int} : oFldIx cn f n od [.oi cn gs] k = ∃ y, gs.lookup f = some y ∧ od [y, .fz (.int n)] k := by simp [oFldIx]
@[simp] theorem x_addP {x y : O} : oAddP [x, y] k = ∃ ds es, tupO x = some ds ∧ tupO y = some es ∧ ds ≠ [] ∧ es ≠ [] ∧ ds.length + es.length ≤ szMax ∧ k (.ot ((ds ++ es).map O.fz)) := rfl
@[simp] theorem x_notInT {xs : List O} {kvs : List (List Key × PyData)} : oNotInT [.ot xs, .dt kvs] k = ∃ ds key, unf xs = some ds ∧ keyL ds = some key ∧ k (.fz (.bool (!(getT kvs key).isSome))) := rfl
@[simp] theorem x_wiOt {w : WE} {Rr : List O → En → Prop} : wiOt w ρ Rr = w ρ fun d ρ1 => toOt d fun items => Rr items ρ1 := rfl
end
section
variable {X : Cx} {Z : Ent} {elt tg iter : Expr} {ifs : List Expr} {scope : Scope} {pos : Pos} {ow : List (Str × Nat)} {wi : WIo} {g : WG} {wt : WT} {w : WE} {ps : List Nat}
theorem e_lc1 (hc : X.calm = true) (hN : X.N.Nodup)
    (hi : PI X tg iter (tIo X.K Z wi)) (ok : BlkOk X.N X.env.scope scope ow) (hg : ∀ (s : Shared) (H : Hp) (C : Addr) (cl : List (Str × Addr)) (fp : List Addr), PG (X.blk s H scope (compEnvC scope cl C X.env) fp) tg (tG X.K Z (ow.map (·.2)) g))
    (ht : ∀ (s : Shared) (H : Hp) (C : Addr) (cl : List (Str × Addr)) (fp : List Addr), PTs (X.blk s H scope (compEnvC scope cl C X.env) fp) ifs (tT X.K Z wt))
    (he : ∀ (s : Shared) (H : Hp) (C : Addr) (cl : List (Str × Addr)) (fp : List Addr), PE (X.blk s H scope (compEnvC scope cl C X.env) fp) elt (tE X.K Z w)) (hs : ∀ x, foldedSetIterable iter X.env x = pure x := by intro _; rfl) :
    PE X (.ListComp elt [⟨tg, iter, ifs, 0⟩] scope pos) (tE X.K Z (wLcN wi g wt (ow.map (·.2)) (bE w))) :=
  pe_to (pe_lcN (vs1 := []) hc hN hi ok (fun _ h => nomatch h) (fun env c h => by cases h) hg ht (fun s H C cl fp D => (bd_last (X := X.blk s H scope (compEnvC scope cl C X.env) fp) rfl rfl (he s H C cl fp)).to fun σ H Nx q => bE_ok q) hs) fun σ H Q q => lcN_ok (vs1 := []) (fun _ h => nomatch h) q
end
end Pt
namespace Pt
open PySem PySem.Spec L2 PyProof.Rows
abbrev WTX := (Ex → En → Prop) → WT
def wTbX (w : WEX) : WTX := fun xc ρ R => w xc ρ fun d ρ1 => asB d fun b => R b ρ1
def wTnotX (w : WTX) : WTX := fun xc ρ R => w xc ρ fun b ρ1 => R (!b) ρ1
def sIfX (wt : WTX) (s s2 : WS) : WS := fun E ρ => wt E.xc ρ fun b ρ1 => br b (s E ρ1) (s2 E ρ1)
section
variable {X : Cx} {Z : Ent} {ps : List Nat} {e a b : Expr} {pos : Pos} {w : WEX} {sts sts2 : List Stmt} {s s2 : WS} {wt : WTX}
end
section
variable {ρ : En} {R : Bool → En → Prop} {w : WEX} {wt : WTX} {s s2 : WS} {xc : Ex → En → Prop} {E : DE}
@[simp] theorem x_wTbX : wTbX w xc ρ R = w xc ρ fun d ρ1 => asB d fun b => R b ρ1 := rfl
@[simp] theorem x_wTnotX : wTnotX wt xc ρ R = wt xc ρ fun b ρ1 => R (!b) ρ1 := rfl
@[simp] theorem x_sIfX : sIfX wt s s2 E ρ = wt E.xc ρ fun b ρ1 => br b (s E ρ1) (s2 E ρ1) := rfl
end
end Pt
namespace Pt
open PySem PySem.Spec L2 PyProof.Rows
def oAddQ : List O → (O → Prop) → Prop
  | [x, .ot ys], R => ∃ ds es, tupO x = some ds ∧ unf ys = some es ∧ es ≠ [] ∧ ds.length + es.length ≤ szMax ∧ R (.ot ((ds ++ es).map O.fz))
  | _, _ => False
def oIxOt : List O → (O → Prop) → Prop
  | [.ol xs, .fz (.int i)], R => ∃ (dss : List (List PyData)) (n : Nat) (ds : List PyData), xs = otL dss ∧ i = (n : Nat) ∧ dss[n]? = some ds ∧ R (.fz (.tuple ds))
  | _, _ => False
def oSortOt : List O → (O → Prop) → Prop
  | [.ol xs], R => ∃ dss : List (List PyData), xs = otL dss ∧ PyData.canLayAll0 (dss.map PyData.tuple) = true ∧ PySem.W.AllAlike (dss.map PyData.tuple) ∧ PySem.W.Sortable (dss.map PyData.tuple) ∧ (∀ d ∈ dss.map PyData.tuple, d.depth ≤ 40) ∧
    ∀ L : List (List PyData), L.Perm dss → L.map PyData.tuple = (dss.map PyData.tuple).mergeSort (PySem.W.dataLe false id) → R (.ol (otL L))
  | _, _ => False
section
variable {X : Cx} {Z : Ent} {sts : List Stmt} {own ps : List Nat} {pos : Pos} {g : WG} {s : WS}
end
def rgN (a b c : Int) : Int := if a < b then (b - a - 1) / c + 1 else 0
def wiR3p (w w2 w3 : WE) : WI := fun ρ R => w ρ fun d ρ1 => asI d fun a => w2 ρ1 fun d2 ρ2 => asI d2 fun b => w3 ρ2 fun d3 ρ3 => asI d3 fun c => 0 < c ∧ c ≤ 1000000 ∧ smallI a ∧ smallI b ∧ R (rangeC a c (rgN a b c).toNat) ρ3
section
variable {X : Cx} {Z : Ent} {tg : Expr} {p pos : Pos}
end
section
variable {ρ : En} {k : O → Prop} {w w2 w3 : WE}
@[simp] theorem x_wiR3p {R : List PyData → En → Prop} : wiR3p w w2 w3 ρ R = w ρ fun d ρ1 => asI d fun a => w2 ρ1 fun d2 ρ2 => asI d2 fun b => w3 ρ2 fun d3 ρ3 => asI d3 fun c => 0 < c ∧ c ≤ 1000000 ∧ smallI a ∧ smallI b ∧ R (rangeC a c (rgN a b c).toNat) ρ3 := rfl
@[simp] theorem x_addQ {x : O} {ys : List O} : oAddQ [x, .ot ys] k = ∃ ds es, tupO x = some ds ∧ unf ys = some es ∧ es ≠ [] ∧ ds.length + es.length ≤ szMax ∧ k (.ot ((ds ++ es).map O.fz)) := rfl
@[simp] theorem x_oIxOt {xs : List O} {i : Int} : oIxOt [.ol xs, .fz (.int i)] k = ∃ (dss : List (List PyData)) (n : Nat) (ds : List PyData), xs = otL dss ∧ i = (n : Nat) ∧ dss[n]? = some ds ∧ k (.fz (.tuple ds)) := rfl
@[simp] theorem x_oSortOt {xs : List O} : oSortOt [.ol xs] k = ∃ dss : List (List PyData), xs = otL dss ∧ PyData.canLayAll0 (dss.map PyData.tuple) = true ∧ PySem.W.AllAlike (dss.map PyData.tuple) ∧ PySem.W.Sortable (dss.map PyData.tuple) ∧ (∀ d ∈ dss.map PyData.tuple, d.depth ≤ 40) ∧
    ∀ L : List (List PyData), L.Perm dss → L.map PyData.tuple = (dss.map PyData.tuple).mergeSort (PySem.W.dataLe false id) → k (.ol (otL L)) := rfl
end
end Pt
namespace Pt
open PySem PySem.Spec L2 PyProof.Rows
def tK (x : List Int × Addr × Value) : List Key × Addr × Value := (x.1.map Sum.inl, x.2.1, x.2.2)
theorem kV_ints (k : List Int) : (k.map (Sum.inl : Int → Key)).map kV = k.map V.int := by
  rw [List.map_map]
  rfl
theorem inl_inj : ∀ {a b : List Int}, a.map (Sum.inl : Int → Key) = b.map Sum.inl → a = b
  | [], [], _ => rfl
  | [], _ :: _, e => by cases e
  | _ :: _, [], e => by cases e
  | x :: xs, y :: ys, e => by
    rw [List.map_cons, List.map_cons] at e
    injection e with e1 e2
    injection e1 with e1
    rw [e1, inl_inj e2]
theorem hI_eq {P : Program} {w : World} (k : List Int) : (tupleKind (mixKind P w)).hash (k.map Sum.inl) = hI k := by
  show reduceHash (PySem.Builtin.Tuple.tupleHashOf ((k.map (Sum.inl : Int → Key)).map (keyH w))) = hI k
  rw [List.map_map]
  rfl
theorem ent_eq {P : Program} {w : World} (x : List Int × Addr × Value) : entryOfKey (tupleKind (mixKind P w)) (tK x) = { hash := hI x.1, key := .ref x.2.1, val := x.2.2 } := by
  show DictEntry.mk _ _ _ = _
  rw [show (tupleKind (mixKind P w)).hash (tK x).1 = hI x.1 from hI_eq x.1]
  rfl
theorem DqE.keys {K : PySem.W.Frag} {B : Hp} : ∀ {xs : List (List Int × Addr × Value)} {ds : List (List Int × PyData)}, DqE K B xs ds → xs.map (·.1) = ds.map (·.1)
  | _, _, .nil => rfl
  | _, _, .cons _ _ _ t => by rw [List.map_cons, List.map_cons, t.keys]
theorem DqE.snoc {K : PySem.W.Frag} {B : Hp} {k : List Int} {q : Addr} {u : Value} {v : V} {d : PyData} (e : SqT K B q (k.map V.int)) (r : RelV v u) (f : RF K B v d) : ∀ {xs : List (List Int × Addr × Value)} {ds : List (List Int × PyData)}, DqE K B xs ds → DqE K B (xs ++ [(k, q, u)]) (ds ++ [(k, d)])
  | _, _, .nil => .cons e r f .nil
  | _, _, .cons e' r' f' t => .cons e' r' f' (DqE.snoc e r f t)
theorem nodup_inl : ∀ {l : List (List Int)}, l.Nodup → (l.map (fun k => k.map (Sum.inl : Int → Key))).Nodup
  | [], _ => List.nodup_nil
  | a :: l, h => by
    obtain ⟨h1, h2⟩ := List.nodup_cons.mp h
    rw [List.map_cons]
    refine List.nodup_cons.mpr ⟨fun z => ?_, nodup_inl h2⟩
    obtain ⟨b, hb, e⟩ := List.mem_map.mp z
    rw [inl_inj e] at hb
    exact h1 hb
def inQ (ds : List (List Int × PyData)) (k : List Int) : Bool := ds.any fun p => decide (p.1 = k)
theorem atK_in {K : PySem.W.Frag} {B : Hp} (k : List Int) : ∀ {xs : List (List Int × Addr × Value)} {ds : List (List Int × PyData)}, DqE K B xs ds → (atKey (xs.map tK) (k.map Sum.inl)).isSome = inQ ds k
  | _, _, .nil => rfl
  | _, _, .cons (k := k1) (q := q1) (u := u1) (d := d1) (xs := xs) (ds := ds) e r f t => by
    have ih := atK_in k t
    unfold inQ at ih ⊢
    rw [List.any_cons]
    by_cases h : k1 = k
    · subst h
      simp [atKey, tK]
    · have h' : ¬ (k1.map (Sum.inl : Int → Key)) = k.map Sum.inl := fun z => h (inl_inj z)
      have : atKey (((k1, q1, u1) :: xs).map tK) (k.map Sum.inl) = atKey (xs.map tK) (k.map Sum.inl) := by
        unfold atKey
        rw [List.map_cons, List.find?_cons_of_neg (by show ¬ (decide (k1.map (Sum.inl : Int → Key) = k.map Sum.inl) = true); rw [decide_eq_true_eq]; exact h')]
      rw [this, ih]
      simp [h]
def qL : List PyData → Option (List Int)
  | [] => some []
  | .int i :: r => (qL r).map (i :: ·)
  | _ :: _ => none
theorem qL_rf {K : PySem.W.Frag} {B : Hp} : ∀ {ds : List PyData} {vs : List V} {ks : List Int}, RFs K B vs ds → qL ds = some ks → vs = ks.map V.int
  | [], _, _, .nil, h => by cases h; rfl
  | .int i :: r, _, ks, .cons (.int _) t, h => by
    have h' : (qL r).map (i :: ·) = some ks := h
    cases q : qL r with
    | none => rw [q] at h'; cases h'
    | some l =>
      rw [q] at h'
      cases h'
      rw [qL_rf t q]
      rfl
theorem qL_ints (k : List Int) : qL (k.map PyData.int) = some k := by
  induction k with
  | nil => rfl
  | cons a k ih => show (qL (k.map PyData.int)).map (a :: ·) = _; rw [ih]; rfl
def wDictQ0 : WE := fun ρ R => R (.dq []) ρ
def oNotInQ : List O → (O → Prop) → Prop
  | [x, .dq ds], R => ∃ es k, tupO x = some es ∧ qL es = some k ∧ R (.fz (.bool (!(inQ ds k))))
  | _, _ => False
def isDq : O → Bool
  | .dq _ => true
  | _ => false
def wMuQ (i : Nat) (ws : List WE) (lm : O → List O → (O → O → Prop) → Prop) : WE := fun ρ R => isDq (nth ρ i) = true ∧ wADs (exs ws) ρ fun ds ρ1 => isDq (nth ρ1 i) = true ∧ lm (nth ρ1 i) (fillA (exs ws) ds ρ1) fun x' z => R z (ρ1.set i x')
def lmQPut : O → List O → (O → O → Prop) → Prop
  | .dq ds, [.fz f, x], R => ∃ es k, tupO x = some es ∧ qL es = some k ∧ inQ ds k = false ∧ ds.length + 1 ≤ szMax ∧ R (.dq (ds ++ [(k, f)])) (.fz .none)
  | _, _, _ => False
theorem inQ_not {ds : List (List Int × PyData)} {k : List Int} (h : inQ ds k = false) : k ∉ ds.map (·.1) := fun z => by
  obtain ⟨p, hp, e⟩ := List.mem_map.mp z
  have : inQ ds k = true := List.any_eq_true.mpr ⟨p, hp, by simp [e]⟩
  rw [h] at this
  cases this
def sPutQ (i : Nat) (we wk : WE) : WS := sDrop (wMuQ i [we, wk] lmQPut)
section
variable {X : Cx} {Z : Ent} {ps : List Nat} {e k : Expr} {x : Str} {pos px p2 : Pos} {we wk : WE}
end
section
variable {w w2 : WE} {i : Nat} {ρ : En} {R : O → En → Prop} {R2 : O → O → Prop} {ds : List (List Int × PyData)} {x : O} {f : PyData} {k : O → Prop}
@[simp] theorem x_sPutQ : sPutQ i w w2 = sDrop (wMuQ i [w, w2] lmQPut) := rfl
@[simp] theorem x_wMuQ {ws : List WE} {lm : O → List O → (O → O → Prop) → Prop} : wMuQ i ws lm ρ R = (isDq (nth ρ i) = true ∧ wADs (exs ws) ρ fun ds ρ1 => isDq (nth ρ1 i) = true ∧ lm (nth ρ1 i) (fillA (exs ws) ds ρ1) fun x' z => R z (ρ1.set i x')) := rfl
@[simp] theorem x_isDq : isDq (.dq ds) = true := rfl
@[simp] theorem x_lmQPut : lmQPut (.dq ds) [.fz f, x] R2 = ∃ es k, tupO x = some es ∧ qL es = some k ∧ inQ ds k = false ∧ ds.length + 1 ≤ szMax ∧ R2 (.dq (ds ++ [(k, f)])) (.fz .none) := rfl
@[simp] theorem x_notInQ : oNotInQ [x, .dq ds] k = ∃ es key, tupO x = some es ∧ qL es = some key ∧ k (.fz (.bool (!(inQ ds key)))) := rfl
@[simp] theorem x_dictQ0 : wDictQ0 ρ R = R (.dq []) ρ := rfl
end
def oSortFO : List O → (O → Prop) → Prop
  | [.fz d], R => ∃ rs : List (List PyData), d = tupM rs ∧ PyData.canLayAll0 (rs.map PyData.tuple) = true ∧ PySem.W.AllAlike (rs.map PyData.tuple) ∧ PySem.W.Sortable (rs.map PyData.tuple) ∧ (∀ d ∈ rs.map PyData.tuple, d.depth ≤ 40) ∧
    ∀ L : List (List PyData), L.Perm rs → L.map PyData.tuple = (rs.map PyData.tuple).mergeSort (PySem.W.dataLe false id) → R (.ol (L.map O.tn))
  | _, _ => False
@[simp] theorem x_oSortFO {d : PyData} {k : O → Prop} : oSortFO [.fz d] k = ∃ rs : List (List PyData), d = tupM rs ∧ PyData.canLayAll0 (rs.map PyData.tuple) = true ∧ PySem.W.AllAlike (rs.map PyData.tuple) ∧ PySem.W.Sortable (rs.map PyData.tuple) ∧ (∀ d ∈ rs.map PyData.tuple, d.depth ≤ 40) ∧
    ∀ L : List (List PyData), L.Perm rs → L.map PyData.tuple = (rs.map PyData.tuple).mergeSort (PySem.W.dataLe false id) → k (.ol (L.map O.tn)) := rfl
end Pt
namespace Pt
open PySem PySem.Spec L2 PyProof.Rows
theorem dqP_at {a : Addr} {ep : Nat} {xs : List (List Int × Addr × Value)} {h1 h2 : Heap} (f : dqP a ep xs h1) (k : ∀ o, h1.get? a = some o → h2.get? a = some o) : dqP a ep xs h2 := by
  obtain ⟨z, o, es, ho, r⟩ := f
  exact ⟨z, o, es, k _ ho, r⟩
theorem dqP_ok {P : Program} {w : World} {H : Hp} {h : Heap} {a : Addr} {ep : Nat} {xs : List (List Int × Addr × Value)} (f : dqP a ep xs h) : L2.ObjOk P w H h a (.ext (dqP a ep xs)) :=
  ⟨f, let ⟨_, o, _, ho, _⟩ := f; ⟨o, ho⟩, fun _ _ f k => dqP_at f k⟩
theorem dqP_of {X : Cx} {pins : List (Addr × Obj)} {σ : L2.St} {H : Hp} {s : Shared} {a : Addr} {ep : Nat} {xs : List (List Int × Addr × Value)} (I : L2.Inv X pins σ H s) (e : H a = some (.ext (dqP a ep xs))) : dqP a ep xs s.heap :=
  (show L2.ObjOk X.prog X.w H s.heap a (.ext (dqP a ep xs)) from I.hok a _ e).1
theorem dn_of {X : Cx} {pins : List (Addr × Obj)} {σ : L2.St} {H : Hp} {s : Shared} {a : Addr} {ep : Nat} {xs : List (List Int × Addr × Value)} {ds : List (List Int × PyData)} (I : L2.Inv X pins σ H s) (e : H a = some (.ext (dqP a ep xs))) (q : DqE X.K H xs ds) (nd : (ds.map (·.1)).Nodup) :
    (a == sysModules) = false ∧ s.heap.DictOfH (tupleKind (mixKind X.prog X.w)) a (xs.map tK) := by
  obtain ⟨z, o, es, h1, h2, h3, h4⟩ := dqP_of I e
  refine ⟨z, o, es, ep, h1, h2, h3, ?_, ?_, ?_⟩
  · rw [h4, List.map_map]
    exact List.map_congr_left fun x _ => (ent_eq x).symm
  · have all : ∀ {xs : List (List Int × Addr × Value)} {ds : List (List Int × PyData)}, DqE X.K H xs ds → ∀ x ∈ xs, (tupleKind (mixKind X.prog X.w)).is s.heap (x.1.map Sum.inl) x.2.1 := by
      intro xs ds q
      induction q with
      | nil => intro x hx; exact nomatch hx
      | cons e r f t ih =>
        intro x hx
        rcases List.mem_cons.mp hx with z | hx
        · subst z
          exact key_ofN I (by rw [kV_ints]; exact e)
        · exact ih x hx
    intro y hy
    obtain ⟨x, hx, rfl⟩ := List.mem_map.mp hy
    exact all q x hx
  · have : (xs.map tK).map (·.1) = (xs.map (·.1)).map (fun k => k.map (Sum.inl : Int → Key)) := by
      rw [List.map_map, List.map_map]
      rfl
    rw [this, q.keys]
    exact nodup_inl nd
def dOf : O → Option (Bool × List (List Int × PyData))
  | .dn v ds => some (v, ds)
  | .dz v ds => some (v, ds)
  | _ => none
section
variable {K : PySem.W.Frag} {B H : Hp}
theorem dOf_ro {x : O} {v : V} {f : List Addr} {p : Bool × List (List Int × PyData)} (s : Sub B H) (r : RO K B H v x f) (h : dOf x = some p) :
    ∃ a ep xs, v = .ref a ∧ H a = some (.ext (dqP a ep xs)) ∧ DqE K B xs p.2 ∧ NdE K B p.1 xs ∧ (p.2.map (·.1)).Nodup := by
  cases r with
  | dn e q n d => cases h; exact ⟨_, _, _, rfl, e, q, n, d⟩
  | dz e q n d => cases h; exact ⟨_, _, _, rfl, s _ _ e, q, n, d⟩
  | _ => cases h
def vO : Bool → PyData → O
  | true, .tuple es => .tn es
  | _, d => .fz d
theorem vO_ro {vt : Bool} {u : Value} {v : V} {d : PyData} (r : RelV v u) (f : RF K B v d) (h : vt = true → ∃ b, u = .ref b ∧ ND K B b) : RO K B H v (vO vt d) [] := by
  cases vt with
  | false => exact .fz f
  | true =>
    cases f with
    | tup e t =>
      obtain ⟨b, rfl, n⟩ := h rfl
      cases r
      exact .tn e n t
    | non => exact .fz .non
    | bl b => exact .fz (.bl b)
    | int i => exact .fz (.int i)
    | str x => exact .fz (.str x)
    | lst e t => exact .fz (.lst e t)
    | dic e t => exact .fz (.dic e t)
    | lm e n t => exact .fz (.lm e n t)
def getQ (ds : List (List Int × PyData)) (k : List Int) : Option PyData := (ds.find? fun p => decide (p.1 = k)).map (·.2)
theorem atK_get (k : List Int) : ∀ {xs : List (List Int × Addr × Value)} {ds : List (List Int × PyData)}, DqE K B xs ds →
    (∀ d, getQ ds k = some d → ∃ x ∈ xs, ∃ v, atKey (xs.map tK) (k.map Sum.inl) = some x.2 ∧ RelV v x.2.2 ∧ RF K B v d) ∧ (getQ ds k = none → atKey (xs.map tK) (k.map Sum.inl) = none)
  | _, _, .nil => ⟨fun d h => (nomatch (show none = some d from h)), fun _ => rfl⟩
  | _, _, .cons (k := k1) (q := q1) (u := u1) (d := d1) (v := v1) (xs := xs) (ds := ds) e r f t => by
    obtain ⟨a, b⟩ := atK_get k t
    by_cases h : k1 = k
    · subst h
      refine ⟨fun d hd => ⟨_, List.mem_cons_self .., v1, ?_, r, ?_⟩, fun hd => ?_⟩
      · simp [atKey, tK]
      · have : some d1 = some d := by simpa [getQ] using hd
        cases this
        exact f
      · simp [getQ] at hd
    · have h' : ¬ (k1.map (Sum.inl : Int → Key)) = k.map Sum.inl := fun z => h (inl_inj z)
      have e1 : atKey (((k1, q1, u1) :: xs).map tK) (k.map Sum.inl) = atKey (xs.map tK) (k.map Sum.inl) := by
        unfold atKey
        rw [List.map_cons, List.find?_cons_of_neg (by show ¬ (decide (k1.map (Sum.inl : Int → Key) = k.map Sum.inl) = true); rw [decide_eq_true_eq]; exact h')]
      have e2 : getQ ((k1, d1) :: ds) k = getQ ds k := by
        unfold getQ
        rw [List.find?_cons_of_neg (by simpa using h)]
      rw [e1, e2]
      refine ⟨fun d hd => ?_, b⟩
      obtain ⟨x, hx, r⟩ := a d hd
      exact ⟨x, List.mem_cons_of_mem _ hx, r⟩
end
def rGetNq (K : PySem.W.Frag) : R2 := fun x y H Q => ∃ (a b : Addr) (ep : Nat) (xs : List (List Int × Addr × Value)) (ds : List (List Int × PyData)) (k : List Int) (p : Addr × Value) (v : V), x = .ref a ∧ y = .ref b ∧ H a = some (.ext (dqP a ep xs)) ∧ DqE K H xs ds ∧ (ds.map (·.1)).Nodup ∧ SqT K H b (k.map V.int) ∧ atKey (xs.map tK) (k.map Sum.inl) = some p ∧ RelV v p.2 ∧ Q v H
theorem ix_N {X : Cx} (hu : X.A.units + 1 < cLine) : IxR X (rGetNq X.K) := by
  intro value slice pins s σ H x y v u Q I rx ry h hs
  obtain ⟨a, b, ep, xs, ds, k, p, z, rfl, rfl, hd, hq, nd, hb, hp, rv, q⟩ := h
  cases rx
  cases ry
  obtain ⟨_, dd⟩ := dn_of I hd hq nd
  exact tail_any dd.typeIs slot_dict_getitem.lookup (wpAny_getItem_heap (tupleKind_room_in1 hu) (key_ofN I (ks := k.map Sum.inl) (by rw [kV_ints]; exact hb)) dd hp ⟨z, H, I.tok _, rv, q⟩) hs
def oNGet : List O → (O → Prop) → Prop
  | [x, y], R => ∃ p es k d, dOf x = some p ∧ tupO y = some es ∧ qL es = some k ∧ getQ p.2 k = some d ∧ R (vO p.1 d)
  | _, _ => False
theorem rd_nGet {K : PySem.W.Frag} : Rd K (r2L (rGetNq K)) oNGet := fun B H vs xs f R Q s rr h q => by
  unfold oNGet at h
  split at h
  · obtain ⟨p, es, k, d, hx, hy, hk, hg, hR⟩ := h
    obtain ⟨v, w, _, _, rfl, r1, r2⟩ := ros2 rr
    obtain ⟨b, us, rfl, hsq, hus⟩ := tupO_sq s r2 hy
    rw [qL_rf hus hk] at hsq
    obtain ⟨a, ep, xs, rfl, he, hq, hn, hnd⟩ := dOf_ro s r1 hx
    obtain ⟨x, hm, z, e1, e2, e3⟩ := (atK_get k hq).1 d hg
    exact ⟨a, b, ep, xs, _, k, x.2, z, rfl, rfl, he, hq.mono s, hnd, hsq, e1, e2, q _ hR _ B H ⟨[], Nxt.refl _ _ _, vO_ro e2 e3 (hn x hm).2, List.nodup_nil, fun _ h => (List.not_mem_nil h).elim, s⟩⟩
  · exact h.elim
def rGet2Nq (K : PySem.W.Frag) : V → List V → Hp → VK → Prop := fun x ys H Q => ∃ (a b : Addr) (ep : Nat) (xs : List (List Int × Addr × Value)) (ds : List (List Int × PyData)) (k : List Int) (z : V), x = .ref a ∧ ys = [.ref b, z] ∧ H a = some (.ext (dqP a ep xs)) ∧ DqE K H xs ds ∧ (ds.map (·.1)).Nodup ∧ SqT K H b (k.map V.int) ∧
  ((∃ p v, atKey (xs.map tK) (k.map Sum.inl) = some p ∧ RelV v p.2 ∧ Q v H) ∨ (atKey (xs.map tK) (k.map Sum.inl) = none ∧ Q z H))
theorem mt_get2N {X : Cx} (hu : X.A.units + 1 < cLine) : MtR X "dict.get" (rGet2Nq X.K) := by
  intro pins s σ H x xs v us Q I rx rxs h
  obtain ⟨a, b, ep, ys, ds, k, z, rfl, rfl, hd, hq, nd, hb, q⟩ := h
  cases rx
  cases rxs with
  | cons ry t =>
    cases t with
    | cons rz t2 =>
      cases t2
      cases ry
      obtain ⟨hs, dd⟩ := dn_of I hd hq nd
      refine call_meetsIn PySem.F.slot_dict_get dd.typeIs PySem.F.entry_dict_get (PySem.F.args_dict_get_3 _ _ _) (meetsH_dict_get_default (tupleKind (mixKind X.prog X.w)) a b hs _) ⟨tupleKind_room_in1 hu, k.map Sum.inl, ys.map tK, key_ofN I (by rw [kV_ints]; exact hb), dd, ?_⟩
      rcases q with ⟨p, u, e1, e2, q⟩ | ⟨e1, q⟩
      · rw [e1]
        exact ⟨u, H, I.tok _, e2, q⟩
      · rw [e1]
        exact ⟨z, H, I.tok _, rz, q⟩
def oNGet2 : List O → (O → Prop) → Prop
  | [x, y, .fz z], R => ∃ p es k, dOf x = some p ∧ tupO y = some es ∧ qL es = some k ∧ p.1 = false ∧ R (.fz ((getQ p.2 k).getD z))
  | _, _ => False
theorem rd_nGet2 {K : PySem.W.Frag} : Rd K (rML (rGet2Nq K)) oNGet2 := fun B H vs xs f R Q s rr h q => by
  unfold oNGet2 at h
  split at h
  · obtain ⟨p, es, k, hx, hy, hk, hf, hR⟩ := h
    cases rr with
    | cons r1 t =>
      cases t with
      | cons r2 t =>
        cases t with
        | cons r3 t =>
          cases t
          obtain ⟨b, us, rfl, hsq, hus⟩ := tupO_sq s r2 hy
          rw [qL_rf hus hk] at hsq
          obtain ⟨a, ep, xs, rfl, he, hq, hn, hnd⟩ := dOf_ro s r1 hx
          cases r3 with
          | fz r3 =>
            refine ⟨a, b, ep, xs, _, k, _, rfl, rfl, he, hq.mono s, hnd, hsq, ?_⟩
            cases hg : getQ p.2 k with
            | none =>
              rw [hg] at hR
              exact .inr ⟨(atK_get k hq).2 hg, q _ hR _ B H (Out.here r3 s)⟩
            | some d =>
              rw [hg] at hR
              obtain ⟨x, hm, z, e1, e2, e3⟩ := (atK_get k hq).1 d hg
              exact .inl ⟨x.2, z, e1, e2, q _ hR _ B H (Out.here e3 s)⟩
  · exact h.elim
def tyQ (x : V) (H : Hp) : Prop := ∃ a ep xs, x = .ref a ∧ H a = some (.ext (dqP a ep xs))
section
variable {X : Cx} {Z : Ent} {o e : Expr} {es : List Expr} {name x : Str} {apos cpos pos : Pos} {id : String} {as : List AD} {op : List O → (O → Prop) → Prop} {r : V → List V → Hp → VK → Prop} {to : TE} {t : TA}
theorem tyQ_is {pins : List (Addr × Obj)} {σ : L2.St} {H : Hp} {s : Shared} {x : V} {v : Value} (I : L2.Inv X pins σ H s) (r : RelV x v) (ty : tyQ x H) :
    s.TypeIs v "dict" ∧ ∀ a, v = .ref a → ∃ ob, s.heap.get? a = some ob ∧ ob.dict = none := by
  obtain ⟨a, ep, xs, rfl, d⟩ := ty
  obtain rfl := (show v = Value.ref a from r)
  obtain ⟨_, o, es, h1, h2, _⟩ := dqP_of I d
  exact ⟨⟨o, h1, h2.1⟩, fun b z => by cases z; exact ⟨o, h1, h2.2.1⟩⟩
def tBMQ (r : V → List V → Hp → VK → Prop) (to : TE) (t : TA) : TE := fun σ H Q => to σ H fun x H1 => tyQ x H1 ∧ t σ H1 fun xs H2 => r x xs H2 Q
theorem pe_bmQ (slot : Slot "dict" name id) (hty : typeOf (.builtin id) = pure (.type "method_descriptor")) (hm : MtR X id r) (ho : PE X o to) (ha : PA X (e :: es) t)
    (hbase : attributeBase o name X.env (eval o X.env) = eval o X.env := by rfl)
    (hfew : ((backTo cpos (starEach (e :: es) X.env)).all (fun x => !x.1) && (backToKw cpos (keywordEach [] X.env)).all (fun x => x.1.isSome) && decide ((e :: es).length + ([] : List Keyword).length + (if ([] : List Keyword).isEmpty then 0 else 1) < 30)) = true := by rfl)
    (hline : (apos.endLine == cpos.line) = true := by rfl) (hs : starEach (e :: es) X.env = (false, eval e X.env) :: starEach es X.env := by rfl) (hplain : (backTo cpos (starEach es X.env)).any (·.1) = false := by rfl) :
    PE X (.Call (.Attribute o name apos) (e :: es) [] cpos) (tBMQ r to t) := by
  refine ⟨fun pins s σ H Q I h => ?_⟩
  refine wpAny_Call_method_late hbase hfew hline rfl (thn (ho.run pins s σ H _ I h) fun v s1 ⟨x, H1, I1, r1, ty, q1⟩ => ?_)
  obtain ⟨h1, h2⟩ := tyQ_is I1 r1 ty
  refine ⟨"dict", id, PySem.F.plainAttrs_dict, slot, hty, h1, h2, ?_⟩
  have hA := ha.run cpos pins s1 σ H1 _ I1 q1
  rw [hs] at hA ⊢
  exact Calls.callWith_builtin (by show (false || (backTo cpos (starEach es X.env)).any (·.1)) = false; rw [hplain]; rfl) (Calls.evalArgs_plain (thn hA fun us s2 ⟨vs, H2, I2, r2, q2⟩ => hm pins s2 σ H2 x vs v us Q I2 r1 r2 q2))
def wRmQ (i : Nat) (as : List AD) (op : List O → (O → Prop) → Prop) : WE := fun ρ R => (dOf (nth ρ i)).isSome = true ∧ wADs (.nm i :: as) ρ fun ds ρ1 => op (fillA (.nm i :: as) ds ρ1) fun z => R z ρ1
theorem rmQ_ok {K : PySem.W.Frag} {i : Nat} {σ : L2.St} {H : Hp} {Q : VK} (hr : Rd K (rML r) op) (h : tE K Z (wRmQ i as op) σ H Q) : tBMQ r (tVar i) (tADs K Z as) σ H Q := by
  obtain ⟨B, ρ, fp, R, k, ⟨hT, h⟩, q⟩ := h
  have hx : nth ρ i ≠ .hid := fun e => by rw [e] at hT; cases hT
  obtain ⟨v, f, e, rv, hs⟩ := k.slot rfl hx
  have hg : tADs K Z (.nm i :: as) σ H fun vs H1 => rML r vs H1 Q := rd_glue hr ⟨B, ρ, fp, R, k, h, q⟩
  obtain ⟨v2, e2, hg⟩ := hg
  rw [e] at e2
  have e3 := Option.some.inj (Option.some.inj e2)
  subst e3
  obtain ⟨p, hp⟩ := Option.isSome_iff_exists.mp hT
  obtain ⟨a, ep, xs, e4, e5, _⟩ := dOf_ro k.sub rv hp
  exact ⟨v, e, ⟨a, ep, xs, e4, e5⟩, hg⟩
theorem e_rmQ (i : Nat) (slot : Slot "dict" name id) (hty : typeOf (.builtin id) = pure (.type "method_descriptor")) (hm : MtR X id r) (hr : Rd X.K (rML r) op) (ha : PA X (e :: es) (tADs X.K Z as))
    (hN : X.N[i]? = some x := by rfl) (hv : Vis X.env.scope x := by first | exact Or.inl rfl | exact Or.inr (Or.inl rfl) | exact Or.inr (Or.inr rfl)) (hd : (x == ("__debug__" : Str)) = false := by decide) (hcd : (x == ("__classdict__" : Str)) = false := by decide)
    (hfew : ((backTo cpos (starEach (e :: es) X.env)).all (fun x => !x.1) && (backToKw cpos (keywordEach [] X.env)).all (fun x => x.1.isSome) && decide ((e :: es).length + ([] : List Keyword).length + (if ([] : List Keyword).isEmpty then 0 else 1) < 30)) = true := by rfl)
    (hline : (apos.endLine == cpos.line) = true := by rfl) (hs : starEach (e :: es) X.env = (false, eval e X.env) :: starEach es X.env := by rfl) (hplain : (backTo cpos (starEach es X.env)).any (·.1) = false := by rfl) :
    PE X (.Call (.Attribute (.Name x pos) name apos) (e :: es) [] cpos) (tE X.K Z (wRmQ i as op)) := pe_to (pe_bmQ slot hty hm (pe_var hN hv hd hcd) ha rfl hfew hline hs hplain) fun σ H Q q => rmQ_ok hr q
end
def wDictN0 : WE := fun ρ R => R (.dn false []) ρ
def tDNewN : TE := fun _ H Q => ∀ p, H p = none → Q (.ref p) (upd H p (.ext (dqP p 0 [])))
theorem dqP_new {h : Heap} (hb : sysModules < h.objs.size) : dqP h.objs.size 0 [] (h.push { cls := .type "dict", data := .dict #[] }) :=
  ⟨beq_eq_false_iff_ne.mpr (Ne.symm (Nat.ne_of_lt hb)), _, #[], Heap.get?_push_size _ rfl, ⟨rfl, rfl, rfl⟩, rfl, rfl⟩
theorem pe_dnewN {X : Cx} {pos : Pos} : PE X (.Dict [] [] pos) tDNewN := ⟨fun pins s σ H Q I h =>
  wpAny_Dict_empty ⟨.ref s.heap.objs.size, _, I.laid (a := s.heap.objs.size) (o := .ext (dqP s.heap.objs.size 0 [])) (t' := s.toks) (fun _ _ q => Heap.get?_push_of_some _ q) (Nat.le_refl _) (dqP_ok (dqP_new I.big)), rfl, h _ (I.hok.fresh (Nat.le_refl _))⟩⟩
theorem e_dictN0 {X : Cx} {Z : Ent} {pos : Pos} : PE X (.Dict [] [] pos) (tE X.K Z wDictN0) := pe_to pe_dnewN fun σ H Q h p hp => by
  obtain ⟨B, ρ, fp, R, k, h, q⟩ := h
  have o : Out X.K B H (.ref p) (.dn false []) B (upd H p (.ext (dqP p 0 []))) := ⟨[p], Nxt.alloc hp, .dn (xs := []) upd_same .nil (fun x hx => nomatch hx) List.nodup_nil, List.nodup_cons.mpr ⟨List.not_mem_nil, List.nodup_nil⟩, fun a ha => by rw [List.mem_singleton.mp ha]; exact k.sub.free hp, k.sub.updR (k.sub.free hp)⟩
  obtain ⟨g, k2, n⟩ := o.ok k
  exact q _ ρ h _ _ B g n k2
def stN (xs : List (List Int × Addr × Value)) (k : List Int) (b : Addr) (u : Value) : List (List Int × Addr × Value) := if (xs.any fun x => decide (x.1 = k)) = true then xs.map (fun x => if x.1 = k then (x.1, x.2.1, u) else x) else xs ++ [(k, b, u)]
def putQ (ds : List (List Int × PyData)) (k : List Int) (f : PyData) : List (List Int × PyData) := if inQ ds k = true then ds.map (fun p => if p.1 = k then (p.1, f) else p) else ds ++ [(k, f)]
theorem any_keys {K : PySem.W.Frag} {B : Hp} {xs : List (List Int × Addr × Value)} {ds : List (List Int × PyData)} (q : DqE K B xs ds) (k : List Int) : (xs.any fun x => decide (x.1 = k)) = inQ ds k := by
  have h1 : (xs.any fun x => decide (x.1 = k)) = (xs.map (·.1)).any fun x => decide (x = k) := by rw [List.any_map]; rfl
  have h2 : inQ ds k = (ds.map (·.1)).any fun x => decide (x = k) := by unfold inQ; rw [List.any_map]; rfl
  rw [h1, h2, q.keys]
theorem stN_key {P : Program} {w : World} {K : PySem.W.Frag} {B : Hp} {xs : List (List Int × Addr × Value)} {ds : List (List Int × PyData)} (q : DqE K B xs ds) (k : List Int) (b : Addr) (u : Value) : storedH (xs.map tK) (k.map (Sum.inl : Int → Key)) b u = (stN xs k b u).map tK := by
  have h1 := atK_in k q
  rw [← any_keys q k] at h1
  unfold storedH stN
  rw [h1]
  by_cases h : (xs.any fun x => decide (x.1 = k)) = true
  · rw [if_pos h, if_pos h, List.map_map, List.map_map]
    refine List.map_congr_left fun x _ => ?_
    show putAt (k.map Sum.inl) u (tK x) = tK (if x.1 = k then (x.1, x.2.1, u) else x)
    unfold putAt
    by_cases hk : x.1 = k
    · rw [if_pos (show (tK x).1 = _ by rw [← hk]; rfl), if_pos hk]
      rfl
    · rw [if_neg (show ¬ (tK x).1 = _ from fun z => hk (inl_inj z)), if_neg hk]
  · rw [if_neg h, if_neg h, List.map_append]
    rfl
theorem rep_dq {K : PySem.W.Frag} {B : Hp} {k : List Int} {u : Value} {v : V} {f : PyData} (r : RelV v u) (rf : RF K B v f) : ∀ {xs : List (List Int × Addr × Value)} {ds : List (List Int × PyData)}, DqE K B xs ds → DqE K B (xs.map fun x => if x.1 = k then (x.1, x.2.1, u) else x) (ds.map fun p => if p.1 = k then (p.1, f) else p)
  | _, _, .nil => .nil
  | _, _, .cons (k := k1) e r1 f1 t => by
    rw [List.map_cons, List.map_cons]
    by_cases h : k1 = k
    · rw [if_pos h, if_pos h]
      exact .cons e r rf (rep_dq r rf t)
    · rw [if_neg h, if_neg h]
      exact .cons e r1 f1 (rep_dq r rf t)
theorem put_dq {K : PySem.W.Frag} {B : Hp} {k : List Int} {b : Addr} {u : Value} {v : V} {f : PyData} {xs : List (List Int × Addr × Value)} {ds : List (List Int × PyData)} (q : DqE K B xs ds) (e : SqT K B b (k.map V.int)) (r : RelV v u) (rf : RF K B v f) : DqE K B (stN xs k b u) (putQ ds k f) := by
  unfold stN putQ
  rw [any_keys q]
  split
  · exact rep_dq r rf q
  · exact q.snoc e r rf
theorem put_nd {K : PySem.W.Frag} {B : Hp} {k : List Int} {b : Addr} {u : Value} {xs : List (List Int × Addr × Value)} (h : NdE K B false xs) (hb : ND K B b) : NdE K B false (stN xs k b u) := by
  intro x hx
  refine ⟨?_, fun z => nomatch z⟩
  unfold stN at hx
  split at hx
  · obtain ⟨y, hy, rfl⟩ := List.mem_map.mp hx
    have := (h y hy).1
    split
    · exact this
    · exact this
  · rcases List.mem_append.mp hx with hx | hx
    · exact (h x hx).1
    · rw [List.mem_singleton.mp hx]
      exact hb
theorem put_keys (ds : List (List Int × PyData)) (k : List Int) (f : PyData) : (putQ ds k f).map (·.1) = if inQ ds k = true then ds.map (·.1) else ds.map (·.1) ++ [k] := by
  unfold putQ
  split
  · rw [List.map_map]
    refine List.map_congr_left fun p _ => ?_
    show (if p.1 = k then (p.1, f) else p).1 = p.1
    split <;> rfl
  · rw [List.map_append]
    rfl
theorem put_nodup {ds : List (List Int × PyData)} {k : List Int} {f : PyData} (h : (ds.map (·.1)).Nodup) : ((putQ ds k f).map (·.1)).Nodup := by
  rw [put_keys]
  split
  · exact h
  · rename_i hn
    refine List.nodup_append.mpr ⟨h, List.nodup_cons.mpr ⟨List.not_mem_nil, List.nodup_nil⟩, fun a ha b hb e => ?_⟩
    rw [List.mem_singleton.mp hb] at e
    rw [e] at ha
    exact inQ_not (by simpa using hn) ha
def rDSetN (K : PySem.W.Frag) : V → List V → Hp → VK → Prop := fun x ys H Q => ∃ (a b : Addr) (ep : Nat) (xs : List (List Int × Addr × Value)) (ds : List (List Int × PyData)) (k : List Int) (v : V), x = .ref a ∧ ys = [v, .ref b] ∧ H a = some (.ext (dqP a ep xs)) ∧ DqE K H xs ds ∧ (ds.map (·.1)).Nodup ∧ SqT K H b (k.map V.int) ∧ ds.length < sizeLine ∧ ∀ u ep', RelV v u → Q .non (upd H a (.ext (dqP a ep' (stN xs k b u))))
def rSetN (K : PySem.W.Frag) : TSet := fun o i v H Q => ∃ (a b : Addr) (ep : Nat) (xs : List (List Int × Addr × Value)) (ds : List (List Int × PyData)) (k : List Int), o = .ref a ∧ i = .ref b ∧ H a = some (.ext (dqP a ep xs)) ∧ DqE K H xs ds ∧ (ds.map (·.1)).Nodup ∧ SqT K H b (k.map V.int) ∧ ds.length < sizeLine ∧ ∀ u ep', RelV v u → Q (upd H a (.ext (dqP a ep' (stN xs k b u))))
theorem set_dictN {X : Cx} (hu : X.A.units + 1 < cLine) : PSet X (rSetN X.K) := by
  intro pins s σ H o i v ov iv u Q I ro ri rv h
  obtain ⟨a, b, ep0, xs, ds, k, rfl, rfl, hd, hq, nd, hb, hz, q⟩ := h
  cases (show ov = Value.ref a from ro)
  cases (show iv = Value.ref b from ri)
  obtain ⟨z, dd⟩ := dn_of I hd hq nd
  have hl : xs.length = ds.length := by simpa using congrArg List.length hq.keys
  have hz' : (xs.map tK).length ≤ sizeLine := by rw [List.length_map]; omega
  refine wpAny_setItem_heap (hsz := hz') (tupleKind_room_in1 hu) (key_ofN I (ks := k.map Sum.inl) (by rw [kV_ints]; exact hb)) dd fun h' dd' hs => ?_
  rw [stN_key (P := X.prog) (w := X.w) hq] at dd'
  obtain ⟨o, es, ep, h1, h2, h3, h4, _, _⟩ := dd'
  refine ⟨_, ?_, q u ep rv⟩
  refine d_write I (by rw [hd]; exact True.intro) hs ⟨o, h1⟩ (dqP_ok ⟨z, o, es, h1, h2, h3, ?_⟩)
  rw [h4, List.map_map]
  exact List.map_congr_left fun x _ => ent_eq x
def isDn : O → Bool
  | .dn _ _ => true
  | _ => false
theorem isRefN {K : PySem.W.Frag} {B H : Hp} {v : V} {x : O} {f : List Addr} (r : RO K B H v x f) (h : isDn x = true) : ∃ q f', v = .ref q ∧ f = q :: f' := by
  cases r with
  | dn e _ _ _ => exact ⟨_, _, rfl, rfl⟩
  | _ => cases h
def wMuN (i : Nat) (ws : List WE) (lm : O → List O → (O → O → Prop) → Prop) : WE := fun ρ R => isDn (nth ρ i) = true ∧ wADs (exs ws) ρ fun ds ρ1 => isDn (nth ρ1 i) = true ∧ lm (nth ρ1 i) (fillA (exs ws) ds ρ1) fun x' z => R z (ρ1.set i x')
theorem mu_glueN {K : PySem.W.Frag} {Z : Ent} {σ : L2.St} {H : Hp} {Q : VK} {i : Nat} {ws : List WE} {lm : O → List O → (O → O → Prop) → Prop} {r : V → List V → Hp → VK → Prop} (hm : LMu K r lm) (h : tE K Z (wMuN i ws lm) σ H Q) : ∃ v, σ[i]? = some (some v) ∧ tADs K Z (exs ws) σ H fun vs H1 => r v vs H1 Q := by
  obtain ⟨B, ρ, fp, R, k, ⟨hT, h⟩, q⟩ := h
  have hx : nth ρ i ≠ .hid := fun e => by
    rw [e] at hT
    cases hT
  obtain ⟨v, f, e, rv, hs⟩ := k.slot rfl hx
  refine ⟨v, e, args_ok (exs ws) k h fun ds ρ1 h1 vs τ xs H1 B1 fp1 g n1 k1 => ?_⟩
  obtain ⟨hL, h2⟩ := h1
  have hx1 : nth ρ1 i ≠ .hid := fun e => by rw [e] at hL; cases hL
  obtain ⟨v', f1, f2, f3, e', r1, r2, k3, nd, hs3, hh⟩ := k1.outA g.len hx1
  rw [e] at e'
  have e2 : v = v' := Option.some.inj (Option.some.inj e')
  subst e2
  obtain ⟨q1, f1', rfl, rfl⟩ := isRefN r1 hL
  obtain ⟨ev, ef⟩ := got_exs g rfl
  rw [ev] at r2
  rw [ef ρ1] at h2
  obtain ⟨n12, n3, n123⟩ := List.nodup_append.mp nd
  have kall : Ok K Z B1 H1 ((some (.ref q1) :: τ) ++ σ) ((nth ρ1 i :: xs) ++ ρ1.set i .hid) ((q1 :: f1') ++ f2 ++ f3) := by
    refine ⟨k1.sub, fun j z => ?_, ?_, nd, fun a ha => k1.out a (hs3 a ha), k1.nx.less hs3⟩
    · by_cases hj : j < (some (V.ref q1) :: τ).length
      · exfalso
        rw [List.getElem?_append_left hj] at z
        cases j with
        | zero => cases z
        | succ j =>
          have hl := g.len
          have z' : (τ[j]? : Option (Option V)) = some none := z
          have := k1.un j (by rw [List.getElem?_append_left (by exact (List.getElem?_eq_some_iff.mp z').1)]; exact z')
          have gn : ∀ {as : List AD} {vs : List V} {ds : List (Option O)} {τ : L2.St} {xs : List O}, Got σ as vs ds τ xs → ∀ j : Nat, (τ[j]? : Option (Option V)) ≠ some none := fun g => by
            induction g with
            | nil => intro j z; cases z
            | ex g ih =>
              intro j z
              cases j with
              | zero => cases z
              | succ j => exact ih j z
            | nm _ g ih => exact ih
          exact gn g j z'
      · rw [List.getElem?_append_right (by omega)] at z
        have hl := g.len
        rw [List.getElem?_append_right (by rw [List.length_cons] at hj ⊢; omega)]
        have := k3.un _ z
        rw [List.length_cons] at this ⊢
        rw [← hl]
        exact this
    · rw [valsOf_append, valsOf_cons, ev]
      exact (ROs.cons r1 r2).append k3.rs
  refine hm B1 H1 q1 _ vs xs f1' f2 _ _ k1.sub r1 r2 n12 h2 fun x' z hR u o' f' fz w1 w2 nd' hs' => ?_
  have hw := Ok.write (τ := some (.ref q1) :: τ) (xs := nth ρ1 i :: xs) (τ' := [some u, some (.ref q1)]) (xs' := [z, x']) (p := q1) (o' := o') (f1 := (q1 :: f1') ++ f2) (f2 := f3) (f3 := fz ++ ((q1 :: f') ++ [])) kall k3 (List.mem_cons_self ..)
    (.cons w2 (.cons w1 .nil)) (fun a ha => by
      rw [List.append_nil] at ha
      refine hs' a ?_
      rcases List.mem_append.mp ha with z | z
      · exact List.mem_append_right _ z
      · exact List.mem_append_left _ z) (by rw [List.append_nil]; exact (List.perm_append_comm.nodup nd')) (fun j z => by
      cases j with
      | zero => cases z
      | succ j => cases j <;> cases z) rfl
  have hw1 : Ok K Z B1 (upd H1 q1 o') (some u :: some (.ref q1) :: σ) (z :: x' :: ρ1.set i .hid) (fz ++ ((q1 :: f') ++ []) ++ f3) := hw.1
  obtain ⟨f5, k5, hs5⟩ := Ok.back2 hw1 e hh
  rw [List.set_set] at k5
  exact q z _ hR u _ B1 f5 ((n1.trans ((Nxt.self hs3).trans hw.2)).less hs5) k5
def lmNPut : O → List O → (O → O → Prop) → Prop
  | .dn false ds, [.fz f, .tn es], R => ∃ k, qL es = some k ∧ ds.length + 1 ≤ szMax ∧ R (.dn false (putQ ds k f)) (.fz .none)
  | _, _, _ => False
theorem lm_nput {K : PySem.W.Frag} : LMu K (rDSetN K) lmNPut := fun B H q x vs xs fx fa R Q s r rr nd h k => by
  unfold lmNPut at h
  split at h
  · obtain ⟨key, hk, hsz, hR⟩ := h
    obtain ⟨v, w, _, _, rfl, r1, r2⟩ := ros2 rr
    cases r2 with
    | tn hsq hnD hus =>
      rw [qL_rf hus hk] at hsq
      cases r1 with
      | fz r1 =>
        cases r with
        | dn hp hq hne hnd =>
          have hsz2 := szOk hsz
          refine ⟨q, _, _, _, _, key, v, rfl, rfl, hp, hq.mono s, hnd, s.sqT hsq, by omega, fun u ep' hu => ?_⟩
          refine k _ _ hR .non _ [] [] (.dn upd_same (put_dq hq hsq hu r1) (put_nd hne hnD) (put_nodup hnd)) (.fz .non) (by simp) fun a ha => ?_
          simp at ha
          rw [ha]
          exact List.mem_append_left _ (List.mem_cons_self ..)
  · exact h.elim
def sPutN (i : Nat) (we wk : WE) : WS := sDrop (wMuN i [we, wk] lmNPut)
section
variable {X : Cx} {Z : Ent} {ps : List Nat} {e k : Expr} {x : Str} {pos px p2 : Pos} {we wk : WE}
theorem s_putN (i : Nat) (hu : X.A.units + 1 < cLine) (he : PE X e (tE X.K Z we)) (hk : PE X k (tE X.K Z wk)) (hN : X.N[i]? = some x := by rfl) (hv : Vis X.env.scope x := by first | exact Or.inl rfl | exact Or.inr (Or.inl rfl) | exact Or.inr (Or.inr rfl)) (hd : (x == ("__debug__" : Str)) = false := by decide) (hcd : (x == ("__classdict__" : Str)) = false := by decide)
    (ha : ∀ v, assign (.Subscript (.Name x px) k p2) X.env v = (do let ov ← holding [v] (eval (.Name x px) X.env); let iv ← holding [v, ov] (eval k X.env); standAt p2; holding [v, ov, iv] (setItem ov iv v); release [v, ov, iv] []) := by intro _; rfl)
    (hs : swapsWithSole [.Subscript (.Name x px) k p2] e pos.line X.env = pure false := by rfl) (hw : swappedStores [.Subscript (.Name x px) k p2] e X.env = pure none := by rfl) (h1 : (assignEach [.Subscript (.Name x px) k p2] X.env).map (·.2) = [assign (.Subscript (.Name x px) k p2) X.env] := by rfl) :
    PS X (.Assign [.Subscript (.Name x px) k p2] e pos) (tS X.K Z ps (sPutN i we wk)) :=
  ps_to (ps_asg he (pg_sub (pe_var hN hv hd hcd) hk (set_dictN hu) ha) hs hw h1) fun D σ H q => by
    obtain ⟨B, ρ, fp, E, kk, q, p⟩ := q
    have z : tE X.K Z (wMuN i [we, wk] lmNPut) σ H fun _ H' => D.nx σ H' := ⟨B, ρ, fp, _, kk, q, fun d ρ' h1 v H' B' fp' n k1 => by
      obtain ⟨f2, k2, hs⟩ := k1.drop1
      exact p.nx ρ' h1 σ H' B' f2 (n.less hs) k2 (Pin.refl _ _)⟩
    obtain ⟨v, e1, z2⟩ := mu_glueN lm_nput z
    obtain ⟨B0, ρ0, f0, R0, k0, a0, b0⟩ := z2
    refine ⟨B0, ρ0, f0, R0, k0, a0, fun d ρ' h v' H' B' fp' n k1 => ⟨v, e1, ?_⟩⟩
    obtain ⟨B2, ρ2, f2, R2, k2, a2, b2⟩ := b0 d ρ' h v' H' B' fp' n k1
    refine ⟨B2, ρ2, f2, R2, k2, a2, fun d2 ρ3 h3 v2 H3 B3 f3 n3 k3 => ?_⟩
    obtain ⟨a, b, ep, xs, ds, key, v5, rfl, ex, hH, hb, hnd, hsq, hsz, hQ⟩ := b2 d2 ρ3 h3 v2 H3 B3 f3 n3 k3
    obtain ⟨rfl, rfl⟩ : v' = v5 ∧ v2 = .ref b := by simpa using ex
    exact ⟨a, b, ep, xs, ds, key, rfl, rfl, hH, hb, hnd, hsq, hsz, hQ⟩
end
def wFzN (w : WE) : WE := fun ρ R => w ρ fun d ρ1 => ∃ vt ds, d = .dn vt ds ∧ R (.dz vt ds) ρ1
section
variable {K : PySem.W.Frag} {Z : Ent} {B H : Hp} {v : V} {σ : L2.St} {ρ : En} {fp : List Addr}
theorem Ok.frN {vt : Bool} {ds : List (List Int × PyData)} (k : Ok K Z B H (some v :: σ) (.dn vt ds :: ρ) fp) : ∃ B' f2, Nxt B H fp B' H f2 ∧ Ok K Z B' H (some v :: σ) (.dz vt ds :: ρ) f2 := by
  obtain ⟨f1, f2, rfl, r, k2, fr⟩ := Ok.frame (τ := [some v]) (xs := [.dn vt ds]) k rfl
  obtain ⟨n1, n2, n3⟩ := List.nodup_append.mp k.nd
  rw [show valsOf [some v] = [v] from rfl] at r
  cases r with
  | @cons _ _ _ _ g1 g2 r t =>
    cases t
    rw [List.append_nil] at *
    have n : Nxt B H (g1 ++ f2) (addB B H g1) H f2 := Nxt.addB k.sub r.liveP (fun a ha => List.mem_append_left _ ha) (fun a ha => List.mem_append_right _ ha)
    refine ⟨addB B H g1, f2, n, ?_⟩
    have k3 : Ok K Z (addB B H g1) H σ ρ f2 := ⟨fun a o e => ?_, k2.un, k2.rs.next (k.sub.addB g1) fun _ _ _ e _ => e, k2.nd, fun a ha => ?_, k.nx.trans n⟩
    · cases r with
      | @dn a ep xs _ _ e q d nd =>
        have eB : addB B H [a] a = some (.ext (dqP a ep xs)) := by
          unfold addB
          rw [if_pos (List.mem_cons_self ..)]
          exact e
        refine ⟨k3.sub, fun i e => ?_, .cons (f1 := []) (.dz eB (q.mono (k.sub.addB _)) (d.mono (k.sub.addB _)) nd) k3.rs, k3.nd, k3.out, k3.nx⟩
        cases i with
        | zero => cases e
        | succ i => exact k3.un i e
    · unfold addB at e
      split at e
      · exact e
      · exact k.sub a o e
    · unfold addB
      rw [if_neg fun h => n3 a h a ha rfl]
      exact k2.out a ha
theorem fn_ok {w : WE} {Q : VK} (h : tE K Z (wFzN w) σ H Q) : tE K Z w σ H Q := by
  obtain ⟨B, ρ, fp, R, k, h, q⟩ := h
  refine ⟨B, ρ, fp, _, k, h, fun d ρ' h1 v H' B' fp' n k1 => ?_⟩
  obtain ⟨vt, ds, rfl, h2⟩ := h1
  obtain ⟨B2, f2, n2, k2⟩ := k1.frN
  exact q _ ρ' h2 v H' B2 f2 (n.trans n2) k2
end
theorem e_fzN {X : Cx} {Z : Ent} {e : Expr} {w : WE} (h : PE X e (tE X.K Z w)) : PE X e (tE X.K Z (wFzN w)) := pe_to h fun _ _ _ q => fn_ok q
def Itq (d : Addr) (ep : Nat) (xs : List (List Int × Addr × Value)) : It :=
  ⟨fun i H => H d = some (.ext (dqP d ep xs)) ∧ i < xs.length, fun i H x H' => H' = H ∧ ∃ y, xs[i]? = some y ∧ x = .ref y.2.1, fun i H => H d = some (.ext (dqP d ep xs)) ∧ xs.length ≤ i⟩
theorem turn_keysQ {P : Program} {w : World} {K : PySem.W.Frag} {tg : Expr} {d : Addr} {ep : Nat} {xs : List (List Int × Addr × Value)} (it : Addr) : L2.Turn P w K tg (Itq d ep xs) [it] it (fun i h => h.IsKeyIter it d i xs.length ep) where
  mem := by simp
  obj := fun i h st b hb => by
    have e : b = it := by simpa using hb
    subst e
    obtain ⟨oi, e, c, dd⟩ := st
    exact ⟨oi, e, fun v z => by rw [dd] at z; cases z⟩
  keep := fun i h h' st k => st.at fun oi e => k it (by simp) oi e
  item := by
    intro X hP hw hK hc i pins s σ H E I hf st hg
    subst hP hw hK
    obtain ⟨hd, hi⟩ := hg
    obtain ⟨f0, f1, f2, f3, f4, f5⟩ := hf it (by simp)
    obtain ⟨hs, o, es, hgd, hx, hdt, hes⟩ := dqP_of I hd
    have hsz : es.size = xs.length := by simpa using congrArg List.length hes
    have hen : es[i]? = some { hash := hI (xs[i]).1, key := .ref (xs[i]).2.1, val := (xs[i]).2.2 } := by
      rw [← Array.getElem?_toList, hes, List.getElem?_map, List.getElem?_eq_getElem hi]
      rfl
    refine next_key_item st hgd hdt hsz hen fun h' st' sb => ?_
    have I1 : L2.Inv X pins σ H { s with heap := h' } := I.turned (t' := s.toks) (fun b ob hb e => (sb.2 b hb).trans e) f0 f1 f3 f4 f5
    obtain ⟨oi, e, c, dd⟩ := id st'
    exact ⟨_, rfl, go_of (s := { s with heap := h' }) e c dd (by decide) ⟨.ref (xs[i]).2.1, H, I1, rfl, ⟨rfl, _, List.getElem?_eq_getElem hi, rfl⟩, st', fun b hb => (hf b hb).1⟩⟩
  done := by
    intro X hP hw hK hc i pins s σ H E I hf st hg
    subst hP hw hK
    obtain ⟨hd, hi⟩ := hg
    obtain ⟨f0, f1, f2, f3, f4, f5⟩ := hf it (by simp)
    obtain ⟨hs, o, es, hgd, hx, hdt, hes⟩ := dqP_of I hd
    have hsz : es.size = xs.length := by simpa using congrArg List.length hes
    exact next_key_end (I.ok.hd hc) st hgd hdt hsz hi fun h' eb => ⟨rfl, I.turned (t' := s.toks) (fun b ob hb e => eb b ob hb e) f0 f1 f3 f4 f5⟩
  self := fun A i s Q E st h => by
    refine wpAny_pyIter_slot st.typeIs PySem.F.slot_dict_keyiterator_iter (wpAny_call_entry PySem.F.slot_dict_keyiterator_iter st.typeIs PySem.F.entry_dict_keyiterator_iter ?_ (PySem.F.args_dict_keyiterator_iter_1 _))
    show wpAny _ _ (ret (.ref it)) _ _ s
    exact wpAny_pure ⟨_, rfl, "dict_keyiterator", _, st.typeIs, PySem.F.slot_dict_keyiterator_next.lookup, h⟩
def iKeysQ (td : TE) : TI := fun σ H R => td σ H fun x H1 => ∃ d ep xs, x = .ref d ∧ H1 d = some (.ext (dqP d ep xs)) ∧ R (Itq d ep xs) H1
theorem pi_keysQ {X : Cx} {tg e : Expr} {td : TE} (he : PE X e td) : PI X tg e (iKeysQ td) := by
  refine ⟨fun pins s σ H R I h => ?_⟩
  refine thn (he.run pins s σ H _ I h) fun u s1 ⟨x, H1, I1, rx, d, ep, xs, ex, hd, q⟩ => ?_
  subst ex
  obtain rfl : u = Value.ref d := rx
  obtain ⟨hs, o, es, hgd, hx, hdt, hes⟩ := dqP_of I1 hd
  have hsz : es.size = xs.length := by simpa using congrArg List.length hes
  refine iter_keys hs hgd hx hdt (pi_one (tk := s1.toks) I1 _ (turn_keysQ _) ⟨_, Heap.get?_push_size _ rfl, rfl, ?_⟩ q)
  rw [hsz] <;> rfl
def kOs (ds : List (List Int × PyData)) : List O := (ds.map fun p => p.1.map PyData.int).map O.tn
theorem key_out {K : PySem.W.Frag} {B H : Hp} {vt : Bool} (s : Sub B H) : ∀ {xs : List (List Int × Addr × Value)} {ds : List (List Int × PyData)}, DqE K B xs ds → NdE K B vt xs → ∀ (i : Nat) y, xs[i]? = some y → ∃ p, ds[i]? = some p ∧ RO K B H (.ref y.2.1) (.tn (p.1.map PyData.int)) []
  | _, _, .nil, _, i, y, h => by simp at h
  | _, _, .cons e r f t, n, 0, y, h => by
    simp at h
    subst h
    exact ⟨_, rfl, .tn e (n _ (List.mem_cons_self ..)).1 (rf_ints _)⟩
  | _, _, .cons e r f t, n, i + 1, y, h => by
    obtain ⟨p, h1, h2⟩ := key_out s t (fun x hx => n x (List.mem_cons_of_mem _ hx)) i y (by simpa using h)
    exact ⟨p, by simpa using h1, h2⟩
def wiZ (i : Nat) : WIo := fun ρ R => ∃ vt ds, nth ρ i = .dz vt ds ∧ R (kOs ds) ρ
theorem DqE.len {K : PySem.W.Frag} {B : Hp} {xs : List (List Int × Addr × Value)} {ds : List (List Int × PyData)} (q : DqE K B xs ds) : xs.length = ds.length := by simpa using congrArg List.length q.keys
theorem i_keysQ {X : Cx} {Z : Ent} {tg : Expr} (i : Nat) {x : Str} {pos : Pos} (hN : X.N[i]? = some x := by rfl) (hv : Vis X.env.scope x := by first | exact Or.inl rfl | exact Or.inr (Or.inl rfl) | exact Or.inr (Or.inr rfl)) (hd : (x == ("__debug__" : Str)) = false := by decide)
    (hcd : (x == ("__classdict__" : Str)) = false := by decide) : PI X tg (.Name x pos) (tIo X.K Z (wiZ i)) := pi_to (pi_keysQ (pe_var hN hv hd hcd)) fun σ H R q => by
  obtain ⟨B, ρ, fp, Rd, k, ⟨vt, ds, e, h⟩, q⟩ := q
  obtain ⟨v, f, e1, r, _⟩ := k.slot e (fun z => nomatch z)
  cases r with
  | @dz a ep xs _ _ hB hq hn hnd =>
    refine ⟨_, e1, _, _, _, rfl, k.sub _ _ hB, q _ ρ h _ H B fp (Nxt.refl ..) k (ItDo.n fun B' H' s1 s2 i => ?_)⟩
    have hl : (kOs ds).length = xs.length := by unfold kOs; rw [List.length_map, List.length_map]; exact hq.len.symm
    have hH := s2 _ _ (s1 _ _ hB)
    refine ⟨fun hi => ⟨⟨hH, by omega⟩, fun y H'' hy => ?_⟩, fun hi => ⟨hH, by omega⟩⟩
    obtain ⟨rfl, z, e, rfl⟩ := hy
    obtain ⟨p, h1, h2⟩ := key_out (H := H'') s2 (hq.mono s1) (hn.mono s1) i z e
    refine ⟨_, B', ?_, [], Nxt.refl _ _ _, h2, List.nodup_nil, fun _ h => (List.not_mem_nil h).elim, s2⟩
    unfold kOs
    rw [List.getElem?_map, List.getElem?_map, h1]
    rfl
theorem key_ros {K : PySem.W.Frag} {B H : Hp} {vt : Bool} : ∀ {xs : List (List Int × Addr × Value)} {ds : List (List Int × PyData)}, DqE K B xs ds → NdE K B vt xs → ROs K B H (xs.map fun y => V.ref y.2.1) (kOs ds) []
  | _, _, .nil, _ => .nil
  | _, _, .cons e r f t, n => .cons (f1 := []) (.tn e (n _ (List.mem_cons_self ..)).1 (rf_ints _)) (key_ros t fun x hx => n x (List.mem_cons_of_mem _ hx))
theorem call_list_dN {X : Cx} (hc : X.calm = true) : CallR X (.type "list") (fun xs H Q => ∃ d ep ys, xs = [V.ref d] ∧ H d = some (.ext (dqP d ep ys)) ∧ ys.length ≤ sizeLine ∧ ∀ p, H p = none → Q (.ref p) (upd H p (.lst (ys.map fun y => V.ref y.2.1)))) := by
  intro pins s σ H xs us Q I r h
  obtain ⟨d, ep, ys, rfl, hd, hz, q⟩ := h
  obtain ⟨u, rfl, rx⟩ := r.one
  cases rx
  obtain ⟨hs, o, es, ho, hx, hdt, hes⟩ := dqP_of I hd
  have l1 : es.size = ys.length := by simpa using congrArg List.length hes
  refine PySem.W.kdl_call (kdl_raw hs hx hdt) (I.ok.hd hc) ho (by omega) fun h' tk acc' c' kp e it => ?_
  have ea : acc'.toList = (ys.map fun x => x.2.1).map Value.ref := by
    have hl : acc'.toList.length = ys.length := by rw [Array.length_toList, it.1]; exact l1
    apply List.ext_getElem?
    intro j
    rw [List.getElem?_map, List.getElem?_map]
    cases hj : acc'.toList[j]? with
    | none =>
      have h1 := List.getElem?_eq_none_iff.mp hj
      rw [List.getElem?_eq_none (by omega)]
      all_goals rfl
    | some v =>
      obtain ⟨en, hen, hv⟩ := it.2 j v (by rw [← Array.getElem?_toList]; exact hj)
      rw [← Array.getElem?_toList, hes, List.getElem?_map] at hen
      cases hb : ys[j]? with
      | none =>
        rw [hb] at hen
        exact nomatch (show none = some en from hen)
      | some b =>
        rw [hb] at hen
        have e2 := Option.some.inj hen
        rw [hv, ← e2]
        all_goals rfl
  have rv : Vals ((ys.map fun x => x.2.1).map V.ref) acc'.toList := by rw [ea]; exact vals_refs _
  have em : (ys.map fun x => x.2.1).map V.ref = ys.map fun y => V.ref y.2.1 := by rw [List.map_map]; rfl
  rw [em] at rv
  have hz2 : (ys.map fun y => V.ref y.2.1).length ≤ sizeLine := by rw [List.length_map]; omega
  refine ⟨.ref s.heap.objs.size, _, I.laid (t' := tk) (o := .lst (ys.map fun y => V.ref y.2.1)) kp (Nat.le_refl _) ?_, rfl, q _ (I.hok.fresh (Nat.le_refl _))⟩
  exact ⟨hz2, acc'.toList, c', rv, by rw [Array.toArray_toList]; exact e⟩
def oListN : List O → (O → Prop) → Prop
  | [x], R => ∃ p, dOf x = some p ∧ p.2.length ≤ szMax ∧ R (.ol (kOs p.2))
  | _, _ => False
theorem rd_listN {K : PySem.W.Frag} : Rd K (fun xs H Q => ∃ d ep ys, xs = [V.ref d] ∧ H d = some (.ext (dqP d ep ys)) ∧ ys.length ≤ sizeLine ∧ ∀ p, H p = none → Q (.ref p) (upd H p (.lst (ys.map fun y => V.ref y.2.1)))) oListN := fun B H vs xs f R Q s rr h q => by
  unfold oListN at h
  split at h
  · obtain ⟨p, hx, hz, hR⟩ := h
    obtain ⟨v, g, rfl, r⟩ := ros1 rr
    obtain ⟨a, ep, ys, rfl, he, hq, hn, hnd⟩ := dOf_ro s r hx
    refine ⟨a, ep, ys, rfl, he, by rw [hq.len]; exact szOk hz, fun b hb => q _ hR _ B _ ?_⟩
    exact ⟨[b], Nxt.alloc hb, .ol upd_same (key_ros hq hn), List.nodup_cons.mpr ⟨List.not_mem_nil, List.nodup_nil⟩, fun c hc => by rw [List.mem_singleton.mp hc]; exact s.free hb, s.updR (s.free hb)⟩
  · exact h.elim
def oListZ : List O → (O → Prop) → Prop
  | [.fz d], R => ∃ rs : List (List PyData), d = tupM rs ∧ R (.ol (rs.map O.tn))
  | _, _ => False
theorem rd_listZ {K : PySem.W.Frag} : Rd K (fun xs H Q => ∃ p ys, xs = [.ref p] ∧ (SqL K H p ys ∨ SqT K H p ys) ∧ ∀ l, H l = none → Q (.ref l) (upd H l (.lst ys))) oListZ := fun B H vs xs f R Q s rr h q => by
  unfold oListZ at h
  split at h
  · obtain ⟨rs, rfl, h⟩ := h
    obtain ⟨v, _, rfl, r⟩ := ros1 rr
    cases r with
    | fz r =>
      obtain ⟨a, us, rfl, e, n, rf⟩ := RF.unmark r
      refine ⟨a, us, rfl, .inl (SqL.of (s _ _ e)), fun l hl => q _ h _ B _ ?_⟩
      exact ⟨[l], Nxt.alloc hl, .ol upd_same (tns_ro rf n), List.nodup_cons.mpr ⟨List.not_mem_nil, List.nodup_nil⟩, fun c hc => by rw [List.mem_singleton.mp hc]; exact s.free hl, s.updR (s.free hl)⟩
  · exact h.elim
theorem tns_of {K : PySem.W.Frag} {B H : Hp} {rs : List (List PyData)} {vs : List V} {f : List Addr} (r : ROs K B H vs (rs.map O.tn) f) : RFs K B vs (rs.map PyData.tuple) ∧ NDs K B (rs.map fun _ => true) vs := unm_ok r (unm_tn rs)
theorem erase_map {α β : Type} (g : α → β) : ∀ (l : List α) (i : Nat), (l.map g).eraseIdx i = (l.eraseIdx i).map g
  | [], _ => rfl
  | _ :: _, 0 => rfl
  | a :: l, i + 1 => by
    show g a :: (l.map g).eraseIdx i = g a :: (l.eraseIdx i).map g
    rw [erase_map g l i]
def lmPopN : O → List O → (O → O → Prop) → Prop
  | .ol xs, [.fz (.int i)], R => ∃ (rs : List (List PyData)) (es : List PyData), xs = rs.map O.tn ∧ 0 ≤ i ∧ i < 1000000000 ∧ rs[i.toNat]? = some es ∧ R (.ol ((rs.eraseIdx i.toNat).map O.tn)) (.tn es)
  | _, _, _ => False
theorem tns_erase {K : PySem.W.Frag} {B H : Hp} : ∀ {rs : List (List PyData)} {vs : List V} (i : Nat), ROs K B H vs (rs.map O.tn) [] → ROs K B H (vs.eraseIdx i) ((rs.eraseIdx i).map O.tn) [] := fun {rs vs} i r => by
  obtain ⟨a, b⟩ := tns_of r
  refine tns_ro ?_ ?_
  · have := RFs.eraseIdx i a
    rwa [erase_map] at this
  · intro j hj
    have hl : j < (rs.eraseIdx i).length := by
      have := (List.getElem?_eq_some_iff.mp hj).1
      rwa [List.length_map] at this
    have hlen := a.length
    rw [List.length_map] at hlen
    rw [List.getElem?_eraseIdx]
    have hj2 : j < rs.length ∧ (i ≤ j → j + 1 < rs.length) := by
      rw [List.length_eraseIdx] at hl
      split at hl <;> omega
    split
    · exact b j (by rw [List.getElem?_map, List.getElem?_eq_getElem hj2.1]; rfl)
    · exact b (j + 1) (by rw [List.getElem?_map, List.getElem?_eq_getElem (hj2.2 (by omega))]; rfl)
theorem tns_fp {K : PySem.W.Frag} {B H : Hp} : ∀ {rs : List (List PyData)} {vs : List V} {f : List Addr}, ROs K B H vs (rs.map O.tn) f → f = []
  | [], _, _, .nil => rfl
  | _ :: rs, _, _, .cons r t => by
    cases r
    rw [tns_fp (rs := rs) t]
    rfl
theorem lm_popN {K : PySem.W.Frag} : LMu K rPopAt lmPopN := fun B H q x vs xs fx fa R Q s r rr nd h k => by
  unfold lmPopN at h
  split at h
  · obtain ⟨rs, es, rfl, h0, h1, hf, h⟩ := h
    obtain ⟨v, _, rfl, rd⟩ := ros1 rr
    cases rd with
    | fz rd =>
      cases rd
      cases r with
      | @ol _ us _ fp e r =>
        rename_i i
        have ef := tns_fp r
        subst ef
        obtain ⟨rf, nd2⟩ := tns_of r
        obtain ⟨u, hu, ru⟩ := rf.get (d := .tuple es) (by rw [List.getElem?_map, hf]; rfl)
        obtain ⟨c, hc, hnd⟩ := nd2 i.toNat (by rw [List.getElem?_map, hf]; rfl)
        rw [hu] at hc
        have ec : u = V.ref c := Option.some.inj hc
        subst ec
        have hl : i.toNat < us.length := (List.getElem?_eq_some_iff.mp hu).1
        have hix : ixN us.length i = some i.toNat := by
          unfold ixN
          rw [if_pos h0, if_pos (by omega)]
        have r0 : RO K B (upd H q (.lst (us.eraseIdx i.toNat))) (.ref c) (.tn es) [] := by
          cases ru with
          | tup e2 t2 => exact .tn e2 hnd t2
        refine ⟨q, _, i, i.toNat, _, rfl, rfl, e, by omega, by omega, (ixN_seq hix).1, hu, k _ _ h (.ref c) _ [] [] (.ol upd_same ((tns_erase i.toNat r).upd (fun z => nomatch z))) r0 ?_ ?_⟩
        · exact List.nodup_cons.mpr ⟨List.not_mem_nil, List.nodup_nil⟩
        · intro a ha; exact List.mem_append_left _ ha
  · exact h.elim
def oSlN : Option Int → Option Int → O → (O → Prop) → Prop := fun lo hi x R => ∃ rs : List (List PyData), x = .ol (rs.map O.tn) ∧ R (.ol ((cutP rs lo hi).map O.tn))
theorem tns_drop {K : PySem.W.Frag} {B H : Hp} : ∀ (n : Nat) {rs : List (List PyData)} {vs : List V} {f : List Addr}, ROs K B H vs (rs.map O.tn) f → ROs K B H (vs.drop n) ((rs.drop n).map O.tn) []
  | 0, rs, _, f, r => by
    have e := tns_fp r
    subst e
    exact r
  | n + 1, [], _, _, .nil => .nil
  | n + 1, _ :: _, _, _, .cons r t => tns_drop n t
theorem tns_take {K : PySem.W.Frag} {B H : Hp} : ∀ (n : Nat) {rs : List (List PyData)} {vs : List V} {f : List Addr}, ROs K B H vs (rs.map O.tn) f → ROs K B H (vs.take n) ((rs.take n).map O.tn) []
  | 0, _, _, _, _ => .nil
  | n + 1, [], _, _, .nil => .nil
  | n + 1, _ :: _, _, _, .cons r t => by
    cases r with
    | tn a b c => exact .cons (f1 := []) (.tn a b c) (tns_take n t)
theorem ros_len {K : PySem.W.Frag} {B H : Hp} : ∀ {xs : List O} {vs : List V} {f : List Addr}, ROs K B H vs xs f → vs.length = xs.length
  | _, _, _, .nil => rfl
  | _, _, _, .cons _ t => by rw [List.length_cons, List.length_cons, ros_len t]
theorem out_tns {K : PySem.W.Frag} {B H : Hp} {p : Addr} {us : List V} {rs : List (List PyData)} (s : Sub B H) (hp : H p = none) (r : ROs K B H us (rs.map O.tn) []) : Out K B H (.ref p) (.ol (rs.map O.tn)) B (upd H p (.lst us)) :=
  ⟨[p], Nxt.alloc hp, .ol upd_same (r.upd fun z => nomatch z), List.nodup_cons.mpr ⟨List.not_mem_nil, List.nodup_nil⟩, fun a ha => by rw [List.mem_singleton.mp ha]; exact s.free hp, s.updR (s.free hp)⟩
theorem sl_readN {K : PySem.W.Frag} {B H : Hp} {v : V} {x : O} {f : List Addr} {lo hi : Option Int} {R : O → Prop} {Q : VK} (s : Sub B H) (r : RO K B H v x f) (h : oSlN lo hi x R) (q : ∀ z, R z → ∀ u B' H', Out K B H u z B' H' → Q u H') : rSlAll K v lo hi H Q := by
  obtain ⟨rs, rfl, h⟩ := h
  cases r with
  | @ol a us _ fp e r =>
    have ef := tns_fp r
    subst ef
    have hl := ros_len r
    rw [List.length_map] at hl
    refine .inl ⟨a, us, rfl, SqL.of e, fun p hp => q _ h _ B _ (out_tns s hp ?_)⟩
    unfold cutV cutP
    rw [hl]
    exact tns_take _ (tns_drop _ r)
def wSlN (a : AD) (lo hi : PB) : WE := fun ρ R => wADs [a] ρ fun ds ρ1 => wPB lo ρ1 fun l ρ2 => wPB hi ρ2 fun u ρ3 => match fillA [a] ds ρ3 with
  | [x] => oSlN l u x fun z => R z ρ3
  | _ => False
theorem sl_okN {K : PySem.W.Frag} {Z : Ent} {σ : L2.St} {H : Hp} {Q : VK} {a : AD} {lo hi : PB} (h : tE K Z (wSlN a lo hi) σ H Q) : tSl (rSlAll K) (tAD K Z a) (tPB K Z lo) (tPB K Z hi) σ H Q := by
  obtain ⟨B, ρ, fp, R, k, h, q⟩ := h
  have key : tADs K Z [a] σ H fun vs H1 => match vs with
      | [x] => tPB K Z lo σ H1 fun l H2 => tPB K Z hi σ H2 fun u H3 => rSlAll K x l u H3 Q
      | _ => False := by
    refine args_ok [a] k h fun ds ρ1 h1 vs τ xs H1 B1 fp1 g n1 k1 => ?_
    cases g with
    | @ex w r v vs d ds τ xs g =>
      cases g
      obtain ⟨f1, f2, rfl, r1, k2, fr⟩ := Ok.frame (τ := [some v]) (xs := [d]) k1 rfl
      refine po_ok k2 h1 fun l ρ2 h2 B2 H2 fp2 n2 k3 => po_ok k3 h2 fun u ρ3 h3 B3 H3 fp3 n3 k4 => ?_
      obtain ⟨k5, n5⟩ := fr (n2.trans n3) k4
      obtain ⟨f, r, _, _⟩ := k5.head
      obtain ⟨f6, k6, hs6⟩ := k5.drop1
      refine sl_readN k5.sub r h3 fun z hz u' B' H' o => ?_
      obtain ⟨g', k7, n7⟩ := o.ok k6
      exact q z ρ3 hz u' H' B' g' ((n1.trans (n5.less hs6)).trans n7) k7
    | @nm i r v vs ds τ xs e g =>
      cases g
      refine po_ok k1 h1 fun l ρ2 h2 B2 H2 fp2 n2 k3 => po_ok k3 h2 fun u ρ3 h3 B3 H3 fp3 n3 k4 => ?_
      have h3' : oSlN l u (nth ρ3 i) fun z => R z ρ3 := h3
      have hx : nth ρ3 i ≠ .hid := fun z => by
        rw [z] at h3'
        obtain ⟨_, h, _⟩ := h3'
        cases h
      obtain ⟨v', f, e', r, _⟩ := k4.slot rfl hx
      rw [e] at e'
      have e2 : v = v' := Option.some.inj (Option.some.inj e')
      subst e2
      refine sl_readN k4.sub r h3' fun z hz u' B' H' o => ?_
      obtain ⟨g', k7, n7⟩ := o.ok k4
      exact q z ρ3 hz u' H' B' g' (((n1.trans n2).trans n3).trans n7) k7
  exact key
theorem e_sliceN {X : Cx} {Z : Ent} {e : Expr} {lo hi : Option Expr} {p2 pos : Pos} {a : AD} {l u : PB} (he : PE X e (tAD X.K Z a)) (hl : PO X lo (tPB X.K Z l)) (hu : PO X hi (tPB X.K Z u)) : PE X (.Subscript e (.Slice lo hi none p2) pos) (tE X.K Z (wSlN a l u)) := pe_to (pe_slice sl_all he hl hu) fun σ H Q q => sl_okN q
def oAddM : List O → (O → Prop) → Prop
  | [.ol xs, .ol ys], R => ∃ rs qs : List (List PyData), xs = rs.map O.tn ∧ ys = qs.map O.tn ∧ rs.length + qs.length ≤ szMax ∧ R (.ol ((rs ++ qs).map O.tn))
  | _, _ => False
theorem rd_addM {K : PySem.W.Frag} : Rd K (r2L rCat) oAddM := fun B H vs xs f R Q s rr h q => by
  unfold oAddM at h
  split at h
  · obtain ⟨rs, qs, rfl, rfl, hz, h⟩ := h
    obtain ⟨v, w, _, _, rfl, r1, r2⟩ := ros2 rr
    cases r1 with
    | @ol a us _ f1 e1 t1 =>
      cases r2 with
      | @ol b ws _ f2 e2 t2 =>
        have ef := tns_fp t1
        subst ef
        have ef2 := tns_fp t2
        subst ef2
        refine ⟨a, b, us, ws, rfl, rfl, e1, e2, szOk ?_, fun p hp => q _ h _ B _ (out_tns s hp ?_)⟩
        · rw [ros_len t1, ros_len t2, List.length_map, List.length_map]; exact hz
        · rw [List.map_append]
          exact t1.append t2
  · exact h.elim
def pRel (p : Addr × List Int × Addr × V) (q : Addr × List Int × Addr × Value) : Prop := q.1 = p.1 ∧ q.2.1 = p.2.1 ∧ q.2.2.1 = p.2.2.1 ∧ RelV p.2.2.2 q.2.2.2
def rDictN (K : PySem.W.Frag) : List V → Hp → VK → Prop := fun vs H Q => ∃ (l : Addr) (ps : List (Addr × List Int × Addr × V)), vs = [.ref l] ∧ SqL K H l (ps.map fun p => V.ref p.1) ∧ (∀ p ∈ ps, SqT K H p.1 [.ref p.2.2.1, p.2.2.2] ∧ SqT K H p.2.2.1 (p.2.1.map V.int)) ∧ (ps.map fun p => p.2.1).Nodup ∧
  ∀ (a : Addr) (ep : Nat) (qs : List (Addr × List Int × Addr × Value)), H a = none → Paired pRel ps qs → Q (.ref a) (upd H a (.ext (dqP a ep (qs.map fun q => q.2))))
theorem pairs_N {X : Cx} {pins : List (Addr × Obj)} {σ : L2.St} {H : Hp} {s : Shared} (I : L2.Inv X pins σ H s) : ∀ {ps : List (Addr × List Int × Addr × V)}, (∀ p ∈ ps, SqT X.K H p.1 [.ref p.2.2.1, p.2.2.2] ∧ SqT X.K H p.2.2.1 (p.2.1.map V.int)) →
    ∃ qs : List (Addr × List Int × Addr × Value), Paired pRel ps qs ∧ ∀ q ∈ qs, IsTup s.heap q.1 #[.ref q.2.2.1, q.2.2.2] ∧ SqT X.K H q.2.2.1 (q.2.1.map V.int)
  | [], _ => ⟨[], .nil, fun q h => nomatch h⟩
  | p :: ps, h => by
    obtain ⟨qs, r, hq⟩ := pairs_N I (fun p hp => h p (List.mem_cons_of_mem _ hp))
    obtain ⟨h1, h2⟩ := h p (List.mem_cons_self ..)
    obtain ⟨its, rv, ht, _⟩ := I.tuple h1
    obtain ⟨u, y, ei, ru, ry⟩ := vals2 rv
    subst ei
    cases ru
    refine ⟨(p.1, p.2.1, p.2.2.1, y) :: qs, .cons ⟨rfl, rfl, rfl, ry⟩ r, fun q hq' => ?_⟩
    rcases List.mem_cons.mp hq' with rfl | hq'
    · exact ⟨ht, h2⟩
    · exact hq q hq'
theorem paired_keys : ∀ {ps : List (Addr × List Int × Addr × V)} {qs : List (Addr × List Int × Addr × Value)}, Paired pRel ps qs → (ps.map fun p => V.ref p.1) = (qs.map fun q => V.ref q.1) ∧ (ps.map fun p => p.2.1) = qs.map fun q => q.2.1
  | _, _, .nil => ⟨rfl, rfl⟩
  | _, _, .cons h t => by
    obtain ⟨a, b⟩ := paired_keys t
    rw [List.map_cons, List.map_cons, List.map_cons, List.map_cons, a, b, h.1, h.2.1]
    exact ⟨rfl, rfl⟩
theorem stored_nodup {α : Type} [DecidableEq α] : ∀ (ps acc : List (α × Addr × Value)), ((acc ++ ps).map (·.1)).Nodup → storedAllH acc ps = acc ++ ps
  | [], acc, _ => (List.append_nil acc).symm
  | p :: ps, acc, h => by
    have hp : atKey acc p.1 = none := by
      unfold atKey
      rw [List.find?_eq_none.mpr fun x hx => ?_]
      · rfl
      · rw [List.map_append] at h
        have := (List.nodup_append.mp h).2.2 x.1 (List.mem_map_of_mem hx) p.1 (by simp)
        simpa using this
    show storedAllH (storedH acc p.1 p.2.1 p.2.2) ps = _
    rw [storedH_new hp, stored_nodup ps (acc ++ [(p.1, p.2.1, p.2.2)]) (by rw [List.append_assoc]; exact h), List.append_assoc]
    rfl
theorem cr_dictN {X : Cx} (hu : X.A.units + 3 < cLine) (hcalm : X.calm = true) : CallR X (.type "dict") (rDictN X.K) := by
  intro pins s σ H xs us Q I r q
  obtain ⟨l, ps, rfl, hl, hp, hn, q⟩ := q
  obtain ⟨u, rfl, rx⟩ := r.one
  cases rx
  obtain ⟨qs, hpq, hq⟩ := pairs_N I hp
  obtain ⟨e1, e2⟩ := paired_keys hpq
  rw [e1] at hl
  obtain ⟨its, rv, pl, hz⟩ := I.list hl
  have ei : its = (qs.map fun q => q.1).map Value.ref := refs_at (by rw [List.map_map]; exact rv)
  subst ei
  rw [List.length_map] at hz
  have pl' : PlainSeq "list" s.heap l (((qs.map fun q => q.1).map Value.ref).toArray) := let ⟨o, n, a, b, c, d⟩ := pl; ⟨o, n, a, b, c, d⟩
  have hk : ∀ x ∈ (qs.map fun q => q.2).map tK, (tupleKind (mixKind X.prog X.w)).is s.heap x.1 x.2.1 := fun x hx => by
    obtain ⟨y, hy, rfl⟩ := List.mem_map.mp hx
    obtain ⟨z, hz, rfl⟩ := List.mem_map.mp hy
    exact key_ofN I (show SqT X.K H z.2.2.1 ((z.2.1.map Sum.inl).map kV) from by rw [kV_ints]; exact (hq z hz).2)
  have hnd : (((qs.map fun q => q.2).map tK).map (·.1)).Nodup := by
    rw [e2] at hn
    have e3 : ((qs.map fun q => q.2).map tK).map (·.1) = (qs.map fun q => q.2.1).map (fun k => k.map (Sum.inl : Int → Key)) := by
      rw [List.map_map, List.map_map, List.map_map]
      rfl
    rw [e3]
    exact nodup_inl hn
  refine call_dict_pairsH (knd := tupleKind (mixKind X.prog X.w)) (ps := (qs.map fun q => q.2).map tK) (PairArg.list l (((qs.map fun q => q.1).map Value.ref).toArray) (fun j => ((qs[j]?).map fun q => q.1).getD 0) (qs.map fun q => (Value.ref q.2.2.1, q.2.2.2))) (I.ok.hd hcalm) (tupleKind_room_in1 (by show X.A.in1.units + 1 < cLine; exact Nat.lt_of_le_of_lt (Nat.le_refl _) (by have : X.A.in1.units = X.A.units + 1 := rfl; omega))) ⟨pl', ?_, fun j k v e => ?_⟩ ⟨?_, fun i key v e => ?_⟩ (fun h' hh x hx => ?_) (by rw [List.length_map]; exact hz) fun h' tk hd' k => ?_
  · simp
  · rw [List.getElem?_map] at e
    cases hj : qs[j]? with
    | none => rw [hj] at e; cases e
    | some z =>
      rw [hj] at e
      have e' : (Value.ref z.2.2.1, z.2.2.2) = (k, v) := Option.some.inj e
      cases e'
      refine ⟨by simp [hj], .inl ?_⟩
      have et : ((qs[j]?).map fun q => q.1).getD 0 = z.1 := by rw [hj]; rfl
      show Heap.IsTuple s.heap (((qs[j]?).map fun q => q.1).getD 0) _
      rw [et]
      obtain ⟨o, h1, h2, h3⟩ := (hq z (List.mem_of_getElem? hj)).1
      exact ⟨o, h1, h2, h3⟩
  · simp
  · have e' : (qs.map fun q => (Value.ref q.2.2.1, q.2.2.2))[i]? = some (key, v) := e
    rw [List.getElem?_map] at e'
    cases hj : qs[i]? with
    | none => rw [hj] at e'; cases e'
    | some z =>
      rw [hj] at e'
      have e2 : (Value.ref z.2.2.1, z.2.2.2) = (key, v) := Option.some.inj e'
      cases e2
      exact ⟨_, z.2.2.1, by rw [List.getElem?_map, List.getElem?_map, hj]; rfl, rfl⟩
  · obtain ⟨o, items, n, ho, hc, hd, hi⟩ := hk x hx
    exact ⟨o, items, n, hh _ _ (Nat.ne_of_lt (Heap.lt_size ho)) (fun z => nomatch z) ho, hc, hd, hi⟩
  · rw [stored_nodup _ [] (by simpa using hnd), List.nil_append] at hd'
    obtain ⟨o, es, ep, h1, h2, h3, h4, _, _⟩ := hd'
    refine ⟨.ref s.heap.objs.size, _, I.laid (t' := tk) (fun b o e => k b o (fun z => nomatch z) e) (Nat.le_refl _) (dqP_ok (ep := ep) (xs := qs.map fun q => q.2) ⟨beq_eq_false_iff_ne.mpr (Nat.ne_of_gt I.big), o, es, h1, h2, h3, ?_⟩), rfl, q _ ep qs (I.hok.fresh (Nat.le_refl _)) hpq⟩
    rw [h4, List.map_map]
    exact List.map_congr_left fun x _ => ent_eq x
theorem vO_false (d : PyData) : vO false d = .fz d := by cases d <;> rfl
def dps (vt : Bool) (ds : List (List Int × PyData)) : List O := ds.map fun p => .ot [.tn (p.1.map PyData.int), vO vt p.2]
def oDictN : List O → (O → Prop) → Prop
  | [.ol xs], R => ∃ vt ds, xs = dps vt ds ∧ (ds.map (·.1)).Nodup ∧ (vt = true → ∀ p ∈ ds, ∃ es, p.2 = .tuple es) ∧ R (.dn vt ds)
  | _, _ => False
def dRel (K : PySem.W.Frag) (B : Hp) (vt : Bool) (p : Addr × List Int × Addr × V) (d : List Int × PyData) : Prop :=
  B p.1 = some (.tup [.ref p.2.2.1, p.2.2.2]) ∧ p.2.1 = d.1 ∧ SqT K B p.2.2.1 (d.1.map V.int) ∧ ND K B p.2.2.1 ∧ RF K B p.2.2.2 d.2 ∧ (vt = true → ∃ b, p.2.2.2 = .ref b ∧ ND K B b)
theorem dps_ro {K : PySem.W.Frag} {B H : Hp} {vt : Bool} : ∀ {ds : List (List Int × PyData)} {vs : List V} {f : List Addr}, (vt = true → ∀ p ∈ ds, ∃ es, p.2 = .tuple es) → ROs K B H vs (dps vt ds) f → f = [] ∧ ∃ ps : List (Addr × List Int × Addr × V), (vs = ps.map fun p => V.ref p.1) ∧ Paired (dRel K B vt) ps ds
  | [], _, _, _, .nil => ⟨rfl, [], rfl, .nil⟩
  | d :: ds, _, _, ht, .cons r t => by
    obtain ⟨rfl, ps, rfl, hp⟩ := dps_ro (fun z p hp => ht z p (List.mem_cons_of_mem _ hp)) t
    cases r with
    | ot e r =>
      cases r with
      | cons r1 r2 =>
        cases r1 with
        | tn a b c =>
          rw [rfs_ints c] at a
          cases r2 with
          | cons r2 r3 =>
            cases r3
            cases vt with
            | false =>
              rw [vO_false] at r2
              cases r2 with
              | fz r2 => exact ⟨rfl, (_, d.1, _, _) :: ps, rfl, .cons ⟨e, rfl, a, b, r2, fun z => nomatch z⟩ hp⟩
            | true =>
              obtain ⟨es, he⟩ := ht rfl d (List.mem_cons_self ..)
              rw [he] at r2
              have r2' : RO K B H _ (.tn es) _ := r2
              cases r2' with
              | tn a2 b2 c2 => exact ⟨rfl, (_, d.1, _, _) :: ps, rfl, .cons ⟨e, rfl, a, b, by rw [he]; exact .tup a2 c2, fun _ => ⟨_, rfl, b2⟩⟩ hp⟩
theorem drel_keys {K : PySem.W.Frag} {B : Hp} {vt : Bool} : ∀ {ps : List (Addr × List Int × Addr × V)} {ds : List (List Int × PyData)}, Paired (dRel K B vt) ps ds → (ps.map fun p => p.2.1) = ds.map (·.1)
  | _, _, .nil => rfl
  | _, _, .cons h t => by rw [List.map_cons, List.map_cons, drel_keys t, h.2.1]
theorem drel_mem {K : PySem.W.Frag} {B : Hp} {vt : Bool} : ∀ {ps : List (Addr × List Int × Addr × V)} {ds : List (List Int × PyData)}, Paired (dRel K B vt) ps ds → ∀ p ∈ ps, SqT K B p.1 [.ref p.2.2.1, p.2.2.2] ∧ SqT K B p.2.2.1 (p.2.1.map V.int)
  | _, _, .nil, p, h => nomatch h
  | _, _, .cons h t, p, hp => by
    rcases List.mem_cons.mp hp with rfl | hp
    · exact ⟨SqT.of h.1, by rw [h.2.1]; exact h.2.2.1⟩
    · exact drel_mem t p hp
theorem drel_dq {K : PySem.W.Frag} {B : Hp} {vt : Bool} : ∀ {ps : List (Addr × List Int × Addr × V)} {ds : List (List Int × PyData)} {qs : List (Addr × List Int × Addr × Value)}, Paired (dRel K B vt) ps ds → Paired pRel ps qs → DqE K B (qs.map fun q => q.2) ds ∧ NdE K B vt (qs.map fun q => q.2)
  | _, _, _, .nil, .nil => ⟨.nil, fun x hx => nomatch hx⟩
  | p :: _, d :: _, q :: _, .cons h t, .cons h2 t2 => by
    obtain ⟨a, b⟩ := drel_dq t t2
    obtain ⟨q1, q2, q3, q4⟩ := q
    obtain ⟨p1, p2, p3, p4⟩ := p
    obtain ⟨d1, d2⟩ := d
    obtain ⟨e1, e2, e3, e4, e5, e6⟩ := h
    obtain ⟨g1, g2, g3, g4⟩ := h2
    dsimp only at e1 e2 e3 e4 e5 e6 g1 g2 g3 g4
    subst g1 g2 g3 e2
    refine ⟨.cons e3 g4 e5 a, fun x hx => ?_⟩
    rcases List.mem_cons.mp hx with rfl | hx
    · refine ⟨e4, fun z => ?_⟩
      obtain ⟨b, eb, nb⟩ := e6 z
      subst eb
      exact ⟨b, g4, nb⟩
    · exact b x hx
theorem rd_dictN {K : PySem.W.Frag} : Rd K (rDictN K) oDictN := fun B H vs xs f R Q s rr h q => by
  unfold oDictN at h
  split at h
  · obtain ⟨vt, ds, rfl, hnd, ht, h⟩ := h
    obtain ⟨v, g, rfl, r⟩ := ros1 rr
    cases r with
    | @ol l us _ f1 e r =>
      obtain ⟨rfl, ps, rfl, hp⟩ := dps_ro ht r
      refine ⟨l, ps, rfl, SqL.of e, fun p hp2 => ?_, by rw [drel_keys hp]; exact hnd, fun a ep qs ha hpq => q _ h _ B _ ?_⟩
      · obtain ⟨a, b⟩ := drel_mem hp p hp2
        exact ⟨s.sqT a, s.sqT b⟩
      · obtain ⟨hq, hn⟩ := drel_dq hp hpq
        exact ⟨[a], Nxt.alloc ha, .dn upd_same hq hn hnd, List.nodup_cons.mpr ⟨List.not_mem_nil, List.nodup_nil⟩, fun b hb => by rw [List.mem_singleton.mp hb]; exact s.free ha, s.updR (s.free ha)⟩
  · exact h.elim
section
variable {w w2 : WE} {i : Nat} {ρ : En} {R : O → En → Prop} {R2 : O → O → Prop} {k : O → Prop} {x y : O} {z : PyData} {vt : Bool} {ds : List (List Int × PyData)} {xs ys : List O}
@[simp] theorem x_dOfn : dOf (.dn vt ds) = some (vt, ds) := rfl
@[simp] theorem x_dOfz : dOf (.dz vt ds) = some (vt, ds) := rfl
@[simp] theorem x_isDn : isDn (.dn vt ds) = true := rfl
@[simp] theorem x_vOf : vO false z = .fz z := vO_false z
@[simp] theorem x_vOt {es : List PyData} : vO true (.tuple es) = .tn es := rfl
@[simp] theorem x_nGet : oNGet [x, y] k = ∃ p es key d, dOf x = some p ∧ tupO y = some es ∧ qL es = some key ∧ getQ p.2 key = some d ∧ k (vO p.1 d) := rfl
@[simp] theorem x_nGet2 : oNGet2 [x, y, .fz z] k = ∃ p es key, dOf x = some p ∧ tupO y = some es ∧ qL es = some key ∧ p.1 = false ∧ k (.fz ((getQ p.2 key).getD z)) := rfl
@[simp] theorem x_wRmQ {as : List AD} {op : List O → (O → Prop) → Prop} : wRmQ i as op ρ R = ((dOf (nth ρ i)).isSome = true ∧ wADs (.nm i :: as) ρ fun ds ρ1 => op (fillA (.nm i :: as) ds ρ1) fun z => R z ρ1) := rfl
@[simp] theorem x_dictN0 : wDictN0 ρ R = R (.dn false []) ρ := rfl
@[simp] theorem x_sPutN : sPutN i w w2 = sDrop (wMuN i [w, w2] lmNPut) := rfl
@[simp] theorem x_wMuN {ws : List WE} {lm : O → List O → (O → O → Prop) → Prop} : wMuN i ws lm ρ R = (isDn (nth ρ i) = true ∧ wADs (exs ws) ρ fun ds ρ1 => isDn (nth ρ1 i) = true ∧ lm (nth ρ1 i) (fillA (exs ws) ds ρ1) fun x' z => R z (ρ1.set i x')) := rfl
@[simp] theorem x_lmNPut {es : List PyData} : lmNPut (.dn false ds) [.fz z, .tn es] R2 = ∃ key, qL es = some key ∧ ds.length + 1 ≤ szMax ∧ R2 (.dn false (putQ ds key z)) (.fz .none) := rfl
@[simp] theorem x_wFzN : wFzN w ρ R = w ρ fun d ρ1 => ∃ vt ds, d = .dn vt ds ∧ R (.dz vt ds) ρ1 := rfl
@[simp] theorem x_wiZ {R : List O → En → Prop} : wiZ i ρ R = ∃ vt ds, nth ρ i = .dz vt ds ∧ R (kOs ds) ρ := rfl
@[simp] theorem x_oListN : oListN [x] k = ∃ p, dOf x = some p ∧ p.2.length ≤ szMax ∧ k (.ol (kOs p.2)) := rfl
@[simp] theorem x_oListZ : oListZ [.fz z] k = ∃ rs : List (List PyData), z = tupM rs ∧ k (.ol (rs.map O.tn)) := rfl
@[simp] theorem x_lmPopN {i : Int} : lmPopN (.ol xs) [.fz (.int i)] R2 = ∃ (rs : List (List PyData)) (es : List PyData), xs = rs.map O.tn ∧ 0 ≤ i ∧ i < 1000000000 ∧ rs[i.toNat]? = some es ∧ R2 (.ol ((rs.eraseIdx i.toNat).map O.tn)) (.tn es) := rfl
@[simp] theorem x_oAddM : oAddM [.ol xs, .ol ys] k = ∃ rs qs : List (List PyData), xs = rs.map O.tn ∧ ys = qs.map O.tn ∧ rs.length + qs.length ≤ szMax ∧ k (.ol ((rs ++ qs).map O.tn)) := rfl
@[simp] theorem x_oDictN : oDictN [.ol xs] k = ∃ vt ds, xs = dps vt ds ∧ (ds.map (·.1)).Nodup ∧ (vt = true → ∀ p ∈ ds, ∃ es, p.2 = .tuple es) ∧ k (.dn vt ds) := rfl
@[simp] theorem x_nhN {p : Prop} : notHid (.dn vt ds) p = p := rfl
@[simp] theorem x_nhZ {p : Prop} : notHid (.dz vt ds) p = p := rfl
end
end Pt
namespace K38
open PySem PySem.Spec L2 Pt Sh St FC
def topS (i : Nat) : Stmt := PySem.Challenge.pw_pulltree_k38_patterns_many_days_before.main.body.getD i (.Pass ⟨0, 0, 0, 0⟩)
structure Mg (mg : Str → Option Value) : Prop where
  b_all : mg "all" = none
  b_any : mg "any" = none
  b_bool : mg "bool" = none
  b_dict : mg "dict" = none
  b_enumerate : mg "enumerate" = none
  b_int : mg "int" = none
  b_isinstance : mg "isinstance" = none
  b_len : mg "len" = none
  b_list : mg "list" = none
  b_max : mg "max" = none
  b_min : mg "min" = none
  b_range : mg "range" = none
  b_repr : mg "repr" = none
  b_sorted : mg "sorted" = none
  b_tuple : mg "tuple" = none
  b_zip : mg "zip" = none
  c_MOST_COUNTED : ∃ t, mg "MOST_COUNTED" = some (.int 6 t)
  c_MOST_DAYS : ∃ t, mg "MOST_DAYS" = some (.int 60 t)
  c_MOST_STATIONS : ∃ t, mg "MOST_STATIONS" = some (.int 40 t)
abbrev s_is_int : Stmt := topS 9
abbrev N_is_int : List Str := ["value"]
theorem sc_is_int : FnScope N_is_int ["value"] (defScope s_is_int) := ⟨rfl, rfl, rfl, by decide +kernel, rfl, by decide +kernel, by decide +kernel⟩
theorem ok_is_int {P : Program} {w : World} {K : PySem.W.Frag} {mg : Str → Option Value} {base : Heap} {T : List Addr} {fa : Addr} {fd : FuncData} (F : Fun K "is_int" "is_int" s_is_int fa fd) (hm : mg "is_int" = some (.ref fa)) (M : Mg mg) :
    Fg P w K mg base T (1) "is_int" 1 [] (gOf 1 1 (W_is_int)) := by
  refine fg_of (N := N_is_int) F hm sc_is_int (F.binds (ps := ["value"]) fun _ _ _ _ _ _ us hl => match us, hl with | [_], _ => rfl) rfl (by decide) (by decide) fun X cdv A outer s0 H E Z HB => ?_
  obtain ⟨hX, hT, hgd, hr, hp, tk, hmg, hcd⟩ := HB
  have hu := hr.units
  subst hX hT
  have HN := sc_is_int.nd
  exact (ss_one (s_ret (e_and (e_isi tyN_int (ad_ex (e_var 0)) (by rfl) M.b_isinstance (by rfl) M.b_int (by rfl)) (e_one (e_not (e_isi tyN_bool (ad_ex (e_var 0)) (by rfl) M.b_isinstance (by rfl) M.b_bool (by rfl)))))))
abbrev s_in_range : Stmt := topS 10
abbrev N_in_range : List Str := ["value", "low", "high"]
theorem sc_in_range : FnScope N_in_range ["value", "low", "high"] (defScope s_in_range) := ⟨rfl, rfl, rfl, by decide +kernel, rfl, by decide +kernel, by decide +kernel⟩
theorem ok_in_range {P : Program} {w : World} {K : PySem.W.Frag} {mg : Str → Option Value} {base : Heap} {T : List Addr} {fa : Addr} {fd : FuncData} (F : Fun K "in_range" "in_range" s_in_range fa fd) (hm : mg "in_range" = some (.ref fa)) (M : Mg mg) {g_is_int : WF} (c_is_int : Fg P w K mg base T 1 "is_int" 1 [] g_is_int) :
    Fg P w K mg base T (2) "in_range" 3 [] (gOf 3 3 (W_in_range g_is_int)) := by
  refine fg_of (N := N_in_range) F hm sc_in_range (F.binds (ps := ["value", "low", "high"]) fun _ _ _ _ _ _ us hl => match us, hl with | [_, _, _], _ => rfl) rfl (by decide) (by decide) fun X cdv A outer s0 H E Z HB => ?_
  obtain ⟨hX, hT, hgd, hr, hp, tk, hmg, hcd⟩ := HB
  have hu := hr.units
  subst hX hT
  have d_is_int := c_is_int.to hgd hr (by decide)
  have HN := sc_in_range.nd
  exact (ss_one (s_ret (e_and (e_call d_is_int (pa_cons (ad_ex (e_var 0)) pa_nil) rfl rfl (by exact (show List.Nodup ([] : List Nat) from by decide)) (by rfl)) (e_one (e_chain op_le rd_le op_le rd_le (e_var 1) (e_var 0) (e_var 2))))))
abbrev s_is_plant : Stmt := topS 11
abbrev N_is_plant : List Str := ["value", "index", "station"]
theorem sc_is_plant : FnScope N_is_plant ["value"] (defScope s_is_plant) := ⟨rfl, rfl, rfl, by decide +kernel, rfl, by decide +kernel, by decide +kernel⟩
theorem ok_is_plant {P : Program} {w : World} {K : PySem.W.Frag} {mg : Str → Option Value} {base : Heap} {T : List Addr} {fa : Addr} {fd : FuncData} (F : Fun K "is_plant" "is_plant" s_is_plant fa fd) (hm : mg "is_plant" = some (.ref fa)) (M : Mg mg) {g_in_range : WF} (c_in_range : Fg P w K mg base T 2 "in_range" 3 [] g_in_range) :
    Fg P w K mg base T (3) "is_plant" 1 [] (gOf 1 3 (W_is_plant g_in_range)) := by
  refine fg_of (N := N_is_plant) F hm sc_is_plant (F.binds (ps := ["value"]) fun _ _ _ _ _ _ us hl => match us, hl with | [_], _ => rfl) rfl (by decide) (by decide) fun X cdv A outer s0 H E Z HB => ?_
  obtain ⟨hX, hT, hgd, hr, hp, tk, hmg, hcd⟩ := HB
  have hu := hr.units
  obtain ⟨t_MOST_STATIONS, hc_MOST_STATIONS⟩ := M.c_MOST_STATIONS
  subst hX hT
  have d_in_range := c_in_range.to hgd hr (by decide)
  have HN := sc_is_plant.nd
  exact (ss_cons (s_if (L2.PW.pt (tw_or (t_not (t_val (e_isi tyN_tuple (ad_ex (e_var 0)) (by rfl) M.b_isinstance (by rfl) M.b_tuple (by rfl)))) (tw_or1 (t_cmp op_ge rd_ge (ad_ex (e_callB call_len rd_len (by rfl) M.b_len (by rfl) (pa_cons (ad_ex (e_var 0)) pa_nil))) (ad_ex (e_gint (by rfl) hc_MOST_STATIONS ⟨_, rfl⟩)) (nomark _)))))
  (ss_one (s_ret e_bl))
  ss_nil)
  (ss_one (s_ret (e_callB (cr_all rfl) rd_all (by rfl) M.b_all (by rfl) (pa_cons (ad_ex (e_lf (e_lc (ow := [("index", 1), ("station", 2)]) rfl HN (i_enum (by rfl) M.b_enumerate (e_var 0)) (show BlkOk N_is_plant (defScope s_is_plant) _ [("index", 1), ("station", 2)] from ⟨rfl, by decide +kernel, by decide +kernel, by decide +kernel, by decide +kernel⟩) (fun _ _ _ _ _ => (g_tup rfl (gs_cons (g_name HN rfl (by first | exact .inl rfl | exact .inr rfl) rfl) (gs_cons (g_name HN rfl (by first | exact .inl rfl | exact .inr rfl) rfl) gs_nil)))) (fun _ _ _ _ _ => ts_nil) (fun _ _ _ _ _ => (e_fz (e_call d_in_range (pa_cons (ad_ex (e_var 2)) (pa_cons (ad_ex e_int) (pa_cons (ad_ex (e_var 1)) pa_nil))) rfl rfl (by exact (show List.Nodup ([] : List Nat) from by decide)) (by rfl))))))) pa_nil)))))
abbrev s_require_plant : Stmt := topS 12
abbrev N_require_plant : List Str := ["value"]
theorem sc_require_plant : FnScope N_require_plant ["value"] (defScope s_require_plant) := ⟨rfl, rfl, rfl, by decide +kernel, rfl, by decide +kernel, by decide +kernel⟩
theorem ok_require_plant {P : Program} {w : World} {K : PySem.W.Frag} {mg : Str → Option Value} {base : Heap} {T : List Addr} {fa : Addr} {fd : FuncData} (F : Fun K "require_plant" "require_plant" s_require_plant fa fd) (hm : mg "require_plant" = some (.ref fa)) (M : Mg mg) {g_is_plant : WF} (c_is_plant : Fg P w K mg base T 3 "is_plant" 1 [] g_is_plant) :
    Fg P w K mg base T (4) "require_plant" 1 [] (gOf 1 1 (W_require_plant g_is_plant)) := by
  refine fg_of (N := N_require_plant) F hm sc_require_plant (F.binds (ps := ["value"]) fun _ _ _ _ _ _ us hl => match us, hl with | [_], _ => rfl) rfl (by decide) (by decide) fun X cdv A outer s0 H E Z HB => ?_
  obtain ⟨hX, hT, hgd, hr, hp, tk, hmg, hcd⟩ := HB
  have hu := hr.units
  subst hX hT
  have d_is_plant := c_is_plant.to hgd hr (by decide)
  have HN := sc_require_plant.nd
  exact (ss_one (s_if (t_not (t_val (e_call d_is_plant (pa_cons (ad_ex (e_var 0)) pa_nil) rfl rfl (by exact (show List.Nodup ([] : List Nat) from by decide)) (by rfl))))
  (ss_one s_never)
  ss_nil))
abbrev s_require_station : Stmt := topS 13
abbrev N_require_station : List Str := ["plant", "value"]
theorem sc_require_station : FnScope N_require_station ["plant", "value"] (defScope s_require_station) := ⟨rfl, rfl, rfl, by decide +kernel, rfl, by decide +kernel, by decide +kernel⟩
theorem ok_require_station {P : Program} {w : World} {K : PySem.W.Frag} {mg : Str → Option Value} {base : Heap} {T : List Addr} {fa : Addr} {fd : FuncData} (F : Fun K "require_station" "require_station" s_require_station fa fd) (hm : mg "require_station" = some (.ref fa)) (M : Mg mg) {g_in_range : WF} (c_in_range : Fg P w K mg base T 2 "in_range" 3 [] g_in_range) :
    Fg P w K mg base T (3) "require_station" 2 [] (gOf 2 2 (W_require_station g_in_range)) := by
  refine fg_of (N := N_require_station) F hm sc_require_station (F.binds (ps := ["plant", "value"]) fun _ _ _ _ _ _ us hl => match us, hl with | [_, _], _ => rfl) rfl (by decide) (by decide) fun X cdv A outer s0 H E Z HB => ?_
  obtain ⟨hX, hT, hgd, hr, hp, tk, hmg, hcd⟩ := HB
  have hu := hr.units
  subst hX hT
  have d_in_range := c_in_range.to hgd hr (by decide)
  have HN := sc_require_station.nd
  exact (ss_one (s_if (t_not (t_val (e_call d_in_range (pa_cons (ad_ex (e_var 1)) (pa_cons (ad_ex e_int) (pa_cons (ad_ex (e_callB call_len rd_len (by rfl) M.b_len (by rfl) (pa_cons (ad_ex (e_var 0)) pa_nil))) pa_nil))) rfl rfl (by exact (show List.Nodup ([] : List Nat) from by decide)) (by rfl))))
  (ss_one s_never)
  ss_nil))
abbrev s_supplier_lists : Stmt := topS 14
abbrev N_supplier_lists : List Str := ["plant", "found", "station", "index"]
theorem sc_supplier_lists : FnScope N_supplier_lists ["plant"] (defScope s_supplier_lists) := ⟨rfl, rfl, rfl, by decide +kernel, rfl, by decide +kernel, by decide +kernel⟩
theorem ok_supplier_lists {P : Program} {w : World} {K : PySem.W.Frag} {mg : Str → Option Value} {base : Heap} {T : List Addr} {fa : Addr} {fd : FuncData} (F : Fun K "supplier_lists" "supplier_lists" s_supplier_lists fa fd) (hm : mg "supplier_lists" = some (.ref fa)) (M : Mg mg) :
    Fg P w K mg base T (1) "supplier_lists" 1 [] (gOf 1 4 (W_supplier_lists)) := by
  refine fg_of (N := N_supplier_lists) F hm sc_supplier_lists (F.binds (ps := ["plant"]) fun _ _ _ _ _ _ us hl => match us, hl with | [_], _ => rfl) rfl (by decide) (by decide) fun X cdv A outer s0 H E Z HB => ?_
  obtain ⟨hX, hT, hgd, hr, hp, tk, hmg, hcd⟩ := HB
  have hu := hr.units
  subst hX hT
  have HN := sc_supplier_lists.nd
  exact (ss_cons (s_setLc (ow := [("station", 2)]) (i := 1) up_id rfl HN rfl rfl (by decide) rfl (i_r1 (by rfl) M.b_range (e_bin op_addAll rd_add (ad_ex (e_callB call_len rd_len (by rfl) M.b_len (by rfl) (pa_cons (ad_ex (e_var 0)) pa_nil))) (ad_ex e_int))) (show BlkOk N_supplier_lists (defScope s_supplier_lists) _ [("station", 2)] from ⟨rfl, by decide +kernel, by decide +kernel, by decide +kernel, by decide +kernel⟩) (fun _ _ _ _ _ => (g_name HN rfl (by first | exact .inl rfl | exact .inr rfl) rfl)) (fun _ _ _ _ _ => ts_nil) (fun _ _ _ _ _ => (e_list pa_nil)))
  (ss_cons (s_for (own := [3, 2]) hp rfl (i_enum (by rfl) M.b_enumerate (e_var 0)) (g_tup rfl (gs_cons (g_name HN rfl (by first | exact .inl rfl | exact .inr rfl) rfl) (gs_cons (g_name HN rfl (by first | exact .inl rfl | exact .inr rfl) rfl) gs_nil))) (by decide)
  (ss_one (s_expr (e_mu2 1 PySem.F.plainAttrs_list PySem.F.slot_list_append PySem.F.type_list_append mt_append lm_append (e_var 2) (fun _ _ => rfl) (pa_cons (ad_ex (e_fz (e_bin op_addAll rd_add (ad_ex (e_var 3)) (ad_ex e_int)))) pa_nil)))))
  (ss_one (s_ret (e_mov 1)))))
abbrev s_path_to_shop : Stmt := topS 15
abbrev N_path_to_shop : List Str := ["plant", "station", "found"]
theorem sc_path_to_shop : FnScope N_path_to_shop ["plant", "station"] (defScope s_path_to_shop) := ⟨rfl, rfl, rfl, by decide +kernel, rfl, by decide +kernel, by decide +kernel⟩
theorem ok_path_to_shop {P : Program} {w : World} {K : PySem.W.Frag} {mg : Str → Option Value} {base : Heap} {T : List Addr} {fa : Addr} {fd : FuncData} (F : Fun K "path_to_shop" "path_to_shop" s_path_to_shop fa fd) (hm : mg "path_to_shop" = some (.ref fa)) (M : Mg mg) {g_require_plant : WF} (c_require_plant : Fg P w K mg base T 4 "require_plant" 1 [] g_require_plant) {g_require_station : WF} (c_require_station : Fg P w K mg base T 3 "require_station" 2 [] g_require_station) :
    Fg P w K mg base T (5) "path_to_shop" 2 [] (gOf 2 3 (W_path_to_shop g_require_plant g_require_station)) := by
  refine fg_of (N := N_path_to_shop) F hm sc_path_to_shop (F.binds (ps := ["plant", "station"]) fun _ _ _ _ _ _ us hl => match us, hl with | [_, _], _ => rfl) rfl (by decide) (by decide) fun X cdv A outer s0 H E Z HB => ?_
  obtain ⟨hX, hT, hgd, hr, hp, tk, hmg, hcd⟩ := HB
  have hu := hr.units
  subst hX hT
  have d_require_plant := c_require_plant.to hgd hr (by decide)
  have d_require_station := c_require_station.to hgd hr (by decide)
  have HN := sc_path_to_shop.nd
  exact (ss_cons (s_expr (e_call d_require_plant (pa_cons (ad_ex (e_var 0)) pa_nil) rfl rfl (by exact (show List.Nodup ([] : List Nat) from by decide)) (by rfl)))
  (ss_cons (s_expr (e_call d_require_station (pa_cons (ad_ex (e_var 0)) (pa_cons (ad_ex (e_var 1)) pa_nil)) rfl rfl (by exact (show List.Nodup ([] : List Nat) from by decide)) (by rfl)))
  (ss_cons (s_set (i := 2) HN rfl (by first | exact .inl rfl | exact .inr rfl) (by decide) (e_list (pa_cons (ad_ex (e_var 1)) pa_nil)))
  (ss_cons (s_while hp (t_cmp op_gt rd_gt (ad_ex (e_ix ix_seq rd_ix (ad_nm 2) (ad_ex (e_un un_neg rd_neg (ad_ex e_int))) (fun _ _ => rfl))) (ad_ex e_int) (nomark _))
  (ss_one (s_expr (e_mu 2 PySem.F.plainAttrs_list PySem.F.slot_list_append PySem.F.type_list_append mt_append lm_append (pa_cons (ad_ex (e_ix ix_seq rd_ix (ad_ex (e_var 0)) (ad_ex (e_bin op_sub rd_sub (ad_ex (e_ix ix_seq rd_ix (ad_nm 2) (ad_ex (e_un un_neg rd_neg (ad_ex e_int))) (fun _ _ => rfl))) (ad_ex e_int))) (fun _ _ => rfl))) pa_nil)))))
  (ss_one (s_ret (e_mov 2)))))))
abbrev s_require_days : Stmt := topS 17
abbrev N_require_days : List Str := ["value", "low", "high"]
theorem sc_require_days : FnScope N_require_days ["value", "low", "high"] (defScope s_require_days) := ⟨rfl, rfl, rfl, by decide +kernel, rfl, by decide +kernel, by decide +kernel⟩
def W_require_days (g_in_range : WF) : WS :=
  (sIf (wTnot (wTb (wCall [.ex (wV 0), .ex (wV 1), .ex (wV 2)] g_in_range)))
  sNever
  sNext)
theorem ok_require_days {P : Program} {w : World} {K : PySem.W.Frag} {mg : Str → Option Value} {base : Heap} {T : List Addr} {fa : Addr} {fd : FuncData} (F : Fun K "require_days" "require_days" s_require_days fa fd) (hm : mg "require_days" = some (.ref fa)) (M : Mg mg) {g_in_range : WF} (c_in_range : Fg P w K mg base T 2 "in_range" 3 [] g_in_range) :
    Fg P w K mg base T (3) "require_days" 3 [] (gOf 3 3 (W_require_days g_in_range)) := by
  refine fg_of (N := N_require_days) F hm sc_require_days (F.binds (ps := ["value", "low", "high"]) fun _ _ _ _ _ _ us hl => match us, hl with | [_, _, _], _ => rfl) rfl (by decide) (by decide) fun X cdv A outer s0 H E Z HB => ?_
  obtain ⟨hX, hT, hgd, hr, hp, tk, hmg, hcd⟩ := HB
  have hu := hr.units
  subst hX hT
  have d_in_range := c_in_range.to hgd hr (by decide)
  have HN := sc_require_days.nd
  exact (ss_one (s_if (t_not (t_val (e_call d_in_range (pa_cons (ad_ex (e_var 0)) (pa_cons (ad_ex (e_var 1)) (pa_cons (ad_ex (e_var 2)) pa_nil))) rfl rfl (by exact (show List.Nodup ([] : List Nat) from by decide)) (by rfl))))
  (ss_one s_never)
  ss_nil))
abbrev s_require_pattern : Stmt := topS 21
abbrev N_require_pattern : List Str := ["plant", "value", "size", "rank"]
theorem sc_require_pattern : FnScope N_require_pattern ["plant", "value"] (defScope s_require_pattern) := ⟨rfl, rfl, rfl, by decide +kernel, rfl, by decide +kernel, by decide +kernel⟩
def W_require_pattern (g_in_range : WF) : WS :=
  (sSeq (sStore 2 (wFz (wRd [.ex (wRd [.ex (wV 0)] oLen), .ex (wC (.int 1))] oAdd)))
  (sSeq (sIf (wTor (wTnot (wTb (wRd [.ex (wV 1)] (oIsi "tuple")))) (wTnot (wTb (wRd [.ex (wLf (wLc (wiS (wV 1)) (gN 3) wYes (wFz (wCall [.ex (wV 3), .ex (wC (.int 0)), .ex (wRd [.ex (wV 2), .ex (wC (.int 1))] oSub)] g_in_range)) [3]))] oAll))))
  sNever
  sNext)
  (sIf (wTb (wRd [.ex (wRd [.ex (wV 1)] (oSortD false)), .ex (wLR1 (wV 2))] (oEqA true)))
  sNever
  sNext)))
theorem ok_require_pattern {P : Program} {w : World} {K : PySem.W.Frag} {mg : Str → Option Value} {base : Heap} {T : List Addr} {fa : Addr} {fd : FuncData} (F : Fun K "require_pattern" "require_pattern" s_require_pattern fa fd) (hm : mg "require_pattern" = some (.ref fa)) (M : Mg mg) {g_in_range : WF} (c_in_range : Fg P w K mg base T 2 "in_range" 3 [] g_in_range) :
    Fg P w K mg base T (3) "require_pattern" 2 [] (gOf 2 4 (W_require_pattern g_in_range)) := by
  refine fg_of (N := N_require_pattern) F hm sc_require_pattern (F.binds (ps := ["plant", "value"]) fun _ _ _ _ _ _ us hl => match us, hl with | [_, _], _ => rfl) rfl (by decide) (by decide) fun X cdv A outer s0 H E Z HB => ?_
  obtain ⟨hX, hT, hgd, hr, hp, tk, hmg, hcd⟩ := HB
  have hu := hr.units
  subst hX hT
  have d_in_range := c_in_range.to hgd hr (by decide)
  have HN := sc_require_pattern.nd
  exact (ss_cons (s_set (i := 2) HN rfl (by first | exact .inl rfl | exact .inr rfl) (by decide) (e_fz (e_bin op_addAll rd_add (ad_ex (e_callB call_len rd_len (by rfl) M.b_len (by rfl) (pa_cons (ad_ex (e_var 0)) pa_nil))) (ad_ex e_int))))
  (ss_cons (s_if (L2.PW.pt (tw_or (t_not (t_val (e_isi tyN_tuple (ad_ex (e_var 1)) (by rfl) M.b_isinstance (by rfl) M.b_tuple (by rfl)))) (tw_or1 (t_not (t_val (e_callB (cr_all rfl) rd_all (by rfl) M.b_all (by rfl) (pa_cons (ad_ex (e_lf (e_lc (ow := [("rank", 3)]) rfl HN (i_seq (e_var 1)) (show BlkOk N_require_pattern (defScope s_require_pattern) _ [("rank", 3)] from ⟨rfl, by decide +kernel, by decide +kernel, by decide +kernel, by decide +kernel⟩) (fun _ _ _ _ _ => (g_name HN rfl (by first | exact .inl rfl | exact .inr rfl) rfl)) (fun _ _ _ _ _ => ts_nil) (fun _ _ _ _ _ => (e_fz (e_call d_in_range (pa_cons (ad_ex (e_var 3)) (pa_cons (ad_ex e_int) (pa_cons (ad_ex (e_bin op_sub rd_sub (ad_ex (e_var 2)) (ad_ex e_int))) pa_nil))) rfl rfl (by exact (show List.Nodup ([] : List Nat) from by decide)) (by rfl))))))) pa_nil)))))))
  (ss_one s_never)
  ss_nil)
  (ss_one (s_if (t_cmp (op_neA hu) rd_neA (ad_ex (e_callB (cr_sortDt hu) rd_sortD (by rfl) M.b_sorted (by rfl) (pa_cons (ad_ex (e_var 1)) pa_nil))) (ad_ex (e_listRg1 rfl (by rfl) M.b_list (by rfl) M.b_range (e_var 2))) (nomark _))
  (ss_one s_never)
  ss_nil))))
abbrev s_last_chain : Stmt := topS 22
abbrev N_last_chain : List Str := ["plant", "pattern", "lower", "maker", "chain", "station", "giver", "other"]
theorem sc_last_chain : FnScope N_last_chain ["plant", "pattern"] (defScope s_last_chain) := ⟨rfl, rfl, rfl, by decide +kernel, rfl, by decide +kernel, by decide +kernel⟩
def W_last_chain (g_path_to_shop : WF) (g_supplier_lists : WF) : WS :=
  (sSeq (sStore 2 (wFz (wCall [.ex (wV 0)] g_supplier_lists)))
  (sSeq (sStore 3 (wRmN .n 1 [.ex (wRd [.ex (wRd [.ex (wVt 1)] oLen), .ex (wC (.int 1))] oSub)] oIndexN))
  (sSeq (sStore 4 (wFz (wRd [.ex (wCall [.ex (wV 0), .ex (wV 3)] g_path_to_shop)] oBack)))
  (sSeq (sIf (wTb (wRd [.ex (wRd [.ex (wV 2), .ex (wV 3)] oIx), .ex (wRd [] oLst)] (oEqA true)))
  (sRet (wC .none))
  sNext)
  (sSeq (sFor (wiZL (wV 4) (wSl (.ex (wV 4)) (.of (wC (.int 1))) .no)) (gT 2 (gsC (gN 5) (gsC (gN 6) gsN)))
  (sIf (wTb (wRd [.ex (wLf (wLc (wiS (wRd [.ex (wV 2), .ex (wV 5)] oIx)) (gN 7) (wTb (wRd [.ex (wV 7), .ex (wV 6)] (oEqA true))) (wRd [.ex (wRd [.ex (wVt 1), .ex (wV 7)] oIx), .ex (wRd [.ex (wVt 1), .ex (wV 5)] oIx)] oLt) [7]))] oAny))
  (sRet (wC .none))
  sNext))
  (sRet (wV 4)))))))
theorem ok_last_chain {P : Program} {w : World} {K : PySem.W.Frag} {mg : Str → Option Value} {base : Heap} {T : List Addr} {fa : Addr} {fd : FuncData} (F : Fun K "last_chain" "last_chain" s_last_chain fa fd) (hm : mg "last_chain" = some (.ref fa)) (M : Mg mg) {g_path_to_shop : WF} (c_path_to_shop : Fg P w K mg base T 5 "path_to_shop" 2 [] g_path_to_shop) {g_supplier_lists : WF} (c_supplier_lists : Fg P w K mg base T 1 "supplier_lists" 1 [] g_supplier_lists) :
    Fg P w K mg base T (6) "last_chain" 2 [] (gOf 2 8 (W_last_chain g_path_to_shop g_supplier_lists)) := by
  refine fg_of (N := N_last_chain) F hm sc_last_chain (F.binds (ps := ["plant", "pattern"]) fun _ _ _ _ _ _ us hl => match us, hl with | [_, _], _ => rfl) rfl (by decide) (by decide) fun X cdv A outer s0 H E Z HB => ?_
  obtain ⟨hX, hT, hgd, hr, hp, tk, hmg, hcd⟩ := HB
  have hu := hr.units
  subst hX hT
  have d_path_to_shop := c_path_to_shop.to hgd hr (by decide)
  have d_supplier_lists := c_supplier_lists.to hgd hr (by decide)
  have HN := sc_last_chain.nd
  exact (ss_cons (s_set (i := 2) HN rfl (by first | exact .inl rfl | exact .inr rfl) (by decide) (e_fz (e_call d_supplier_lists (pa_cons (ad_ex (e_var 0)) pa_nil) rfl rfl (by exact (show List.Nodup ([] : List Nat) from by decide)) (by rfl))))
  (ss_cons (s_set (i := 3) HN rfl (by first | exact .inl rfl | exact .inr rfl) (by decide) (e_rmN .n 1 PySem.F.plainAttrs_tuple PySem.F.slot_tuple_index PySem.F.type_tuple_index mt_indexT rd_indexN (pa_cons (ad_ex (e_bin op_sub rd_sub (ad_ex (e_callB call_len rd_len (by rfl) M.b_len (by rfl) (pa_cons (ad_ex (e_vart 1)) pa_nil))) (ad_ex e_int))) pa_nil)))
  (ss_cons (s_set (i := 4) HN rfl (by first | exact .inl rfl | exact .inr rfl) (by decide) (e_fz (e_back (ad_ex (e_call d_path_to_shop (pa_cons (ad_ex (e_var 0)) (pa_cons (ad_ex (e_var 3)) pa_nil)) rfl rfl (by exact (show List.Nodup ([] : List Nat) from by decide)) (by rfl))))))
  (ss_cons (s_if (t_cmp (op_neA hu) rd_neA (ad_ex (e_ix ix_seq rd_ix (ad_ex (e_var 2)) (ad_ex (e_var 3)) (fun _ _ => rfl))) (ad_ex (e_list pa_nil)) (nomark _))
  (ss_one (s_ret e_non))
  ss_nil)
  (ss_cons (s_for (own := [5, 6]) hp rfl (i_zipL (by rfl) M.b_zip (e_var 4) (e_slice (ad_ex (e_var 4)) (p_of e_int) p_no)) (g_tup rfl (gs_cons (g_name HN rfl (by first | exact .inl rfl | exact .inr rfl) rfl) (gs_cons (g_name HN rfl (by first | exact .inl rfl | exact .inr rfl) rfl) gs_nil))) (by decide)
  (ss_one (s_if (t_val (e_callB (cr_any rfl) rd_any (by rfl) M.b_any (by rfl) (pa_cons (ad_ex (e_lf (e_lc (ow := [("other", 7)]) rfl HN (i_seq (e_ix ix_seq rd_ix (ad_ex (e_var 2)) (ad_ex (e_var 5)) (fun _ _ => rfl))) (show BlkOk N_last_chain (defScope s_last_chain) _ [("other", 7)] from ⟨rfl, by decide +kernel, by decide +kernel, by decide +kernel, by decide +kernel⟩) (fun _ _ _ _ _ => (g_name HN rfl (by first | exact .inl rfl | exact .inr rfl) rfl)) (fun _ _ _ _ _ => (ts_one (t_cmp (op_neA hu) rd_neA (ad_ex (e_var 7)) (ad_ex (e_var 6)) (nomark _)))) (fun _ _ _ _ _ => (e_cmp op_lt rd_lt (ad_ex (e_ix ix_seq rd_ix (ad_ex (e_vart 1)) (ad_ex (e_var 7)) (fun _ _ => rfl))) (ad_ex (e_ix ix_seq rd_ix (ad_ex (e_vart 1)) (ad_ex (e_var 5)) (fun _ _ => rfl))) (nomark _)))))) pa_nil)))
  (ss_one (s_ret e_non))
  ss_nil)))
  (ss_one (s_ret (e_var 4))))))))
abbrev s_before_day : Stmt := topS 23
abbrev N_before_day : List Str := ["plant", "pattern", "chain", "earlier", "station", "giver", "found", "rank", "stock", "other"]
theorem sc_before_day : FnScope N_before_day ["plant", "pattern"] (defScope s_before_day) := ⟨rfl, rfl, rfl, by decide +kernel, rfl, by decide +kernel, by decide +kernel⟩
def W_before_day (g_last_chain : WF) : WS :=
  (sSeq (sStore 2 (wFz (wCall [.ex (wV 0), .ex (wVn 1)] g_last_chain)))
  (sSeq (sIf (wTb (wRd [.ex (wV 2), .ex (wC .none)] (oIsN false)))
  (sRet (wRd [] oLst0))
  sNext)
  (sSeq (sStore 3 (wRd [.ex (wVt 1)] oList))
  (sSeq (sFor (wiZL (wV 2) (wSl (.ex (wV 2)) (.of (wC (.int 1))) .no)) (gT 2 (gsC (gN 4) (gsC (gN 5) gsN)))
  (sSetI 3 (wRd [.ex (wVt 1), .ex (wV 4)] oIx) (wV 5)))
  (sSeq (sGf 3 (sStore 6 (wRd [] oLst0)))
  (sSeq (sFor (wiR1 (wRd [.ex (wVt 1)] oLen)) (gN 7)
  (sSeq (sStore 8 (wLf (wLc (wiS (wV 3)) (gN 9) wYes (wFz (wRd [.ex (wV 9), .ex (wRd [.ex (wRd [.ex (wV 9), .ex (wV 7)] oGe)] oIntB)] oAdd)) [9])))
  (sSeq (sSetI 8 (wV 7) (wC (.int 0)))
  (sDrop (wMu "list" 6 [(wRd [.nm 8] oTupN)] lmAppend)))))
  (sRet (wRd [.nm 6] oSortO))))))))
theorem ok_before_day {P : Program} {w : World} {K : PySem.W.Frag} {mg : Str → Option Value} {base : Heap} {T : List Addr} {fa : Addr} {fd : FuncData} (F : Fun K "before_day" "before_day" s_before_day fa fd) (hm : mg "before_day" = some (.ref fa)) (M : Mg mg) {g_last_chain : WF} (c_last_chain : Fg P w K mg base T 6 "last_chain" 2 [] g_last_chain) :
    Fg P w K mg base T (7) "before_day" 2 [] (gOf 2 10 (W_before_day g_last_chain)) := by
  refine fg_of (N := N_before_day) F hm sc_before_day (F.binds (ps := ["plant", "pattern"]) fun _ _ _ _ _ _ us hl => match us, hl with | [_, _], _ => rfl) rfl (by decide) (by decide) fun X cdv A outer s0 H E Z HB => ?_
  obtain ⟨hX, hT, hgd, hr, hp, tk, hmg, hcd⟩ := HB
  have hu := hr.units
  subst hX hT
  have d_last_chain := c_last_chain.to hgd hr (by decide)
  have HN := sc_before_day.nd
  exact (ss_cons (s_set (i := 2) HN rfl (by first | exact .inl rfl | exact .inr rfl) (by decide) (e_fz (e_call d_last_chain (pa_cons (ad_ex (e_var 0)) (pa_cons (ad_ex (e_varn 1)) pa_nil)) rfl rfl (by exact (show List.Nodup ([] : List Nat) from by decide)) (by rfl))))
  (ss_cons (s_if (t_cmp op_isN rd_isN (ad_ex (e_var 2)) (ad_ex e_non) (nomark _))
  (ss_one (s_ret (e_list0 pa_nil)))
  ss_nil)
  (ss_cons (s_set (i := 3) HN rfl (by first | exact .inl rfl | exact .inr rfl) (by decide) (e_callT call_list_of rd_list (by rfl) M.b_list (by rfl) (pa_cons (ad_ex (e_vart 1)) pa_nil)))
  (ss_cons (s_for (own := [4, 5]) hp rfl (i_zipL (by rfl) M.b_zip (e_var 2) (e_slice (ad_ex (e_var 2)) (p_of e_int) p_no)) (g_tup rfl (gs_cons (g_name HN rfl (by first | exact .inl rfl | exact .inr rfl) rfl) (gs_cons (g_name HN rfl (by first | exact .inl rfl | exact .inr rfl) rfl) gs_nil))) (by decide)
  (ss_one (s_setI 3 (e_ix ix_seq rd_ix (ad_ex (e_vart 1)) (ad_ex (e_var 4)) (fun _ _ => rfl)) (e_var 5))))
  (ss_cons (s_gf 3 (s_set (i := 6) HN rfl (by first | exact .inl rfl | exact .inr rfl) (by decide) (e_list0 pa_nil)))
  (ss_cons (s_for (own := [7]) hp rfl (i_r1 (by rfl) M.b_range (e_callB call_len rd_len (by rfl) M.b_len (by rfl) (pa_cons (ad_ex (e_vart 1)) pa_nil))) (g_name HN rfl (by first | exact .inl rfl | exact .inr rfl) rfl) (by decide)
  (ss_cons (s_setLc (ow := [("other", 9)]) (i := 8) up_lf rfl HN rfl rfl (by decide) rfl (i_seq (e_var 3)) (show BlkOk N_before_day (defScope s_before_day) _ [("other", 9)] from ⟨rfl, by decide +kernel, by decide +kernel, by decide +kernel, by decide +kernel⟩) (fun _ _ _ _ _ => (g_name HN rfl (by first | exact .inl rfl | exact .inr rfl) rfl)) (fun _ _ _ _ _ => ts_nil) (fun _ _ _ _ _ => (e_fz (e_bin op_addAll rd_add (ad_ex (e_var 9)) (ad_ex (e_callT call_intB rd_intB (by rfl) M.b_int (by rfl) (pa_cons (ad_ex (e_cmp op_ge rd_ge (ad_ex (e_var 9)) (ad_ex (e_var 7)) (nomark _))) pa_nil)))))))
  (ss_cons (s_setI 8 (e_var 7) e_int)
  (ss_one (s_expr (e_mu 6 PySem.F.plainAttrs_list PySem.F.slot_list_append PySem.F.type_list_append mt_append lm_append (pa_cons (ad_ex (e_callT call_tupleN rd_tupN (by rfl) M.b_tuple (by rfl) (pa_cons (ad_nm 8) pa_nil))) pa_nil)))))))
  (ss_one (s_ret (e_callB (cr_sortDt hu) rd_sortO (by rfl) M.b_sorted (by rfl) (pa_cons (ad_nm 6) pa_nil))))))))))
abbrev s_count_before : Stmt := topS 24
abbrev N_count_before : List Str := ["plant", "pattern", "days", "found", "day", "one", "earlier"]
theorem sc_count_before : FnScope N_count_before ["plant", "pattern", "days"] (defScope s_count_before) := ⟨rfl, rfl, rfl, by decide +kernel, rfl, by decide +kernel, by decide +kernel⟩
def W_count_before (g_before_day : WF) (g_require_days : WF) (g_require_pattern : WF) (g_require_plant : WF) : WS :=
  (sSeq (sDrop (wCall [.ex (wV 0)] g_require_plant))
  (sSeq (sDrop (wCall [.ex (wV 0), .ex (wVt 1)] g_require_pattern))
  (sSeq (sDrop (wCall [.ex (wV 2), .ex (wC (.int 0)), .ex (wC (.int 60))] g_require_days))
  (sSeq (sIf (wTb (wRd [.ex (wRd [.ex (wVt 1)] oLen), .ex (wC (.int 6))] oGt))
  sNever
  sNext)
  (sSeq (sStore 3 (wRd [.ex (wVn 1)] oLstM))
  (sSeq (sFor (wiR1 (wV 2)) (gN 4)
  (sStore 3 (wFzM (wLcN (wiM (wV 3)) (gN 5) wYes [5, 6] (bC (wiM (wFzM (wCall [.ex (wV 0), .ex (wVn 5)] g_before_day))) (gN 6) wYes [6] (bE (wVn 6)))))))
  (sRet (wRd [.ex (wUe (wV 3))] oLen))))))))
theorem ok_count_before {P : Program} {w : World} {K : PySem.W.Frag} {mg : Str → Option Value} {base : Heap} {T : List Addr} {fa : Addr} {fd : FuncData} (F : Fun K "count_before" "count_before" s_count_before fa fd) (hm : mg "count_before" = some (.ref fa)) (M : Mg mg) {g_before_day : WF} (c_before_day : Fg P w K mg base T 7 "before_day" 2 [] g_before_day) {g_require_days : WF} (c_require_days : Fg P w K mg base T 3 "require_days" 3 [] g_require_days) {g_require_pattern : WF} (c_require_pattern : Fg P w K mg base T 3 "require_pattern" 2 [] g_require_pattern) {g_require_plant : WF} (c_require_plant : Fg P w K mg base T 4 "require_plant" 1 [] g_require_plant) :
    Fg P w K mg base T (8) "count_before" 3 [] (gOf 3 7 (W_count_before g_before_day g_require_days g_require_pattern g_require_plant)) := by
  refine fg_of (N := N_count_before) F hm sc_count_before (F.binds (ps := ["plant", "pattern", "days"]) fun _ _ _ _ _ _ us hl => match us, hl with | [_, _, _], _ => rfl) rfl (by decide) (by decide) fun X cdv A outer s0 H E Z HB => ?_
  obtain ⟨hX, hT, hgd, hr, hp, tk, hmg, hcd⟩ := HB
  have hu := hr.units
  obtain ⟨t_MOST_COUNTED, hc_MOST_COUNTED⟩ := M.c_MOST_COUNTED
  obtain ⟨t_MOST_DAYS, hc_MOST_DAYS⟩ := M.c_MOST_DAYS
  subst hX hT
  have d_before_day := c_before_day.to hgd hr (by decide)
  have d_require_days := c_require_days.to hgd hr (by decide)
  have d_require_pattern := c_require_pattern.to hgd hr (by decide)
  have d_require_plant := c_require_plant.to hgd hr (by decide)
  have HN := sc_count_before.nd
  exact (ss_cons (s_expr (e_call d_require_plant (pa_cons (ad_ex (e_var 0)) pa_nil) rfl rfl (by exact (show List.Nodup ([] : List Nat) from by decide)) (by rfl)))
  (ss_cons (s_expr (e_call d_require_pattern (pa_cons (ad_ex (e_var 0)) (pa_cons (ad_ex (e_vart 1)) pa_nil)) rfl rfl (by exact (show List.Nodup ([] : List Nat) from by decide)) (by rfl)))
  (ss_cons (s_expr (e_call d_require_days (pa_cons (ad_ex (e_var 2)) (pa_cons (ad_ex e_int) (pa_cons (ad_ex (e_gint (by rfl) hc_MOST_DAYS ⟨_, rfl⟩)) pa_nil))) rfl rfl (by exact (show List.Nodup ([] : List Nat) from by decide)) (by rfl)))
  (ss_cons (s_if (t_cmp op_gt rd_gt (ad_ex (e_callB call_len rd_len (by rfl) M.b_len (by rfl) (pa_cons (ad_ex (e_vart 1)) pa_nil))) (ad_ex (e_gint (by rfl) hc_MOST_COUNTED ⟨_, rfl⟩)) (nomark _))
  (ss_one s_never)
  ss_nil)
  (ss_cons (s_set (i := 3) HN rfl (by first | exact .inl rfl | exact .inr rfl) (by decide) (e_listM (pa_cons (ad_ex (e_varn 1)) pa_nil)))
  (ss_cons (s_for (own := [4]) hp rfl (i_r1 (by rfl) M.b_range (e_var 2)) (g_name HN rfl (by first | exact .inl rfl | exact .inr rfl) rfl) (by decide)
  (ss_one (s_setLc2 (ow := [("one", 5), ("earlier", 6)]) (vs1 := [6]) (i := 3) rfl up_fm HN rfl rfl (by decide) rfl (i_M (e_var 3)) (show BlkOk N_count_before (defScope s_count_before) _ [("one", 5), ("earlier", 6)] from ⟨rfl, by decide +kernel, by decide +kernel, by decide +kernel, by decide +kernel⟩) (by decide) (fun _ _ _ _ _ => (g_name HN rfl (by first | exact .inl rfl | exact .inr rfl) rfl)) (fun _ _ _ _ _ => ts_nil) (fun _ _ _ _ _ => (iD_M (e_fzM (e_call d_before_day (pa_cons (ad_ex (e_var 0)) (pa_cons (ad_ex (e_varn 5)) pa_nil)) rfl rfl (by exact (show List.Nodup ([] : List Nat) from by decide)) (by rfl))))) (fun _ _ _ _ _ => (g_name HN rfl (by first | exact .inl rfl | exact .inr rfl) rfl)) (fun _ _ _ _ _ => ts_nil) (fun _ _ _ _ _ => (e_varn 6)))))
  (ss_one (s_ret (e_callB call_len rd_len (by rfl) M.b_len (by rfl) (pa_cons (ad_ex (e_ue (e_var 3))) pa_nil))))))))))
abbrev s__law_pot : Stmt := topS 26
abbrev N__law_pot : List Str := ["script", "k", "cell"]
theorem sc__law_pot : FnScope N__law_pot ["script", "k"] (defScope s__law_pot) := ⟨rfl, rfl, rfl, by decide +kernel, rfl, by decide +kernel, by decide +kernel⟩
theorem ok__law_pot {P : Program} {w : World} {K : PySem.W.Frag} {mg : Str → Option Value} {base : Heap} {T : List Addr} {fa : Addr} {fd : FuncData} (F : Fun K "_law_pot" "_law_pot" s__law_pot fa fd) (hm : mg "_law_pot" = some (.ref fa)) (M : Mg mg) :
    Fg P w K mg base T (1) "_law_pot" 2 [0] (gOf 2 3 (W__law_pot)) := by
  refine fg_of (N := N__law_pot) F hm sc__law_pot (F.binds (ps := ["script", "k"]) fun _ _ _ _ _ _ us hl => match us, hl with | [_, _], _ => rfl) rfl (by decide) (by decide) fun X cdv A outer s0 H E Z HB => ?_
  obtain ⟨hX, hT, hgd, hr, hp, tk, hmg, hcd⟩ := HB
  have hu := hr.units
  subst hX hT
  have HN := sc__law_pot.nd
  exact (ss_cons (s_set (i := 2) HN rfl (by first | exact .inl rfl | exact .inr rfl) (by decide) e_int)
  (ss_cons (s_if (t_cmp op_lt rd_lt (ad_ex (e_var 1)) (ad_ex (e_callB call_len rd_len (by rfl) M.b_len (by rfl) (pa_cons (ad_nm 0) pa_nil))) (nomark _))
  (ss_one (s_set (i := 2) HN rfl (by first | exact .inl rfl | exact .inr rfl) (by decide) (e_ix ix_seq rd_ix (ad_nm 0) (ad_ex (e_var 1)) (fun _ _ => rfl))))
  ss_nil)
  (ss_one (s_ret (e_list (pa_cons (ad_ex (e_callB (call_max2 rfl) rd_max2 (by rfl) M.b_max (by rfl) (pa_cons (ad_ex e_int) (pa_cons (ad_ex (e_bin op_sub rd_sub (ad_ex (e_var 2)) (ad_ex (e_bin op_powA rd_powA (ad_ex e_int) (ad_ex e_int))))) pa_nil)))) (pa_cons (ad_ex (e_fz (e_bin op_addAll rd_add (ad_ex (e_bin op_addAll rd_add (ad_ex (e_bin op_mod rd_mod (ad_ex (e_var 2)) (ad_ex (e_bin op_addAll rd_add (ad_ex (e_bin op_powA rd_powA (ad_ex e_int) (ad_ex e_int))) (ad_ex e_int))))) (ad_ex (e_bin op_mulAll rd_mulA (ad_ex e_int) (ad_ex (e_var 1)))))) (ad_ex e_int)))) (pa_cons (ad_ex e_int) pa_nil))))))))
abbrev s__law_draw : Stmt := topS 27
abbrev N__law_draw : List Str := ["pot", "bound", "found", "mixed"]
theorem sc__law_draw : FnScope N__law_draw ["pot", "bound"] (defScope s__law_draw) := ⟨rfl, rfl, rfl, by decide +kernel, rfl, by decide +kernel, by decide +kernel⟩
theorem ok__law_draw {P : Program} {w : World} {K : PySem.W.Frag} {mg : Str → Option Value} {base : Heap} {T : List Addr} {fa : Addr} {fd : FuncData} (F : Fun K "_law_draw" "_law_draw" s__law_draw fa fd) (hm : mg "_law_draw" = some (.ref fa)) (M : Mg mg) :
    Fg P w K mg base T (1) "_law_draw" 2 [0] (gOf 2 4 (W__law_draw)) := by
  refine fg_of (N := N__law_draw) F hm sc__law_draw (F.binds (ps := ["pot", "bound"]) fun _ _ _ _ _ _ us hl => match us, hl with | [_, _], _ => rfl) rfl (by decide) (by decide) fun X cdv A outer s0 H E Z HB => ?_
  obtain ⟨hX, hT, hgd, hr, hp, tk, hmg, hcd⟩ := HB
  have hu := hr.units
  subst hX hT
  have HN := sc__law_draw.nd
  exact (ss_cons (s_if (t_cmp op_gt rd_gt (ad_ex (e_ix ix_seq rd_ix (ad_nm 0) (ad_ex e_int) (fun _ _ => rfl))) (ad_ex e_int) (nomark _))
  (ss_cons (s_set (i := 2) HN rfl (by first | exact .inl rfl | exact .inr rfl) (by decide) (e_bin op_mod rd_mod (ad_ex (e_ix ix_seq rd_ix (ad_nm 0) (ad_ex e_int) (fun _ _ => rfl))) (ad_ex (e_var 1))))
  (ss_cons (s_setI 0 (e_bin op_fdivW rd_div (ad_ex (e_ix ix_seq rd_ix (ad_nm 0) (ad_ex e_int) (fun _ _ => rfl))) (ad_ex (e_var 1))) e_int)
  (ss_one (s_ret (e_var 2)))))
  ss_nil)
  (ss_cons (s_setI 0 (e_fz (e_bin op_addAll rd_add (ad_ex (e_ix ix_seq rd_ix (ad_nm 0) (ad_ex e_int) (fun _ _ => rfl))) (ad_ex e_int))) e_int)
  (ss_cons (s_set (i := 3) HN rfl (by first | exact .inl rfl | exact .inr rfl) (by decide) (e_bin op_mod rd_mod (ad_ex (e_bin op_powA rd_powA (ad_ex (e_bin op_addAll rd_add (ad_ex (e_ix ix_seq rd_ix (ad_nm 0) (ad_ex e_int) (fun _ _ => rfl))) (ad_ex (e_bin op_mulAll rd_mulA (ad_ex e_int) (ad_ex (e_ix ix_seq rd_ix (ad_nm 0) (ad_ex e_int) (fun _ _ => rfl))))))) (ad_ex e_int))) (ad_ex (e_bin op_addAll rd_add (ad_ex (e_bin op_powA rd_powA (ad_ex e_int) (ad_ex e_int))) (ad_ex e_int)))))
  (ss_cons (s_set (i := 3) HN rfl (by first | exact .inl rfl | exact .inr rfl) (by decide) (e_bin op_mod rd_mod (ad_ex (e_bin op_powA rd_powA (ad_ex (e_bin op_addAll rd_add (ad_ex (e_var 3)) (ad_ex (e_bin op_mulAll rd_mulA (ad_ex e_int) (ad_ex (e_ix ix_seq rd_ix (ad_nm 0) (ad_ex e_int) (fun _ _ => rfl))))))) (ad_ex e_int))) (ad_ex (e_bin op_addAll rd_add (ad_ex (e_bin op_powA rd_powA (ad_ex e_int) (ad_ex e_int))) (ad_ex e_int)))))
  (ss_one (s_ret (e_bin op_mod rd_mod (ad_ex (e_bin op_fdivW rd_div (ad_ex (e_var 3)) (ad_ex e_int))) (ad_ex (e_var 1)))))))))
abbrev s__law_mixed : Stmt := topS 28
abbrev N__law_mixed : List Str := ["pot", "things", "left", "k"]
theorem sc__law_mixed : FnScope N__law_mixed ["pot", "things"] (defScope s__law_mixed) := ⟨rfl, rfl, rfl, by decide +kernel, rfl, by decide +kernel, by decide +kernel⟩
def W__law_mixed (g__law_draw : WF) : WS :=
  (sSeq (sStore 2 (wRd [.ex (wV 1)] oListZ))
  (sRet (wLc (wiR1 (wRd [.ex (wUe (wV 1))] oLen)) (gN 3) wYes (wMu "list" 2 [(wFz (wCall [.nm 0, .ex (wRd [.nm 2] oLen)] g__law_draw))] lmPopN) [3])))
theorem ok__law_mixed {P : Program} {w : World} {K : PySem.W.Frag} {mg : Str → Option Value} {base : Heap} {T : List Addr} {fa : Addr} {fd : FuncData} (F : Fun K "_law_mixed" "_law_mixed" s__law_mixed fa fd) (hm : mg "_law_mixed" = some (.ref fa)) (M : Mg mg) {g__law_draw : WF} (c__law_draw : Fg P w K mg base T 1 "_law_draw" 2 [0] g__law_draw) :
    Fg P w K mg base T (2) "_law_mixed" 2 [0] (gOf 2 4 (W__law_mixed g__law_draw)) := by
  refine fg_of (N := N__law_mixed) F hm sc__law_mixed (F.binds (ps := ["pot", "things"]) fun _ _ _ _ _ _ us hl => match us, hl with | [_, _], _ => rfl) rfl (by decide) (by decide) fun X cdv A outer s0 H E Z HB => ?_
  obtain ⟨hX, hT, hgd, hr, hp, tk, hmg, hcd⟩ := HB
  have hu := hr.units
  subst hX hT
  have d__law_draw := c__law_draw.to hgd hr (by decide)
  have HN := sc__law_mixed.nd
  exact (ss_cons (s_set (i := 2) HN rfl (by first | exact .inl rfl | exact .inr rfl) (by decide) (e_callT call_list_of rd_listZ (by rfl) M.b_list (by rfl) (pa_cons (ad_ex (e_var 1)) pa_nil)))
  (ss_one (s_ret (e_lc (ow := [("k", 3)]) rfl HN (i_r1 (by rfl) M.b_range (e_callB call_len rd_len (by rfl) M.b_len (by rfl) (pa_cons (ad_ex (e_ue (e_var 1))) pa_nil))) (show BlkOk N__law_mixed (defScope s__law_mixed) _ [("k", 3)] from ⟨rfl, by decide +kernel, by decide +kernel, by decide +kernel, by decide +kernel⟩) (fun _ _ _ _ _ => (g_name HN rfl (by first | exact .inl rfl | exact .inr rfl) rfl)) (fun _ _ _ _ _ => ts_nil) (fun _ _ _ _ _ => (e_mu 2 PySem.F.plainAttrs_list PySem.F.slot_list_pop PySem.F.type_list_pop mt_popAt lm_popN (pa_cons (ad_ex (e_fz (e_call d__law_draw (pa_cons (ad_nm 0) (pa_cons (ad_ex (e_callB call_len rd_len (by rfl) M.b_len (by rfl) (pa_cons (ad_nm 2) pa_nil))) pa_nil)) rfl rfl (by exact (show List.Nodup [0] from by decide)) (by rfl)))) pa_nil)))))))
abbrev s__law_plant : Stmt := topS 29
abbrev N__law_plant : List Str := ["pot", "most", "many", "way", "found", "k", "low"]
theorem sc__law_plant : FnScope N__law_plant ["pot", "most"] (defScope s__law_plant) := ⟨rfl, rfl, rfl, by decide +kernel, rfl, by decide +kernel, by decide +kernel⟩
theorem ok__law_plant {P : Program} {w : World} {K : PySem.W.Frag} {mg : Str → Option Value} {base : Heap} {T : List Addr} {fa : Addr} {fd : FuncData} (F : Fun K "_law_plant" "_law_plant" s__law_plant fa fd) (hm : mg "_law_plant" = some (.ref fa)) (M : Mg mg) {g__law_draw : WF} (c__law_draw : Fg P w K mg base T 1 "_law_draw" 2 [0] g__law_draw) :
    Fg P w K mg base T (2) "_law_plant" 2 [0] (gOf 2 7 (W__law_plant g__law_draw)) := by
  refine fg_of (N := N__law_plant) F hm sc__law_plant (F.binds (ps := ["pot", "most"]) fun _ _ _ _ _ _ us hl => match us, hl with | [_, _], _ => rfl) rfl (by decide) (by decide) fun X cdv A outer s0 H E Z HB => ?_
  obtain ⟨hX, hT, hgd, hr, hp, tk, hmg, hcd⟩ := HB
  have hu := hr.units
  subst hX hT
  have d__law_draw := c__law_draw.to hgd hr (by decide)
  have HN := sc__law_plant.nd
  exact (ss_cons (s_set (i := 2) HN rfl (by first | exact .inl rfl | exact .inr rfl) (by decide) (e_callB (call_min2 rfl) rd_min2 (by rfl) M.b_min (by rfl) (pa_cons (ad_ex (e_var 1)) (pa_cons (ad_ex (e_bin op_addAll rd_add (ad_ex e_int) (ad_ex (e_call d__law_draw (pa_cons (ad_nm 0) (pa_cons (ad_ex (e_ix ix_seq rd_ix (ad_ex (e_list (pa_cons (ad_ex e_int) (pa_cons (ad_ex (e_var 1)) (pa_cons (ad_ex (e_var 1)) pa_nil))))) (ad_ex (e_call d__law_draw (pa_cons (ad_nm 0) (pa_cons (ad_ex e_int) pa_nil)) rfl rfl (by exact (show List.Nodup [0] from by decide)) (by rfl))) (fun _ _ => rfl))) pa_nil)) rfl rfl (by exact (show List.Nodup [0] from by decide)) (by rfl))))) pa_nil))))
  (ss_cons (s_par (i := 3) (j := 4) rfl HN rfl rfl (by decide) rfl rfl (by decide) (by decide) (e_fz (e_call d__law_draw (pa_cons (ad_nm 0) (pa_cons (ad_ex e_int) pa_nil)) rfl rfl (by exact (show List.Nodup [0] from by decide)) (by rfl))) (e_list pa_nil) rfl)
  (ss_cons (s_for (own := [5]) hp rfl (i_r1 (by rfl) M.b_range (e_bin op_sub rd_sub (ad_ex (e_var 2)) (ad_ex e_int))) (g_name HN rfl (by first | exact .inl rfl | exact .inr rfl) rfl) (by decide)
  (ss_cons (s_set (i := 6) HN rfl (by first | exact .inl rfl | exact .inr rfl) (by decide) (e_ix ix_seq rd_ix (ad_ex (e_list (pa_cons (ad_ex e_int) (pa_cons (ad_ex (e_var 5)) (pa_cons (ad_ex e_int) (pa_cons (ad_ex (e_callB (call_max2 rfl) rd_max2 (by rfl) M.b_max (by rfl) (pa_cons (ad_ex e_int) (pa_cons (ad_ex (e_bin op_sub rd_sub (ad_ex (e_var 5)) (ad_ex e_int))) pa_nil)))) (pa_cons (ad_ex e_int) (pa_cons (ad_ex (e_bin op_fdivW rd_div (ad_ex (e_var 5)) (ad_ex e_int))) pa_nil)))))))) (ad_ex (e_var 3)) (fun _ _ => rfl)))
  (ss_one (s_expr (e_mu 4 PySem.F.plainAttrs_list PySem.F.slot_list_append PySem.F.type_list_append mt_append lm_append (pa_cons (ad_ex (e_fz (e_bin op_addAll rd_add (ad_ex (e_var 6)) (ad_ex (e_call d__law_draw (pa_cons (ad_nm 0) (pa_cons (ad_ex (e_ix ix_seq rd_ix (ad_ex (e_list (pa_cons (ad_ex (e_fz (e_bin op_addAll rd_add (ad_ex (e_var 5)) (ad_ex e_int)))) (pa_cons (ad_ex e_int) (pa_cons (ad_ex e_int) (pa_cons (ad_ex (e_bin op_sub rd_sub (ad_ex (e_bin op_addAll rd_add (ad_ex (e_var 5)) (ad_ex e_int))) (ad_ex (e_var 6)))) (pa_cons (ad_ex (e_fz (e_bin op_addAll rd_add (ad_ex (e_var 5)) (ad_ex e_int)))) (pa_cons (ad_ex (e_bin op_sub rd_sub (ad_ex (e_bin op_addAll rd_add (ad_ex (e_var 5)) (ad_ex e_int))) (ad_ex (e_var 6)))) pa_nil)))))))) (ad_ex (e_var 3)) (fun _ _ => rfl))) pa_nil)) rfl rfl (by exact (show List.Nodup [0] from by decide)) (by rfl)))))) pa_nil))))))
  (ss_one (s_gf 4 (s_ret (e_callT call_tuple_of rd_tuple (by rfl) M.b_tuple (by rfl) (pa_cons (ad_nm 4) pa_nil))))))))
abbrev s__law_givers : Stmt := topS 30
abbrev N__law_givers : List Str := ["plant", "here", "k"]
theorem sc__law_givers : FnScope N__law_givers ["plant"] (defScope s__law_givers) := ⟨rfl, rfl, rfl, by decide +kernel, rfl, by decide +kernel, by decide +kernel⟩
theorem ok__law_givers {P : Program} {w : World} {K : PySem.W.Frag} {mg : Str → Option Value} {base : Heap} {T : List Addr} {fa : Addr} {fd : FuncData} (F : Fun K "_law_givers" "_law_givers" s__law_givers fa fd) (hm : mg "_law_givers" = some (.ref fa)) (M : Mg mg) :
    Fg P w K mg base T (1) "_law_givers" 1 [] (gOf 1 3 (W__law_givers)) := by
  refine fg_of (N := N__law_givers) F hm sc__law_givers (F.binds (ps := ["plant"]) fun _ _ _ _ _ _ us hl => match us, hl with | [_], _ => rfl) rfl (by decide) (by decide) fun X cdv A outer s0 H E Z HB => ?_
  obtain ⟨hX, hT, hgd, hr, hp, tk, hmg, hcd⟩ := HB
  have hu := hr.units
  subst hX hT
  have HN := sc__law_givers.nd
  exact (ss_one (s_ret (e_lf (e_lc (ow := [("here", 1)]) rfl HN (i_r1 (by rfl) M.b_range (e_bin op_addAll rd_add (ad_ex (e_callB call_len rd_len (by rfl) M.b_len (by rfl) (pa_cons (ad_ex (e_var 0)) pa_nil))) (ad_ex e_int))) (show BlkOk N__law_givers (defScope s__law_givers) _ [("here", 1)] from ⟨rfl, by decide +kernel, by decide +kernel, by decide +kernel, by decide +kernel⟩) (fun _ _ _ _ _ => (g_name HN rfl (by first | exact .inl rfl | exact .inr rfl) rfl)) (fun _ _ _ _ _ => ts_nil) (fun _ _ _ _ _ => (e_fz (e_lf (e_lc (ow := [("k", 2)]) rfl HN (i_r1 (by rfl) M.b_range (e_callB call_len rd_len (by rfl) M.b_len (by rfl) (pa_cons (ad_ex (e_var 0)) pa_nil))) (by show BlkOk N__law_givers { kind := _, names := _, isGenerator := _, isCoroutine := _ } _ [("k", 2)]; exact ⟨rfl, of_decide_eq_true rfl, of_decide_eq_true rfl, of_decide_eq_true rfl, of_decide_eq_true rfl⟩) (fun _ _ _ _ _ => (g_name HN rfl (by first | exact .inl rfl | exact .inr rfl) rfl)) (fun _ _ _ _ _ => (ts_one (t_cmp (op_eqA hu) rd_eqA (ad_ex (e_ix ix_seq rd_ix (ad_ex (e_var 0)) (ad_ex (e_var 2)) (fun _ _ => rfl))) (ad_ex (e_var 1)) (nomark _)))) (fun _ _ _ _ _ => (e_fz (e_bin op_addAll rd_add (ad_ex (e_var 2)) (ad_ex e_int))))))))))))
abbrev s__law_day : Stmt := topS 31
abbrev N__law_day : List Str := ["givers", "stock", "here", "chain", "later", "oldest", "other"]
theorem sc__law_day : FnScope N__law_day ["givers", "stock"] (defScope s__law_day) := ⟨rfl, rfl, rfl, by decide +kernel, rfl, by decide +kernel, by decide +kernel⟩
theorem ok__law_day {P : Program} {w : World} {K : PySem.W.Frag} {mg : Str → Option Value} {base : Heap} {T : List Addr} {fa : Addr} {fd : FuncData} (F : Fun K "_law_day" "_law_day" s__law_day fa fd) (hm : mg "_law_day" = some (.ref fa)) (M : Mg mg) :
    Fg P w K mg base T (1) "_law_day" 2 [] (gOf 2 7 (W__law_day)) := by
  refine fg_of (N := N__law_day) F hm sc__law_day (F.binds (ps := ["givers", "stock"]) fun _ _ _ _ _ _ us hl => match us, hl with | [_, _], _ => rfl) rfl (by decide) (by decide) fun X cdv A outer s0 H E Z HB => ?_
  obtain ⟨hX, hT, hgd, hr, hp, tk, hmg, hcd⟩ := HB
  have hu := hr.units
  subst hX hT
  have HN := sc__law_day.nd
  exact (ss_cons (s_par3 (i := 2) (j := 3) (l := 4) rfl HN rfl rfl rfl (by decide) (by decide) (by decide) rfl rfl rfl (by decide) (by decide) (by decide) e_int (e_list (pa_cons (ad_ex e_int) pa_nil)) (e_callT call_list_of rd_list (by rfl) M.b_list (by rfl) (pa_cons (ad_ex (e_vart 1)) pa_nil)) rfl)
  (ss_cons (s_while hp (t_cmp (op_neA hu) rd_neA (ad_ex (e_ix ix_seq rd_ix (ad_ex (e_var 0)) (ad_ex (e_var 2)) (fun _ _ => rfl))) (ad_ex (e_list pa_nil)) (nomark _))
  (ss_cons (s_set (i := 5) HN rfl (by first | exact .inl rfl | exact .inr rfl) (by decide) (e_callB (cr_minD rfl hu) rd_mmD (by rfl) M.b_min (by rfl) (pa_cons (ad_ex (e_lf (e_lc (ow := [("other", 6)]) rfl HN (i_seq (e_ix ix_seq rd_ix (ad_ex (e_var 0)) (ad_ex (e_var 2)) (fun _ _ => rfl))) (show BlkOk N__law_day (defScope s__law_day) _ [("other", 6)] from ⟨rfl, by decide +kernel, by decide +kernel, by decide +kernel, by decide +kernel⟩) (fun _ _ _ _ _ => (g_name HN rfl (by first | exact .inl rfl | exact .inr rfl) rfl)) (fun _ _ _ _ _ => ts_nil) (fun _ _ _ _ _ => (e_ix ix_seq rd_ix (ad_ex (e_vart 1)) (ad_ex (e_var 6)) (fun _ _ => rfl)))))) pa_nil)))
  (ss_cons (s_setI 4 (e_var 5) (e_var 2))
  (ss_cons (s_set (i := 2) HN rfl (by first | exact .inl rfl | exact .inr rfl) (by decide) (e_rmN .n 1 PySem.F.plainAttrs_tuple PySem.F.slot_tuple_index PySem.F.type_tuple_index mt_indexT rd_indexN (pa_cons (ad_ex (e_var 5)) pa_nil)))
  (ss_one (s_expr (e_mu 3 PySem.F.plainAttrs_list PySem.F.slot_list_append PySem.F.type_list_append mt_append lm_append (pa_cons (ad_ex (e_var 2)) pa_nil))))))))
  (ss_cons (s_gf 3 (s_setI 4 (e_fz (e_bin op_addAll rd_add (ad_ex (e_callB (cr_maxD rfl hu) rd_mmD (by rfl) M.b_max (by rfl) (pa_cons (ad_ex (e_vart 1)) pa_nil))) (ad_ex e_int))) (e_var 2)))
  (ss_one (s_gf 4 (s_ret (e_tupO (pa_cons (ad_ex (e_mov 3)) (pa_cons (ad_ex (e_callT call_tupleN rd_tupN (by rfl) M.b_tuple (by rfl) (pa_cons (ad_nm 4) pa_nil))) pa_nil)))))))))
abbrev s__law_ranked : Stmt := topS 32
abbrev N__law_ranked : List Str := ["stock", "row", "one"]
theorem sc__law_ranked : FnScope N__law_ranked ["stock"] (defScope s__law_ranked) := ⟨rfl, rfl, rfl, by decide +kernel, rfl, by decide +kernel, by decide +kernel⟩
def W__law_ranked : WS :=
  (sSeq (sStore 1 (wFz (wRd [.ex (wV 0)] (oSortD false))))
  (sRet (wRd [.ex (wLf (wLc (wiS (wV 0)) (gN 2) wYes (wRmE .l (wV 1) [.ex (wV 2)] oIndexL) [2]))] oTupB)))
theorem ok__law_ranked {P : Program} {w : World} {K : PySem.W.Frag} {mg : Str → Option Value} {base : Heap} {T : List Addr} {fa : Addr} {fd : FuncData} (F : Fun K "_law_ranked" "_law_ranked" s__law_ranked fa fd) (hm : mg "_law_ranked" = some (.ref fa)) (M : Mg mg) :
    Fg P w K mg base T (1) "_law_ranked" 1 [] (gOf 1 3 (W__law_ranked)) := by
  refine fg_of (N := N__law_ranked) F hm sc__law_ranked (F.binds (ps := ["stock"]) fun _ _ _ _ _ _ us hl => match us, hl with | [_], _ => rfl) rfl (by decide) (by decide) fun X cdv A outer s0 H E Z HB => ?_
  obtain ⟨hX, hT, hgd, hr, hp, tk, hmg, hcd⟩ := HB
  have hu := hr.units
  subst hX hT
  have HN := sc__law_ranked.nd
  exact (ss_cons (s_set (i := 1) HN rfl (by first | exact .inl rfl | exact .inr rfl) (by decide) (e_fz (e_callB (cr_sortDt hu) rd_sortD (by rfl) M.b_sorted (by rfl) (pa_cons (ad_ex (e_var 0)) pa_nil))))
  (ss_one (s_ret (e_callT (cr_or call_tupleN call_tuple_of) (rd_tupB rd_tupN rd_tupP) (by rfl) M.b_tuple (by rfl) (pa_cons (ad_ex (e_lf (e_lc (ow := [("one", 2)]) rfl HN (i_seq (e_var 0)) (show BlkOk N__law_ranked (defScope s__law_ranked) _ [("one", 2)] from ⟨rfl, by decide +kernel, by decide +kernel, by decide +kernel, by decide +kernel⟩) (fun _ _ _ _ _ => (g_name HN rfl (by first | exact .inl rfl | exact .inr rfl) rfl)) (fun _ _ _ _ _ => ts_nil) (fun _ _ _ _ _ => (e_rmE .l PySem.F.plainAttrs_list PySem.F.slot_list_index PySem.F.type_list_index mt_index rd_indexL (e_var 1) (pa_cons (ad_ex (e_var 2)) pa_nil)))))) pa_nil)))))
abbrev s__law_all : Stmt := topS 33
abbrev N__law_all : List Str := ["count", "found", "k", "longer", "row", "rank"]
theorem sc__law_all : FnScope N__law_all ["count"] (defScope s__law_all) := ⟨rfl, rfl, rfl, by decide +kernel, rfl, by decide +kernel, by decide +kernel⟩
def W__law_all : WS :=
  (sSeq (sStore 1 (wFz (wRd [.ex (wRd [] oTup)] oLst)))
  (sSeq (sFor (wiR1 (wV 0)) (gN 2)
  (sSeq (sStore 3 (wRd [] oLst0))
  (sSeq (sForO (wiM (wV 1)) (gN 4)
  (sDrop (wMu "list" 3 [(wLc (wiR1 (wV 0)) (gN 5) (wTb (wRd [.ex (wV 5), .ex (wVq 4)] (oIn true))) (wRd [.ex (wVq 4), .ex (wRd [.ex (wV 5)] oTupD)] oAddN) [5])] lmExtendM)))
  (sStore 1 (wFzM (wM 3))))))
  (sRet (wV 1))))
theorem ok__law_all {P : Program} {w : World} {K : PySem.W.Frag} {mg : Str → Option Value} {base : Heap} {T : List Addr} {fa : Addr} {fd : FuncData} (F : Fun K "_law_all" "_law_all" s__law_all fa fd) (hm : mg "_law_all" = some (.ref fa)) (M : Mg mg) :
    Fg P w K mg base T (1) "_law_all" 1 [] (gOf 1 6 (W__law_all)) := by
  refine fg_of (N := N__law_all) F hm sc__law_all (F.binds (ps := ["count"]) fun _ _ _ _ _ _ us hl => match us, hl with | [_], _ => rfl) rfl (by decide) (by decide) fun X cdv A outer s0 H E Z HB => ?_
  obtain ⟨hX, hT, hgd, hr, hp, tk, hmg, hcd⟩ := HB
  have hu := hr.units
  subst hX hT
  have HN := sc__law_all.nd
  exact (ss_cons (s_set (i := 1) HN rfl (by first | exact .inl rfl | exact .inr rfl) (by decide) (e_fz (e_list (pa_cons (ad_ex (e_tuple pa_nil)) pa_nil))))
  (ss_cons (s_for (own := [2]) hp rfl (i_r1 (by rfl) M.b_range (e_var 0)) (g_name HN rfl (by first | exact .inl rfl | exact .inr rfl) rfl) (by decide)
  (ss_cons (s_set (i := 3) HN rfl (by first | exact .inl rfl | exact .inr rfl) (by decide) (e_list0 pa_nil))
  (ss_cons (s_forO (own := [4]) hp rfl (i_M (e_var 1)) (g_name HN rfl (by first | exact .inl rfl | exact .inr rfl) rfl) (by decide)
  (ss_one (s_expr (e_mu 3 PySem.F.plainAttrs_list PySem.F.slot_list_extend PySem.F.type_list_extend mt_extend lm_extendM (pa_cons (ad_ex (e_lc (ow := [("rank", 5)]) rfl HN (i_r1 (by rfl) M.b_range (e_var 0)) (show BlkOk N__law_all (defScope s__law_all) _ [("rank", 5)] from ⟨rfl, by decide +kernel, by decide +kernel, by decide +kernel, by decide +kernel⟩) (fun _ _ _ _ _ => (g_name HN rfl (by first | exact .inl rfl | exact .inr rfl) rfl)) (fun _ _ _ _ _ => (ts_one (t_cmp op_notIn_seq rd_in (ad_ex (e_var 5)) (ad_ex (e_varq 4)) (by rfl)))) (fun _ _ _ _ _ => (e_bin op_catN rd_addN (ad_ex (e_varq 4)) (ad_ex (e_tupleD (pa_cons (ad_ex (e_var 5)) pa_nil))))))) pa_nil)))))
  (ss_one (s_set (i := 1) HN rfl (by first | exact .inl rfl | exact .inr rfl) (by decide) (e_fzM (e_mov 3)))))))
  (ss_one (s_ret (e_var 1)))))
abbrev s__law_right : Stmt := topS 34
abbrev N__law_right : List Str := ["pot", "plant", "givers", "every", "days", "after", "row", "ends", "day", "later", "kept", "some"]
theorem sc__law_right : FnScope N__law_right ["pot"] (defScope s__law_right) := ⟨rfl, rfl, rfl, by decide +kernel, rfl, by decide +kernel, by decide +kernel⟩
def W__law_right (g__law_all : WF) (g__law_day : WF) (g__law_draw : WF) (g__law_givers : WF) (g__law_mixed : WF) (g__law_plant : WF) (g__law_ranked : WF) (g_count_before : WF) : WS :=
  (sSeq (sStore 1 (wFz (wCall [.nm 0, .ex (wC (.int 6))] g__law_plant)))
  (sSeq (sAsg (gT 2 (gsC (gN 2) (gsC (gN 3) gsN))) (wRd [.ex (wFz (wCall [.ex (wV 1)] g__law_givers)), .ex (wFz (wCall [.ex (wFz (wRd [.ex (wRd [.ex (wV 1)] oLen), .ex (wC (.int 1))] oAdd))] g__law_all))] oTup))
  (sSeq (sStore 4 (wRd [.ex (wRd [.ex (wFz (wCall [.nm 0, .ex (wC (.int 4))] g__law_draw)), .ex (wFz (wCall [.nm 0, .ex (wC (.int 13))] g__law_draw)), .ex (wFz (wCall [.nm 0, .ex (wC (.int 61))] g__law_draw))] oLst), .ex (wCall [.nm 0, .ex (wC (.int 3))] g__law_draw)] oIx))
  (sSeq (sStore 5 (wFzN (wRd [.ex (wLcN (wiM (wV 3)) (gN 6) wYes [6] (bE (wTupO [(wVn 6), (wCall [.ex (wFz (wIxT (wCall [.ex (wV 2), .ex (wVn 6)] g__law_day) (wC (.int 1))))] g__law_ranked)])))] oDictN)))
  (sSeq (sStore 7 (wFzN (wRd [.ex (wLcN (wiM (wV 3)) (gN 6) wYes [6] (bE (wTupO [(wVn 6), (wC (.int 1))])))] oDictN)))
  (sSeq (sFor (wiR1 (wV 4)) (gN 8)
  (sSeq (sStore 9 wDictN0)
  (sSeq (sForO (wiZ 7) (gN 6)
  (sPutN 9 (wFz (wRd [.ex (wRmQ 9 [.ex (wRd [.nm 5, .ex (wVn 6)] oNGet), .ex (wC (.int 0))] oNGet2), .ex (wRd [.nm 7, .ex (wVn 6)] oNGet)] oAdd)) (wRd [.nm 5, .ex (wVn 6)] oNGet)))
  (sStore 7 (wFzN (wM 9))))))
  (sSeq (sStore 10 (wRd [.ex (wRd [.ex (wV 1), .ex (wRd [.ex (wUe (wV 3)), .ex (wRd [.ex (wC (.int 1))] oNeg)] oIx)] oLst)] oRepr))
  (sSeq (sStore 11 (wFzM (wRd [.ex (wSlN (.ex (wCall [.nm 0, .ex (wFzM (wRd [.ex (wRd [.nm 7] oListN)] oSortO))] g__law_mixed)) .no (.of (wC (.int 15)))), .ex (wSlN (.ex (wCall [.nm 0, .ex (wV 3)] g__law_mixed)) .no (.of (wC (.int 15))))] oAddM)))
  (sSeq (sForO (wiM (wV 11)) (gN 6)
  (sIf (wTb (wRd [.ex (wRd [.ex (wCall [.ex (wV 1), .ex (wVn 6), .ex (wV 4)] g_count_before)] oRepr), .ex (wRd [.ex (wRmQ 7 [.ex (wVn 6), .ex (wC (.int 0))] oNGet2)] oRepr)] (oEqA true)))
  (sRet (wC (.bool false)))
  sNext))
  (sRet (wRd [.ex (wRd [.ex (wRd [.ex (wV 1), .ex (wRd [.ex (wUe (wV 3)), .ex (wRd [.ex (wC (.int 1))] oNeg)] oIx)] oLst)] oRepr), .ex (wV 10)] (oEqA false))))))))))))
theorem ok__law_right {P : Program} {w : World} {K : PySem.W.Frag} {mg : Str → Option Value} {base : Heap} {T : List Addr} {fa : Addr} {fd : FuncData} (F : Fun K "_law_right" "_law_right" s__law_right fa fd) (hm : mg "_law_right" = some (.ref fa)) (M : Mg mg) {g__law_all : WF} (c__law_all : Fg P w K mg base T 1 "_law_all" 1 [] g__law_all) {g__law_day : WF} (c__law_day : Fg P w K mg base T 1 "_law_day" 2 [] g__law_day) {g__law_draw : WF} (c__law_draw : Fg P w K mg base T 1 "_law_draw" 2 [0] g__law_draw) {g__law_givers : WF} (c__law_givers : Fg P w K mg base T 1 "_law_givers" 1 [] g__law_givers) {g__law_mixed : WF} (c__law_mixed : Fg P w K mg base T 2 "_law_mixed" 2 [0] g__law_mixed) {g__law_plant : WF} (c__law_plant : Fg P w K mg base T 2 "_law_plant" 2 [0] g__law_plant) {g__law_ranked : WF} (c__law_ranked : Fg P w K mg base T 1 "_law_ranked" 1 [] g__law_ranked) {g_count_before : WF} (c_count_before : Fg P w K mg base T 8 "count_before" 3 [] g_count_before) :
    Fg P w K mg base T (9) "_law_right" 1 [0] (gOf 1 12 (W__law_right g__law_all g__law_day g__law_draw g__law_givers g__law_mixed g__law_plant g__law_ranked g_count_before)) := by
  refine fg_of (N := N__law_right) F hm sc__law_right (F.binds (ps := ["pot"]) fun _ _ _ _ _ _ us hl => match us, hl with | [_], _ => rfl) rfl (by decide) (by decide) fun X cdv A outer s0 H E Z HB => ?_
  obtain ⟨hX, hT, hgd, hr, hp, tk, hmg, hcd⟩ := HB
  have hu := hr.units
  subst hX hT
  have d__law_all := c__law_all.to hgd hr (by decide)
  have d__law_day := c__law_day.to hgd hr (by decide)
  have d__law_draw := c__law_draw.to hgd hr (by decide)
  have d__law_givers := c__law_givers.to hgd hr (by decide)
  have d__law_mixed := c__law_mixed.to hgd hr (by decide)
  have d__law_plant := c__law_plant.to hgd hr (by decide)
  have d__law_ranked := c__law_ranked.to hgd hr (by decide)
  have d_count_before := c_count_before.to hgd hr (by decide)
  have HN := sc__law_right.nd
  exact (ss_cons (s_set (i := 1) HN rfl (by first | exact .inl rfl | exact .inr rfl) (by decide) (e_fz (e_call d__law_plant (pa_cons (ad_nm 0) (pa_cons (ad_ex e_int) pa_nil)) rfl rfl (by exact (show List.Nodup [0] from by decide)) (by rfl))))
  (ss_cons (s_asg (own := [2, 3]) (e_tuple (pa_cons (ad_ex (e_fz (e_call d__law_givers (pa_cons (ad_ex (e_var 1)) pa_nil) rfl rfl (by exact (show List.Nodup ([] : List Nat) from by decide)) (by rfl)))) (pa_cons (ad_ex (e_fz (e_call d__law_all (pa_cons (ad_ex (e_fz (e_bin op_addAll rd_add (ad_ex (e_callB call_len rd_len (by rfl) M.b_len (by rfl) (pa_cons (ad_ex (e_var 1)) pa_nil))) (ad_ex e_int)))) pa_nil) rfl rfl (by exact (show List.Nodup ([] : List Nat) from by decide)) (by rfl)))) pa_nil))) (g_tup rfl (gs_cons (g_name HN rfl (by first | exact .inl rfl | exact .inr rfl) rfl) (gs_cons (g_name HN rfl (by first | exact .inl rfl | exact .inr rfl) rfl) gs_nil))) (by decide))
  (ss_cons (s_set (i := 4) HN rfl (by first | exact .inl rfl | exact .inr rfl) (by decide) (e_ix ix_seq rd_ix (ad_ex (e_list (pa_cons (ad_ex (e_fz (e_call d__law_draw (pa_cons (ad_nm 0) (pa_cons (ad_ex e_int) pa_nil)) rfl rfl (by exact (show List.Nodup [0] from by decide)) (by rfl)))) (pa_cons (ad_ex (e_fz (e_call d__law_draw (pa_cons (ad_nm 0) (pa_cons (ad_ex e_int) pa_nil)) rfl rfl (by exact (show List.Nodup [0] from by decide)) (by rfl)))) (pa_cons (ad_ex (e_fz (e_call d__law_draw (pa_cons (ad_nm 0) (pa_cons (ad_ex e_int) pa_nil)) rfl rfl (by exact (show List.Nodup [0] from by decide)) (by rfl)))) pa_nil))))) (ad_ex (e_call d__law_draw (pa_cons (ad_nm 0) (pa_cons (ad_ex e_int) pa_nil)) rfl rfl (by exact (show List.Nodup [0] from by decide)) (by rfl))) (fun _ _ => rfl)))
  (ss_cons (s_set (i := 5) HN rfl (by first | exact .inl rfl | exact .inr rfl) (by decide) (e_fzN (e_callT (cr_dictN (by have := u16 hu; omega) rfl) rd_dictN (by rfl) M.b_dict (by rfl) (pa_cons (ad_ex (e_lc1 (ow := [("row", 6)])  rfl HN (i_M (e_var 3)) (show BlkOk N__law_right (defScope s__law_right) _ [("row", 6)] from ⟨rfl, by decide +kernel, by decide +kernel, by decide +kernel, by decide +kernel⟩) (fun _ _ _ _ _ => (g_name HN rfl (by first | exact .inl rfl | exact .inr rfl) rfl)) (fun _ _ _ _ _ => ts_nil)  (fun _ _ _ _ _ => (e_tupO (pa_cons (ad_ex (e_varn 6)) (pa_cons (ad_ex (e_call d__law_ranked (pa_cons (ad_ex (e_fz (e_ixT (e_call d__law_day (pa_cons (ad_ex (e_var 2)) (pa_cons (ad_ex (e_varn 6)) pa_nil)) rfl rfl (by exact (show List.Nodup ([] : List Nat) from by decide)) (by rfl)) e_int (fun _ _ => rfl)))) pa_nil) rfl rfl (by exact (show List.Nodup ([] : List Nat) from by decide)) (by rfl))) pa_nil)))))) pa_nil))))
  (ss_cons (s_set (i := 7) HN rfl (by first | exact .inl rfl | exact .inr rfl) (by decide) (e_fzN (e_callT (cr_dictN (by have := u16 hu; omega) rfl) rd_dictN (by rfl) M.b_dict (by rfl) (pa_cons (ad_ex (e_lc1 (ow := [("row", 6)])  rfl HN (i_M (e_var 3)) (show BlkOk N__law_right (defScope s__law_right) _ [("row", 6)] from ⟨rfl, by decide +kernel, by decide +kernel, by decide +kernel, by decide +kernel⟩) (fun _ _ _ _ _ => (g_name HN rfl (by first | exact .inl rfl | exact .inr rfl) rfl)) (fun _ _ _ _ _ => ts_nil)  (fun _ _ _ _ _ => (e_tupO (pa_cons (ad_ex (e_varn 6)) (pa_cons (ad_ex e_int) pa_nil)))))) pa_nil))))
  (ss_cons (s_for (own := [8]) hp rfl (i_r1 (by rfl) M.b_range (e_var 4)) (g_name HN rfl (by first | exact .inl rfl | exact .inr rfl) rfl) (by decide)
  (ss_cons (s_set (i := 9) HN rfl (by first | exact .inl rfl | exact .inr rfl) (by decide) e_dictN0)
  (ss_cons (s_forO (own := [6]) hp rfl (i_keysQ 7) (g_name HN rfl (by first | exact .inl rfl | exact .inr rfl) rfl) (by decide)
  (ss_one (s_putN 9 (u1 hu) (e_fz (e_bin op_addAll rd_add (ad_ex (e_rmQ 9 PySem.F.slot_dict_get PySem.F.type_dict_get (mt_get2N (u1 hu)) rd_nGet2 (pa_cons (ad_ex (e_ix (ix_N (u1 hu)) rd_nGet (ad_nm 5) (ad_ex (e_varn 6)) (fun _ _ => rfl))) (pa_cons (ad_ex e_int) pa_nil)))) (ad_ex (e_ix (ix_N (u1 hu)) rd_nGet (ad_nm 7) (ad_ex (e_varn 6)) (fun _ _ => rfl))))) (e_ix (ix_N (u1 hu)) rd_nGet (ad_nm 5) (ad_ex (e_varn 6)) (fun _ _ => rfl)))))
  (ss_one (s_set (i := 7) HN rfl (by first | exact .inl rfl | exact .inr rfl) (by decide) (e_fzN (e_mov 9)))))))
  (ss_cons (s_set (i := 10) HN rfl (by first | exact .inl rfl | exact .inr rfl) (by decide) (e_callB (call_repr hgd hu) rd_repr (by rfl) M.b_repr (by rfl) (pa_cons (ad_ex (e_list (pa_cons (ad_ex (e_var 1)) (pa_cons (ad_ex (e_ix ix_seq rd_ix (ad_ex (e_ue (e_var 3))) (ad_ex (e_un un_neg rd_neg (ad_ex e_int))) (fun _ _ => rfl))) pa_nil)))) pa_nil)))
  (ss_cons (s_set (i := 11) HN rfl (by first | exact .inl rfl | exact .inr rfl) (by decide) (e_fzM (e_bin op_cat rd_addM (ad_ex (e_sliceN (ad_ex (e_call d__law_mixed (pa_cons (ad_nm 0) (pa_cons (ad_ex (e_fzM (e_callB (cr_sortDt hu) rd_sortO (by rfl) M.b_sorted (by rfl) (pa_cons (ad_ex (e_callT (call_list_dN rfl) rd_listN (by rfl) M.b_list (by rfl) (pa_cons (ad_nm 7) pa_nil))) pa_nil)))) pa_nil)) rfl rfl (by exact (show List.Nodup [0] from by decide)) (by rfl))) p_no (p_of e_int))) (ad_ex (e_sliceN (ad_ex (e_call d__law_mixed (pa_cons (ad_nm 0) (pa_cons (ad_ex (e_var 3)) pa_nil)) rfl rfl (by exact (show List.Nodup [0] from by decide)) (by rfl))) p_no (p_of e_int))))))
  (ss_cons (s_forO (own := [6]) hp rfl (i_M (e_var 11)) (g_name HN rfl (by first | exact .inl rfl | exact .inr rfl) rfl) (by decide)
  (ss_one (s_if (t_cmp (op_neA hu) rd_neA (ad_ex (e_callB (call_repr hgd hu) rd_repr (by rfl) M.b_repr (by rfl) (pa_cons (ad_ex (e_call d_count_before (pa_cons (ad_ex (e_var 1)) (pa_cons (ad_ex (e_varn 6)) (pa_cons (ad_ex (e_var 4)) pa_nil))) rfl rfl (by exact (show List.Nodup ([] : List Nat) from by decide)) (by rfl))) pa_nil))) (ad_ex (e_callB (call_repr hgd hu) rd_repr (by rfl) M.b_repr (by rfl) (pa_cons (ad_ex (e_rmQ 7 PySem.F.slot_dict_get PySem.F.type_dict_get (mt_get2N (u1 hu)) rd_nGet2 (pa_cons (ad_ex (e_varn 6)) (pa_cons (ad_ex e_int) pa_nil)))) pa_nil))) (nomark _))
  (ss_one (s_ret e_bl))
  ss_nil)))
  (ss_one (s_ret (e_cmp (op_eqA hu) rd_eqA (ad_ex (e_callB (call_repr hgd hu) rd_repr (by rfl) M.b_repr (by rfl) (pa_cons (ad_ex (e_list (pa_cons (ad_ex (e_var 1)) (pa_cons (ad_ex (e_ix ix_seq rd_ix (ad_ex (e_ue (e_var 3))) (ad_ex (e_un un_neg rd_neg (ad_ex e_int))) (fun _ _ => rfl))) pa_nil)))) pa_nil))) (ad_ex (e_var 10)) (nomark _)))))))))))))
abbrev s_law : Stmt := topS 35
abbrev N_law : List Str := ["script", "k", "pot", "days"]
theorem sc_law : FnScope N_law ["script"] (defScope s_law) := ⟨rfl, rfl, rfl, by decide +kernel, rfl, by decide +kernel, by decide +kernel⟩
def W_law (g__law_pot : WF) (g__law_right : WF) (g_count_before : WF) : WS :=
  (sSeq (sFor (wiR1 (wRd [.ex (wC (.int 1)), .ex (wRd [.ex (wC (.int 3)), .ex (wRd [.nm 0] oLen)] oMin2)] oMax2)) (gN 1)
  (sSeq (sStore 2 (wCall [.nm 0, .ex (wV 1)] g__law_pot))
  (sIf (wTor (wTnot (wTb (wCall [.nm 2] g__law_right))) (wTnot (wTb (wCall [.nm 2] g__law_right))))
  (sRet (wC (.bool false)))
  sNext)))
  (sRet (wRd [.ex (wLf (wLc (wiR1 (wC (.int 2))) (gN 3) wYes (wFz (wCall [.ex (wRd [.ex (wC (.int 0)), .ex (wC (.int 0)), .ex (wC (.int 2))] oTup), .ex (wRd [.ex (wC (.int 0)), .ex (wC (.int 1)), .ex (wC (.int 2)), .ex (wC (.int 3))] oTupD), .ex (wV 3)] g_count_before)) [3])), .ex (wRd [.ex (wC (.int 1)), .ex (wC (.int 4))] oLst)] (oEqA false))))
theorem ok_law {P : Program} {w : World} {K : PySem.W.Frag} {mg : Str → Option Value} {base : Heap} {T : List Addr} {fa : Addr} {fd : FuncData} (F : Fun K "law" "law" s_law fa fd) (M : Mg mg) {g__law_pot : WF} (c__law_pot : Fg P w K mg base T 1 "_law_pot" 2 [0] g__law_pot) {g__law_right : WF} (c__law_right : Fg P w K mg base T 9 "_law_right" 1 [0] g__law_right) {g_count_before : WF} (c_count_before : Fg P w K mg base T 8 "count_before" 3 [] g_count_before) :
    FnG P w K mg base (L2N.CX P w) 10 fa fd ["script"] (spD K T mg 1 [0] (gOf 1 4 (W_law g__law_pot g__law_right g_count_before))) := by
  refine fn_of (N := N_law) F sc_law rfl (by decide) (by decide) fun X cdv A outer s0 H E Z HB => ?_
  obtain ⟨hX, hT, hgd, hr, hp, tk, hmg, hcd⟩ := HB
  have hu := hr.units
  subst hX hT
  have d__law_pot := c__law_pot.to hgd hr (by decide)
  have d__law_right := c__law_right.to hgd hr (by decide)
  have d_count_before := c_count_before.to hgd hr (by decide)
  have HN := sc_law.nd
  exact (ss_cons (s_for (own := [1]) hp rfl (i_r1 (by rfl) M.b_range (e_callB (call_max2 rfl) rd_max2 (by rfl) M.b_max (by rfl) (pa_cons (ad_ex e_int) (pa_cons (ad_ex (e_callB (call_min2 rfl) rd_min2 (by rfl) M.b_min (by rfl) (pa_cons (ad_ex e_int) (pa_cons (ad_ex (e_callB call_len rd_len (by rfl) M.b_len (by rfl) (pa_cons (ad_nm 0) pa_nil))) pa_nil)))) pa_nil)))) (g_name HN rfl (by first | exact .inl rfl | exact .inr rfl) rfl) (by decide)
  (ss_cons (s_set (i := 2) HN rfl (by first | exact .inl rfl | exact .inr rfl) (by decide) (e_call d__law_pot (pa_cons (ad_nm 0) (pa_cons (ad_ex (e_var 1)) pa_nil)) rfl rfl (by exact (show List.Nodup [0] from by decide)) (by rfl)))
  (ss_one (s_if (L2.PW.pt (tw_or (t_not (t_val (e_call d__law_right (pa_cons (ad_nm 2) pa_nil) rfl rfl (by exact (show List.Nodup [2] from by decide)) (by rfl)))) (tw_or1 (t_not (t_val (e_call d__law_right (pa_cons (ad_nm 2) pa_nil) rfl rfl (by exact (show List.Nodup [2] from by decide)) (by rfl)))))))
  (ss_one (s_ret e_bl))
  ss_nil))))
  (ss_one (s_ret (e_cmp (op_eqA hu) rd_eqA (ad_ex (e_lf (e_lc (ow := [("days", 3)]) rfl HN (i_r1 (by rfl) M.b_range e_int) (show BlkOk N_law (defScope s_law) _ [("days", 3)] from ⟨rfl, by decide +kernel, by decide +kernel, by decide +kernel, by decide +kernel⟩) (fun _ _ _ _ _ => (g_name HN rfl (by first | exact .inl rfl | exact .inr rfl) rfl)) (fun _ _ _ _ _ => ts_nil) (fun _ _ _ _ _ => (e_fz (e_call d_count_before (pa_cons (ad_ex (e_tuple (pa_cons (ad_ex e_int) (pa_cons (ad_ex e_int) (pa_cons (ad_ex e_int) pa_nil))))) (pa_cons (ad_ex (e_tupleD (pa_cons (ad_ex e_int) (pa_cons (ad_ex e_int) (pa_cons (ad_ex e_int) (pa_cons (ad_ex e_int) pa_nil)))))) (pa_cons (ad_ex (e_var 3)) pa_nil))) rfl rfl (by exact (show List.Nodup ([] : List Nat) from by decide)) (by rfl))))))) (ad_ex (e_list (pa_cons (ad_ex e_int) (pa_cons (ad_ex e_int) pa_nil)))) (nomark _)))))
end K38
namespace Sw
open PySem PySem.Spec L2 Pt Sh St
def W_require_days (g_in_range : WF) : WS :=
  (sIf (wTnot (wTb (wCall [.ex (wV 0), .ex (wV 1), .ex (wV 2)] g_in_range)))
  sNever
  sNext)
end Sw
namespace Th
open Pt
section
variable {p : List Nat}
theorem way_kid (h : PlantOk p) {v c : Nat} (hc : c ∈ kids p v) : way p c = c :: way p v := by
  obtain ⟨i, rfl, e⟩ := mem_kids.mp hc
  exact way_succ h e
theorem way_ind (h : PlantOk p) (P : Nat → Prop) (h0 : P 0) (h1 : ∀ v c, c ∈ kids p v → P v → P c) : ∀ w, w ≤ p.length → P w := by
  intro w
  induction w using Nat.strongRecOn with
  | ind w ih =>
    intro hw
    cases w with
    | zero => exact h0
    | succ k =>
      have e : p[k]? = some p[k] := List.getElem?_eq_getElem (by omega)
      have := h.2 k _ e
      exact h1 p[k] (k + 1) (mem_kids.mpr ⟨k, rfl, e⟩) (ih _ (by omega) (by omega))
theorem kid_up (h : PlantOk p) {x y : Nat} (hy : y ∈ kids p x) : ∀ w, w ≤ p.length → y ∈ way p w → x ∈ way p w := by
  have hy2 := kids_gt h hy
  refine way_ind h _ (fun hw => ?_) (fun v c hc ih hw => ?_)
  · rw [way_zero] at hw
    simp at hw
    omega
  · rw [way_kid h hc] at hw ⊢
    rcases List.mem_cons.mp hw with e | hw
    · subst e
      obtain ⟨i, e1, e2⟩ := mem_kids.mp hy
      obtain ⟨j, e3, e4⟩ := mem_kids.mp hc
      have : i = j := by omega
      subst this
      rw [e2] at e4
      cases e4
      exact List.mem_cons_of_mem _ (way_self h (by omega))
    · exact List.mem_cons_of_mem _ (ih hw)
theorem chain_way (h : PlantOk p) (s : List Int) : ∀ c, c ≤ p.length → ∀ w ∈ chain p s c, c ∈ way p w := by
  refine chain_ind h s _ (fun c hc e w hw => ?_) (fun c hc e ih w hw => ?_)
  · rw [chain_nil h e] at hw
    simp at hw
    subst hw
    exact way_self h hc
  · have hw0 := chain_ge h s c hc w hw
    rw [chain_cons h e] at hw
    rcases List.mem_cons.mp hw with rfl | hw
    · exact way_self h hc
    · exact kid_up h (best_mem e) w hw0.2 (ih w hw)
theorem chain_next (h : PlantOk p) (s : List Int) {c : Nat} (e : kids p c ≠ []) : ∀ v, v ≤ p.length → c ∈ chain p s v → best s (kids p c) ∈ chain p s v := by
  refine chain_ind h s _ (fun v hv e2 hw => ?_) (fun v hv e2 ih hw => ?_)
  · rw [chain_nil h e2] at hw
    simp at hw
    subst hw
    exact (e e2).elim
  · rw [chain_cons h e2] at hw ⊢
    rcases List.mem_cons.mp hw with rfl | hw
    · exact List.mem_cons_of_mem _ (chain_self p s _)
    · exact List.mem_cons_of_mem _ (ih hw)
theorem chain_split (h : PlantOk p) (s : List Int) {c w : Nat} (hcw : c ≤ w) : ∀ v, v ≤ p.length → c ∈ chain p s v → w ∈ chain p s v → w ∈ chain p s c := by
  refine chain_ind h s _ (fun v hv e hc hw => ?_) (fun v hv e ih hc hw => ?_)
  · rw [chain_nil h e] at hc hw
    simp at hc hw
    subst hc hw
    exact chain_self p s _
  · have hw0 := hw
    rw [chain_cons h e] at hc hw
    have hb := kids_gt h (best_mem (s := s) e)
    rcases List.mem_cons.mp hc with rfl | hc
    · exact hw0
    · rcases List.mem_cons.mp hw with rfl | hw
      · have := chain_ge h s _ hb.2 c hc
        omega
      · exact ih hc hw
variable {s : List Int}
theorem nxt_mem (h : PlantOk p) (hs : Inj p.length s) {x : Int} (hx : x ∈ nxt p s 0) : x ∈ s ∨ x = mx s + 1 := by
  obtain ⟨w, hw⟩ := List.getElem?_of_mem hx
  have hwl := (List.getElem?_eq_some_iff.mp hw).1
  rw [nxt_len] at hwl
  have e : x = bx (nxt p s 0) w := by
    rw [bx_get (by rw [nxt_len]; exact hwl)] at hw
    exact (Option.some.inj hw).symm
  by_cases hc : w ∈ chain p s 0
  · rw [nxt_at h hs.1 (by omega) hc] at e
    split at e
    · exact .inr e
    · rename_i hk
      have := kids_gt h (best_mem (s := s) hk)
      exact .inl (e ▸ List.mem_of_getElem? (bx_get (by rw [hs.1]; omega)))
  · rw [nxt_other hc] at e
    exact .inl (e ▸ List.mem_of_getElem? (bx_get hwl))
theorem bx_mem (hs : Inj p.length s) {v : Nat} (hv : v ≤ p.length) : bx s v ∈ s := List.mem_of_getElem? (bx_get (by rw [hs.1]; omega))
theorem par_eq {v w c : Nat} (h1 : c ∈ kids p v) (h2 : c ∈ kids p w) : v = w := by
  obtain ⟨i, e1, e2⟩ := mem_kids.mp h1
  obtain ⟨j, e3, e4⟩ := mem_kids.mp h2
  have : i = j := by omega
  subst this
  rw [e2] at e4
  exact Option.some.inj e4
theorem nxt_inj (h : PlantOk p) (hs : Inj p.length s) : Inj p.length (nxt p s 0) := by
  refine ⟨by rw [nxt_len]; exact hs.1, ?_⟩
  have key : ∀ v w, v ≤ p.length → w ≤ p.length → bx (nxt p s 0) v = bx (nxt p s 0) w → v = w := by
    intro v w hv hw e
    have top : ∀ u, u ≤ p.length → bx s u ≤ mx s := fun u hu => mx_le (bx_mem hs hu)
    by_cases a : v ∈ chain p s 0
    · rw [nxt_at h hs.1 (by omega) a] at e
      by_cases b : w ∈ chain p s 0
      · rw [nxt_at h hs.1 (by omega) b] at e
        by_cases ka : kids p v = []
        · rw [if_pos ka] at e
          by_cases kb : kids p w = []
          · rcases Nat.le_total v w with z | z
            · have := chain_split h s z 0 (by omega) a b
              rw [chain_nil h ka] at this
              simp at this
              exact this.symm
            · have := chain_split h s z 0 (by omega) b a
              rw [chain_nil h kb] at this
              simpa using this
          · rw [if_neg kb] at e
            have := top _ (kids_gt h (best_mem (s := s) kb)).2
            omega
        · rw [if_neg ka] at e
          have h1 := best_mem (s := s) ka
          by_cases kb : kids p w = []
          · rw [if_pos kb] at e
            have := top _ (kids_gt h h1).2
            omega
          · rw [if_neg kb] at e
            have h2 := best_mem (s := s) kb
            have := inj_eq hs (kids_gt h h1).2 (kids_gt h h2).2 e
            rw [this] at h1
            exact par_eq h1 h2
      · rw [nxt_other b] at e
        by_cases ka : kids p v = []
        · rw [if_pos ka] at e
          have := top _ hw
          omega
        · rw [if_neg ka] at e
          have h1 := best_mem (s := s) ka
          have := inj_eq hs (kids_gt h h1).2 hw e
          exact (b (this ▸ chain_next h s ka 0 (by omega) a)).elim
    · rw [nxt_other a] at e
      by_cases b : w ∈ chain p s 0
      · rw [nxt_at h hs.1 (by omega) b] at e
        by_cases kb : kids p w = []
        · rw [if_pos kb] at e
          have := top _ hv
          omega
        · rw [if_neg kb] at e
          have h2 := best_mem (s := s) kb
          have := inj_eq hs hv (kids_gt h h2).2 e
          exact (a (this ▸ chain_next h s kb 0 (by omega) b)).elim
      · rw [nxt_other b] at e
        exact inj_eq hs hv hw e
  rw [List.nodup_iff_pairwise_ne, List.pairwise_iff_getElem]
  intro i j hi hj hij e
  have hl := nxt_len p s 0
  have hs1 := hs.1
  have e1 := bx_get hi
  have e2 := bx_get hj
  rw [List.getElem?_eq_getElem hi] at e1
  rw [List.getElem?_eq_getElem hj, ← e] at e2
  have := key i j (by omega) (by omega) (Option.some.inj (e1.symm.trans e2))
  omega
def dayN (p : List Nat) (s : List Int) : Nat → List Int
  | 0 => s
  | t + 1 => nxt p (dayN p s t) 0
theorem dayN_inj (h : PlantOk p) (hs : Inj p.length s) : ∀ t, Inj p.length (dayN p s t)
  | 0 => hs
  | t + 1 => nxt_inj h (dayN_inj h hs t)
def gOut (p : List Nat) (s : List Int) (M : Int) : Nat → List Nat → List Int
  | 0, _ => []
  | _ + 1, [] => []
  | f + 1, k :: ks => bx s (best s (k :: ks)) :: gOut p s M f ((k :: ks).erase (best s (k :: ks)) ++ (kids p (best s (k :: ks))).filter fun c => decide (bx s c ≤ M))
def Off (p : List Nat) (s : List Int) (x : Nat) : Prop := ∀ w ∈ chain p s 0, x ∉ way p w
theorem Off.kid (h : PlantOk p) {x y : Nat} (ho : Off p s x) (hy : y ∈ kids p x) : Off p s y := fun w hw z => ho w hw (kid_up h hy w (chain_ge h s 0 (by omega) w hw).2 z)
theorem Off.same (h : PlantOk p) {x : Nat} (hx : x ≤ p.length) (ho : Off p s x) : bx (nxt p s 0) x = bx s x := nxt_other fun z => ho x z (way_self h hx)
end
end Th
namespace Th
open Pt
section
variable {p : List Nat} {s : List Int}
def und (p : List Nat) (R : List Nat) (t : Nat) : Bool := R.any fun r => (way p t).contains r
theorem und_iff {R : List Nat} {t : Nat} : und p R t = true ↔ ∃ r ∈ R, r ∈ way p t := by
  unfold und
  simp
def tot (p : List Nat) (R : List Nat) : Nat := (List.range (p.length + 1)).countP (und p R)
structure AC (p : List Nat) (R : List Nat) : Prop where
  ac : ∀ r ∈ R, ∀ q ∈ R, r ∈ way p q → r = q
  nd : R.Nodup
  le : ∀ r ∈ R, r ≤ p.length
theorem way_trans (h : PlantOk p) {a b : Nat} (hb : b ≤ p.length) : ∀ t, t ≤ p.length → a ∈ way p b → b ∈ way p t → a ∈ way p t := by
  refine way_ind h _ (fun x y => ?_) (fun v c hc ih x y => ?_)
  · rw [way_zero] at y
    simp at y
    subst y
    exact x
  · rw [way_kid h hc] at y ⊢
    rcases List.mem_cons.mp y with e | y
    · subst e
      rw [way_kid h hc] at x
      exact x
    · exact List.mem_cons_of_mem _ (ih x y)
theorem below_kid (h : PlantOk p) {b : Nat} (hb : b ≤ p.length) : ∀ t, t ≤ p.length → b ∈ way p t → t = b ∨ ∃ c ∈ kids p b, c ∈ way p t := by
  refine way_ind h _ (fun x => ?_) (fun v k hk ih x => ?_)
  · rw [way_zero] at x
    simp at x
    exact .inl x.symm
  · rw [way_kid h hk] at x
    rcases List.mem_cons.mp x with e | x
    · exact .inl e.symm
    · rcases ih x with e | ⟨c, hc, z⟩
      · subst e
        exact .inr ⟨k, hk, way_self h (kids_gt h hk).2⟩
      · refine .inr ⟨c, hc, ?_⟩
        rw [way_kid h hk]
        exact List.mem_cons_of_mem _ z
theorem AC.pop (h : PlantOk p) {R : List Nat} (a : AC p R) {b : Nat} (hb : b ∈ R) : AC p (R.erase b ++ kids p b) := by
  have hbn := a.le b hb
  have hr : ∀ r ∈ R.erase b, r ∈ R ∧ r ≠ b := fun r hr => ⟨List.mem_of_mem_erase hr, fun e => by
    subst e
    exact (a.nd.not_mem_erase) hr⟩
  have x1 : ∀ r ∈ R, r ≠ b → ∀ c ∈ kids p b, c ∉ way p r := fun r hr hne c hc w => hne (a.ac b hb r hr (kid_up h hc r (a.le r hr) w)).symm
  have x2 : ∀ r ∈ R, r ≠ b → ∀ c ∈ kids p b, r ∉ way p c := fun r hr hne c hc w => by
    rw [way_kid h hc] at w
    rcases List.mem_cons.mp w with e | w
    · subst e
      exact x1 r hr hne r hc (way_self h (a.le r hr))
    · exact hne (a.ac r hr b hb w)
  refine ⟨fun r hr' q hq w => ?_, ?_, fun r hr' => ?_⟩
  · rcases List.mem_append.mp hr' with z | z
    · obtain ⟨z1, z2⟩ := hr r z
      rcases List.mem_append.mp hq with y | y
      · exact a.ac r z1 q (hr q y).1 w
      · exact (x2 r z1 z2 q y w).elim
    · rcases List.mem_append.mp hq with y | y
      · exact (x1 q (hr q y).1 (hr q y).2 r z w).elim
      · rw [way_kid h y] at w
        rcases List.mem_cons.mp w with e | w
        · exact e
        · have := way_le h _ _ w
          have := kids_gt h z
          omega
  · refine List.nodup_append.mpr ⟨a.nd.erase b, kids_nodup p b, fun r z c y e => ?_⟩
    subst e
    exact x1 r (hr r z).1 (hr r z).2 r y (way_self h (a.le r (hr r z).1))
  · rcases List.mem_append.mp hr' with z | z
    · exact a.le r (hr r z).1
    · exact (kids_gt h z).2
theorem und_pop (h : PlantOk p) {R : List Nat} (a : AC p R) {b : Nat} (hb : b ∈ R) : (und p (R.erase b ++ kids p b) b = false) ∧ ∀ t, t ≤ p.length → t ≠ b → und p (R.erase b ++ kids p b) t = und p R t := by
  have hbn := a.le b hb
  constructor
  · rw [Bool.eq_false_iff]
    intro z
    obtain ⟨r, hr, w⟩ := und_iff.mp z
    rcases List.mem_append.mp hr with z | z
    · have e := a.ac r (List.mem_of_mem_erase z) b hb w
      subst e
      exact a.nd.not_mem_erase z
    · have := way_le h _ _ w
      have := kids_gt h z
      omega
  · intro t ht hne
    rw [Bool.eq_iff_iff, und_iff, und_iff]
    constructor
    · rintro ⟨r, hr, w⟩
      rcases List.mem_append.mp hr with z | z
      · exact ⟨r, List.mem_of_mem_erase z, w⟩
      · exact ⟨b, hb, kid_up h z t ht w⟩
    · rintro ⟨r, hr, w⟩
      by_cases e : r = b
      · subst e
        rcases below_kid h hbn t ht w with z | ⟨c, hc, z⟩
        · exact (hne z).elim
        · exact ⟨c, List.mem_append_right _ hc, z⟩
      · exact ⟨r, List.mem_append_left _ ((List.mem_erase_of_ne e).mpr hr), w⟩
theorem count_one {f g : Nat → Bool} {b : Nat} : ∀ (l : List Nat), l.Nodup → b ∈ l → g b = true → f b = false → (∀ t ∈ l, t ≠ b → f t = g t) → l.countP g = l.countP f + 1
  | [], _, hb, _, _, _ => by cases hb
  | a :: l, hn, hb, hg, hf, he => by
    obtain ⟨n1, n2⟩ := List.nodup_cons.mp hn
    by_cases e : a = b
    · subst e
      rw [List.countP_cons_of_pos (by simpa using hg), List.countP_cons_of_neg (by simpa using hf)]
      congr 1
      exact List.countP_congr fun t ht => by rw [he t (List.mem_cons_of_mem _ ht) fun z => n1 (z ▸ ht)]
    · have hb2 : b ∈ l := by
        rcases List.mem_cons.mp hb with z | z
        · exact (e z.symm).elim
        · exact z
      have ih := count_one l n2 hb2 hg hf fun t ht => he t (List.mem_cons_of_mem _ ht)
      have ea := he a (List.mem_cons_self ..) e
      rw [List.countP_cons, List.countP_cons, ih, ea]
      omega
theorem tot_pop (h : PlantOk p) {R : List Nat} (a : AC p R) {b : Nat} (hb : b ∈ R) : tot p R = tot p (R.erase b ++ kids p b) + 1 := by
  obtain ⟨u1, u2⟩ := und_pop h a hb
  exact count_one _ List.nodup_range (List.mem_range.mpr (by have := a.le b hb; omega)) (und_iff.mpr ⟨b, hb, way_self h (a.le b hb)⟩) u1 fun t ht hne => u2 t (by have := List.mem_range.mp ht; omega) hne
theorem way_top (h : PlantOk p) : ∀ t, t ≤ p.length → 0 ∈ way p t := way_ind h _ (by rw [way_zero]; simp) fun v c hc ih => by rw [way_kid h hc]; exact List.mem_cons_of_mem _ ih
theorem ac_top (p : List Nat) : AC p [0] := ⟨fun r hr q hq _ => by simp at hr hq; omega, by simp, fun r hr => by simp at hr; omega⟩
theorem tot_top (h : PlantOk p) : tot p [0] = p.length + 1 := by
  unfold tot
  rw [List.countP_eq_length.mpr fun t ht => und_iff.mpr ⟨0, by simp, way_top h t (by have := List.mem_range.mp ht; omega)⟩, List.length_range]
theorem tot_nil (p : List Nat) : tot p [] = 0 := List.countP_eq_zero.mpr fun t _ => by simp [und]
def sales (p : List Nat) (s : List Int) : List Int := gOut p s (mx s) (p.length + 1) [0]
theorem nodup_sub_perm : ∀ {l r : List Int}, l.Nodup → (∀ x ∈ l, x ∈ r) → r.length ≤ l.length → l.Perm r
  | [], r, _, _, hl => by
    have : r = [] := List.eq_nil_of_length_eq_zero (by simpa using hl)
    rw [this]
  | a :: l, r, hn, hm, hl => by
    obtain ⟨n1, n2⟩ := List.nodup_cons.mp hn
    have ha := hm a (List.mem_cons_self ..)
    have := List.perm_cons_erase ha
    refine List.Perm.trans (List.Perm.cons a (nodup_sub_perm n2 (fun x hx => ?_) ?_)) this.symm
    · exact (List.mem_erase_of_ne (fun e => n1 (by rw [← e]; exact hx))).mpr (hm x (List.mem_cons_of_mem _ hx))
    · rw [List.length_erase_of_mem ha]
      simp at hl
      omega
end
end Th
namespace Th
open Pt
variable {p : List Nat} {s : List Int}
theorem chain_up (h : PlantOk p) (s : List Int) : ∀ v, v ≤ p.length → ∀ k ∈ chain p s v, ∀ w, k ∈ kids p w → k ≠ v → w ∈ chain p s v ∧ best s (kids p w) = k :=
  chain_ind h s (fun v => ∀ k ∈ chain p s v, ∀ w, k ∈ kids p w → k ≠ v → w ∈ chain p s v ∧ best s (kids p w) = k) (fun v hv e k hk w hw hne => by
    rw [chain_nil h e] at hk
    exact (hne (List.mem_singleton.mp hk)).elim) fun v hv e ih k hk w hw hne => by
    rw [chain_cons h e] at hk ⊢
    rcases List.mem_cons.mp hk with rfl | hk
    · exact (hne rfl).elim
    · by_cases hb : k = best s (kids p v)
      · subst hb
        have := par_eq hw (best_mem (s := s) e)
        subst this
        exact ⟨List.mem_cons_self .., rfl⟩
      · obtain ⟨a, b⟩ := ih k hk w hw hb
        exact ⟨List.mem_cons_of_mem _ a, b⟩
theorem nxt_gone (h : PlantOk p) (hs : Inj p.length s) : bx s 0 ∉ nxt p s 0 := fun hx => by
  have hl : (nxt p s 0).length = p.length + 1 := by rw [nxt_len, hs.1]
  obtain ⟨w, hw⟩ := List.getElem?_of_mem hx
  have hwl := (List.getElem?_eq_some_iff.mp hw).1
  have e : bx (nxt p s 0) w = bx s 0 := by
    have := bx_get hwl
    rw [hw] at this
    exact (Option.some.inj this).symm
  by_cases hc : w ∈ chain p s 0
  · rw [nxt_at h hs.1 (by omega) hc] at e
    split at e
    · have := mx_le (bx_mem hs (v := 0) (by omega))
      omega
    · rename_i hk
      have hb := kids_gt h (best_mem (s := s) hk)
      have := inj_eq hs hb.2 (by omega) e
      omega
  · rw [nxt_other hc] at e
    have := inj_eq hs (by omega) (by omega) e
    subst this
    exact hc (chain_self p s 0)
end Th
namespace Th
open Pt
variable {p : List Nat} {s : List Int}
def Ord (p : List Nat) (s : List Int) : Prop := ∀ v c, c ∈ kids p v → bx s v < bx s c
theorem ord_below (h : PlantOk p) (ho : Ord p s) {c : Nat} : ∀ w, w ≤ p.length → c ∈ way p w → bx s c ≤ bx s w := way_ind h _ (fun hc => by
  rw [way_zero] at hc
  rw [List.mem_singleton.mp hc]
  exact Int.le_refl _) fun v k hk ih hc => by
  rw [way_kid h hk] at hc
  rcases List.mem_cons.mp hc with rfl | hc
  · exact Int.le_refl _
  · have := ih hc
    have := ho v k hk
    omega
theorem ord_min (h : PlantOk p) (ho : Ord p s) {w : Nat} (hw : w ≤ p.length) : bx s 0 ≤ bx s w := ord_below h ho w hw (way_top h w hw)
def par (p : List Nat) (w : Nat) : Nat := p[w - 1]?.getD 0
theorem kid_par (h : PlantOk p) {w : Nat} (h0 : w ≠ 0) (hw : w ≤ p.length) : w ∈ kids p (par p w) := by
  refine mem_kids.mpr ⟨w - 1, by omega, ?_⟩
  unfold par
  rw [List.getElem?_eq_getElem (by omega)]
  rfl
def moveS (p : List Nat) (s : List Int) (w : Nat) : Nat := if w ∈ chain p s 0 then par p w else w
theorem bx_move (h : PlantOk p) (hs : Inj p.length s) {w : Nat} (h0 : w ≠ 0) (hw : w ≤ p.length) : bx (nxt p s 0) (moveS p s w) = bx s w := by
  unfold moveS
  split
  · rename_i hc
    have hk := kid_par h h0 hw
    obtain ⟨a, b⟩ := chain_up h s 0 (by omega) w hc _ hk h0
    rw [nxt_at h hs.1 (by omega) a, if_neg (fun e => by rw [e] at hk; cases hk), b]
  · rename_i hc
    exact nxt_other hc
theorem move_le (h : PlantOk p) {w : Nat} (h0 : w ≠ 0) (hw : w ≤ p.length) : moveS p s w ≤ p.length := by
  unfold moveS
  split
  · have := kids_gt h (kid_par h h0 hw)
    omega
  · exact hw
theorem nat_sub_perm : ∀ {l r : List Nat}, l.Nodup → (∀ x ∈ l, x ∈ r) → r.length ≤ l.length → l.Perm r
  | [], r, _, _, hl => by
    have : r = [] := List.eq_nil_of_length_eq_zero (by simpa using hl)
    rw [this]
  | a :: l, r, hn, hm, hl => by
    obtain ⟨n1, n2⟩ := List.nodup_cons.mp hn
    have ha := hm a (List.mem_cons_self ..)
    have := List.perm_cons_erase ha
    refine List.Perm.trans (List.Perm.cons a (nat_sub_perm n2 (fun x hx => ?_) ?_)) this.symm
    · exact (List.mem_erase_of_ne (fun e => n1 (by rw [← e]; exact hx))).mpr (hm x (List.mem_cons_of_mem _ hx))
    · rw [List.length_erase_of_mem ha]
      simp at hl
      omega
def IsOrd (p : List Nat) (s : List Int) (l : List Nat) : Prop := l.Perm (List.range (p.length + 1)) ∧ l.Pairwise fun a b => bx s a < bx s b
theorem IsOrd.le {l : List Nat} (h : IsOrd p s l) {x : Nat} (hx : x ∈ l) : x ≤ p.length := by
  have := List.mem_range.mp (h.1.mem_iff.mp hx)
  omega
theorem IsOrd.nodup {l : List Nat} (h : IsOrd p s l) : l.Nodup := h.1.nodup_iff.mpr List.nodup_range
theorem IsOrd.head (h : PlantOk p) (ho : Ord p s) {l : List Nat} (hl : IsOrd p s l) : ∃ t, l = 0 :: t := by
  have h0 : 0 ∈ l := hl.1.mem_iff.mpr (List.mem_range.mpr (by omega))
  cases l with
  | nil => cases h0
  | cons a t =>
    rcases List.mem_cons.mp h0 with e | e
    · exact ⟨t, by rw [e]⟩
    · have h1 := (List.pairwise_cons.mp hl.2).1 0 e
      have h2 := ord_min h ho (hl.le (List.mem_cons_self ..))
      omega
theorem IsOrd.step (h : PlantOk p) (hs : Inj p.length s) (ho : Ord p s) {t : List Nat} (hl : IsOrd p s (0 :: t)) {w : Nat} (hw : w ∈ chain p s 0) (hk : kids p w = []) : IsOrd p (nxt p s 0) (t.map (moveS p s) ++ [w]) := by
  have hwl := (chain_ge h s 0 (by omega) w hw).2
  have hn := hl.nodup
  have ht : ∀ x ∈ t, x ≠ 0 ∧ x ≤ p.length := fun x hx => ⟨fun e => (List.nodup_cons.mp hn).1 (by rw [← e]; exact hx), hl.le (List.mem_cons_of_mem _ hx)⟩
  have hp : (t.map (moveS p s) ++ [w]).Pairwise fun a b => bx (nxt p s 0) a < bx (nxt p s 0) b := by
    rw [List.pairwise_append]
    refine ⟨?_, List.pairwise_singleton .., fun a ha b hb => ?_⟩
    · rw [List.pairwise_map]
      refine (List.pairwise_cons.mp hl.2).2.imp_of_mem fun {a b} ha hb hab => ?_
      rw [bx_move h hs (ht a ha).1 (ht a ha).2, bx_move h hs (ht b hb).1 (ht b hb).2]
      exact hab
    · obtain ⟨x, hx, rfl⟩ := List.mem_map.mp ha
      rw [List.mem_singleton.mp hb, bx_move h hs (ht x hx).1 (ht x hx).2, nxt_at h hs.1 (by omega) hw, if_pos hk]
      have := mx_le (bx_mem hs (ht x hx).2)
      omega
  refine ⟨nat_sub_perm ?_ (fun x hx => ?_) ?_, hp⟩
  · rw [List.nodup_iff_pairwise_ne]
    exact hp.imp fun hab e => by rw [e] at hab; omega
  · rcases List.mem_append.mp hx with z | z
    · obtain ⟨y, hy, rfl⟩ := List.mem_map.mp z
      exact List.mem_range.mpr (by have := move_le (s := s) h (ht y hy).1 (ht y hy).2; omega)
    · rw [List.mem_singleton.mp z]
      exact List.mem_range.mpr (by omega)
  · have := hl.1.length_eq
    simp at this ⊢
    omega
def childTo (p : List Nat) (v w : Nat) : Option Nat := (kids p v).find? fun c => (way p w).contains c
def wd (p : List Nat) (l : List Nat) (v : Nat) : List Nat := l.filterMap (childTo p v)
theorem chain_anc (h : PlantOk p) (s : List Int) {x : Nat} : ∀ w, w ≤ p.length → w ∈ chain p s 0 → x ∈ way p w → x ∈ chain p s 0 := way_ind h _ (fun _ hx => by
  rw [way_zero] at hx
  rw [List.mem_singleton.mp hx]
  exact chain_self p s 0) fun v k hk ih hw hx => by
  have hg := kids_gt h hk
  rw [way_kid h hk] at hx
  rcases List.mem_cons.mp hx with rfl | hx
  · exact hw
  · exact ih (chain_up h s 0 (by omega) k hw v hk (by omega)).1 hx
end Th
namespace Th
open Pt
variable {p : List Nat} {s : List Int}
def ordL (p : List Nat) (s : List Int) : List Nat := (List.range (p.length + 1)).mergeSort fun a b => decide (bx s a ≤ bx s b)
theorem ordL_ok (hs : Inj p.length s) : IsOrd p s (ordL p s) := by
  have hp : (ordL p s).Perm (List.range (p.length + 1)) := List.mergeSort_perm _ _
  refine ⟨hp, ?_⟩
  have h1 : (ordL p s).Pairwise fun a b => decide (bx s a ≤ bx s b) = true := List.pairwise_mergeSort (fun a b c h1 h2 => by
    simp only [decide_eq_true_eq] at *
    omega) (fun a b => by
    simp only [Bool.or_eq_true, decide_eq_true_eq]
    omega) _
  have h2 : (ordL p s).Nodup := hp.nodup_iff.mpr List.nodup_range
  refine (h1.and (List.nodup_iff_pairwise_ne.mp h2)).imp_of_mem fun {a b} ha hb ⟨h3, h4⟩ => ?_
  have ha := List.mem_range.mp (hp.mem_iff.mp ha)
  have hb := List.mem_range.mp (hp.mem_iff.mp hb)
  have : bx s a ≠ bx s b := fun e => h4 (inj_eq hs (by omega) (by omega) e)
  simp only [decide_eq_true_eq] at h3
  omega
theorem IsOrd.eq {l : List Nat} (hs : Inj p.length s) (h : IsOrd p s l) : l = ordL p s :=
  List.Perm.eq_of_pairwise (le := fun a b => bx s a < bx s b) (fun a b _ _ h1 h2 => by omega) h.2 (ordL_ok hs).2 (h.1.trans (ordL_ok hs).1.symm)
def W (p : List Nat) (s : List Int) (v : Nat) : List Nat := wd p (ordL p s) v
def rot (w : List Nat) (e : Nat) : List Nat := w.drop (e % max 1 w.length) ++ w.take (e % max 1 w.length)
def em (p : List Nat) (s : List Int) : Nat → Nat → Nat
  | 0, _ => 0
  | t + 1, v => em p s t v + if v ∈ chain p (dayN p s t) 0 then 1 else 0
end Th
namespace Th
open Pt
variable {p : List Nat} {s : List Int}
def weave : List Nat → (Nat → List Nat) → List Nat
  | [], _ => []
  | c :: w, q => match q c with
    | [] => []
    | x :: r => x :: weave w fun d => if d = c then r else q d
theorem way_below (h : PlantOk p) {v : Nat} : ∀ w, w ≤ p.length → v ∈ way p w → w = v ∨ ∃ c ∈ kids p v, c ∈ way p w := way_ind h _ (fun hv => by
  rw [way_zero] at hv
  exact .inl (List.mem_singleton.mp hv).symm) fun u k hk ih hv => by
  rw [way_kid h hk] at hv ⊢
  rcases List.mem_cons.mp hv with e | hv
  · exact .inl e.symm
  · rcases ih hv with rfl | ⟨c, hc, hcw⟩
    · exact .inr ⟨k, hk, List.mem_cons_self ..⟩
    · exact .inr ⟨c, hc, List.mem_cons_of_mem _ hcw⟩
def part (p : List Nat) (s : List Int) (v : Nat) : List Nat := (ordL p s).filter fun w => (way p w).contains v
end Th
namespace Th
open Pt
variable {p : List Nat} {w : Nat → List Nat}
def sz (p : List Nat) (v : Nat) : Nat := ((List.range (p.length + 1)).filter fun x => (way p x).contains v).length
def Vw (p : List Nat) (w : Nat → List Nat) : Prop := ∀ v, v ≤ p.length → ∀ c, (w v).count c = if c ∈ kids p v then sz p c else 0
def bl (w : Nat → List Nat) : Nat → Nat → List Nat
  | 0, v => [v]
  | f + 1, v => v :: weave (w v) (bl w f)
theorem sz_pos (h : PlantOk p) {v : Nat} (hv : v ≤ p.length) : 0 < sz p v := List.length_pos_iff.mpr fun e => by
  have : v ∈ (List.range (p.length + 1)).filter fun x => (way p x).contains v := List.mem_filter.mpr ⟨List.mem_range.mpr (by omega), by simpa using way_self h hv⟩
  rw [e] at this
  cases this
theorem Vw.kid (hw : Vw p w) {v c : Nat} (hv : v ≤ p.length) (hc : c ∈ w v) : c ∈ kids p v := by
  refine Decidable.byContradiction fun z => ?_
  have := hw v hv c
  rw [if_neg z] at this
  exact List.count_eq_zero.mp this hc
theorem Vw.mem (h : PlantOk p) (hw : Vw p w) {v c : Nat} (hv : v ≤ p.length) (hc : c ∈ kids p v) : c ∈ w v := by
  have := hw v hv c
  rw [if_pos hc] at this
  exact List.count_pos_iff.mp (by have := sz_pos h (kids_gt h hc).2; omega)
end Th
namespace Th
open Pt
variable {p : List Nat} {w : Nat → List Nat} {s s' : List Int}
def rankS (p : List Nat) (l : List Nat) : List Int := (List.range (p.length + 1)).map fun v => ((l.idxOf v : Nat) : Int)
end Th
namespace Th
open Pt
variable {p : List Nat} {s : List Int}
def sortI (s : List Int) : List Int := s.mergeSort fun a b => decide (a ≤ b)
def rks (s : List Int) : List Int := s.map fun x => (((sortI s).idxOf x : Nat) : Int)
theorem s_map (hs : Inj p.length s) : s = (List.range (p.length + 1)).map (bx s) := by
  apply List.ext_getElem?
  intro i
  by_cases h : i < p.length + 1
  · rw [bx_get (by rw [hs.1]; exact h), List.getElem?_map, List.getElem?_range h]; rfl
  · rw [List.getElem?_eq_none (by rw [hs.1]; omega), List.getElem?_eq_none (by simp; omega)]
theorem sortI_pw (s : List Int) : (sortI s).Pairwise (· ≤ ·) := by
  have h1 : (sortI s).Pairwise fun a b => decide (a ≤ b) = true := List.pairwise_mergeSort (fun a b c h1 h2 => by
    simp only [decide_eq_true_eq] at *
    omega) (fun a b => by
    simp only [Bool.or_eq_true, decide_eq_true_eq]
    omega) _
  exact h1.imp fun h => of_decide_eq_true h
theorem sortI_perm (s : List Int) : (sortI s).Perm s := List.mergeSort_perm _ _
theorem sortI_ord (hs : Inj p.length s) : sortI s = (ordL p s).map (bx s) := by
  have ho := ordL_ok hs
  refine List.Perm.eq_of_pairwise (le := fun a b => a ≤ b) (fun a b _ _ h1 h2 => by omega) (sortI_pw s) ?_ ?_
  · rw [List.pairwise_map]
    exact ho.2.imp fun h => by omega
  · refine (sortI_perm s).trans ?_
    have := (ho.1.map (bx s)).symm
    rwa [← s_map hs] at this
theorem idxOf_map {f : Nat → Int} {v : Nat} : ∀ {l : List Nat}, (∀ a ∈ l, f a = f v → a = v) → (l.map f).idxOf (f v) = l.idxOf v
  | [], _ => rfl
  | a :: l, h => by
    rw [List.map_cons, List.idxOf_cons, List.idxOf_cons, idxOf_map fun b hb => h b (List.mem_cons_of_mem _ hb)]
    by_cases e : a = v
    · subst e; simp
    · have : f a ≠ f v := fun z => e (h a (List.mem_cons_self ..) z)
      rw [beq_false_of_ne e, beq_false_of_ne this]
theorem rks_eq (hs : Inj p.length s) : rks s = rankS p (ordL p s) := by
  have e : rks s = ((List.range (p.length + 1)).map (bx s)).map fun x => (((sortI s).idxOf x : Nat) : Int) := by rw [← s_map hs]; rfl
  rw [e]
  unfold rankS
  rw [List.map_map]
  refine List.map_congr_left fun v hv => ?_
  have hv := List.mem_range.mp hv
  show (((sortI s).idxOf (bx s v) : Nat) : Int) = _
  rw [sortI_ord hs, idxOf_map fun a ha z => inj_eq hs ((ordL_ok hs).le ha) (by omega) z]
theorem kid_le (h : PlantOk p) {v c : Nat} (hc : c ∈ kids p v) : v ≤ p.length ∧ c ≤ p.length := by
  have := kids_gt h hc
  omega
end Th
namespace Sw
open PySem PySem.Spec L2 Pt Sh St Th
theorem _root_.St.SOk.inj {n b : Nat} {s : List Int} (h : SOk n b s) : Inj n s := ⟨h.1, h.2.1⟩
def G_require_days : WF := fun ds R => ∃ v lo hi : Int, ds = [.fz (.int v), .fz (.int lo), .fz (.int hi)] ∧ lo ≤ v ∧ v ≤ hi ∧ ∀ ρ, R (.fz .none) ρ
theorem sp_require_days : ∀ ds R, G_require_days ds R → gOf 3 3 (W_require_days G_in_range) ds R := by
  rintro _ R ⟨v, lo, hi, rfl, h1, h2, h⟩
  refine ⟨rfl, ?_⟩
  simp [W_require_days, G_in_range]
  refine ⟨_, _, _, ⟨rfl, rfl, rfl⟩, ?_⟩
  simp [inRg, h1, h2]
  exact h _
theorem x_sortI {x : O} {k : O → Prop} (s : List Int) (hv : vLT x = some (s.map PyData.int)) (h : k (.lf ((sortI s).map PyData.int))) : oSortD false [x] k := by
  refine ⟨_, hv, canLay_ints s, PySem.W.AllAlike.of fun _ _ => by simp [PySem.W.alike], PySem.W.Sortable.others fun _ => ⟨(fun z => nomatch z), fun _ z => nomatch z⟩, fun d hd => ?_, ?_⟩
  · obtain ⟨i, _, rfl⟩ := List.mem_map.mp hd
    simp [PyData.depth]
  · have e : (s.map PyData.int).mergeSort (PySem.W.dataLe false id) = (sortI s).map PyData.int := by
      unfold sortI
      rw [List.map_mergeSort]
      intro a _ b _
      have := congrFun (congrFun (PySem.W.dataLe_int (β := Int) id) a) b
      exact this.symm
    rw [e]
    exact h
theorem at_bx {s : List Int} {v : Nat} (h : v < s.length) : atI (s.map PyData.int) (v : Nat) = some (.int (bx s v)) := at_nat (by rw [List.getElem?_map, bx_get h]; rfl)
def rowsF (p : List Nat) (f : Nat → List Nat) : List O := (List.range (p.length + 1)).map fun v => .lf (nI (f v))
theorem fr_rowsF (p : List Nat) (f : Nat → List Nat) : frO (.ol (rowsF p f)) = some (.list ((List.range (p.length + 1)).map fun s => .list (nI (f s)))) := by
  have e : ∀ l : List Nat, frOs (l.map fun s => O.lf (nI (f s))) = some (l.map fun s => .list (nI (f s))) := fun l => by
    induction l with
    | nil => rfl
    | cons a l ih =>
      show (frO _).bind _ = _
      simp [ih]
  show (frOs (rowsF p f)).map PyData.list = _
  unfold rowsF
  rw [e]
  rfl
theorem way_lower {p : List Nat} (h : PlantOk p) {c x : Nat} : ∀ w, w ≤ p.length → c ∈ way p w → x ∈ way p w → c ≤ x → c ∈ way p x := way_ind h _ (fun hc hx _ => by
    rw [way_zero] at hc hx
    have := List.mem_singleton.mp hx
    subst this
    rw [way_zero]
    exact hc) fun v k hk ih hc hx hle => by
  have hg := kids_gt h hk
  rw [way_kid h hk] at hx
  rcases List.mem_cons.mp hx with rfl | hx2
  · exact hc
  · rw [way_kid h hk] at hc
    rcases List.mem_cons.mp hc with rfl | hc2
    · have := way_le h _ _ hx2
      omega
    · exact ih hc2 hx2 hle
end Sw
namespace Sw
open PySem PySem.Spec L2 Pt Sh St Th
theorem nI_ints (l : List Nat) : nI l = (l.map fun n : Nat => (n : Int)).map PyData.int := by
  unfold nI
  rw [List.map_map]
  rfl
end Sw
namespace Ft
open PySem PySem.Spec L2 Pt Sh St Sw
end Ft
namespace Th
open Pt
variable {p : List Nat}
structure Fill (p l R : List Nat) : Prop where
  ac : AC p R
  nd : l.Nodup
  inl : ∀ v, v ≤ p.length → (v ∈ l ↔ und p R v = false)
  le : ∀ v ∈ l, v ≤ p.length
  cnt : l.length + tot p R = p.length + 1
  ord : ∀ v c, c ∈ kids p v → c ∈ l → v ∈ l ∧ l.idxOf v < l.idxOf c
theorem und_self (h : PlantOk p) {R : List Nat} {b : Nat} (hb : b ∈ R) (hl : b ≤ p.length) : und p R b = true := und_iff.mpr ⟨b, hb, way_self h hl⟩
theorem Fill.start (h : PlantOk p) : Fill p [] [0] where
  ac := ac_top p
  nd := List.nodup_nil
  inl := fun v hv => by
    have : und p [0] v = true := und_iff.mpr ⟨0, by simp, way_top h v hv⟩
    simp [this]
  le := fun v hv => (List.not_mem_nil hv).elim
  cnt := by rw [tot_top h]; simp
  ord := fun v c _ hc => (List.not_mem_nil hc).elim
theorem Fill.new (h : PlantOk p) {l R : List Nat} (f : Fill p l R) {b : Nat} (hb : b ∈ R) : b ∉ l := fun z => by
  have hl := f.ac.le b hb
  have := (f.inl b hl).mp z
  rw [und_self h hb hl] at this
  cases this
theorem Fill.step (h : PlantOk p) {l R : List Nat} (f : Fill p l R) {b : Nat} (hb : b ∈ R) : Fill p (l ++ [b]) (R.erase b ++ kids p b) where
  ac := f.ac.pop h hb
  nd := by
    rw [List.nodup_append]
    refine ⟨f.nd, by simp, fun a ha c hc e => ?_⟩
    rw [List.mem_singleton.mp hc] at e
    subst e
    exact f.new h hb ha
  inl := fun v hv => by
    obtain ⟨u1, u2⟩ := und_pop h f.ac hb
    by_cases e : v = b
    · subst e
      simp [u1]
    · rw [u2 v hv e, ← f.inl v hv]
      simp [e]
  le := fun v hv => by
    rcases List.mem_append.mp hv with z | z
    · exact f.le v z
    · rw [List.mem_singleton.mp z]
      exact f.ac.le b hb
  cnt := by
    have := tot_pop h f.ac hb
    have := f.cnt
    simp
    omega
  ord := fun v c hk hc => by
    have hg := kids_gt h hk
    rcases List.mem_append.mp hc with z | z
    · obtain ⟨h1, h2⟩ := f.ord v c hk z
      refine ⟨List.mem_append_left _ h1, ?_⟩
      rw [List.idxOf_append, List.idxOf_append, if_pos h1, if_pos z]
      exact h2
    · have z := List.mem_singleton.mp z
      subst z
      have hv : v ∈ l := (f.inl v (by omega)).mpr (by
        cases q : und p R v with
        | false => rfl
        | true =>
          obtain ⟨r, hr, hw⟩ := und_iff.mp q
          have h1 : r ∈ way p c := by rw [way_kid h hk]; exact List.mem_cons_of_mem _ hw
          have h2 := f.ac.ac r hr c hb h1
          have h3 := way_le h _ _ hw
          omega)
      refine ⟨List.mem_append_left _ hv, ?_⟩
      rw [List.idxOf_append, List.idxOf_append, if_pos hv, if_neg (f.new h hb)]
      have := List.idxOf_lt_length_iff.mpr hv
      omega
theorem Fill.more (h : PlantOk p) {l R : List Nat} (f : Fill p l R) (hl : l.length ≤ p.length) : R ≠ [] := fun e => by
  have := f.cnt
  rw [e, tot_nil] at this
  omega
theorem Fill.perm {l R : List Nat} (f : Fill p l R) (hl : l.length = p.length + 1) : l.Perm (List.range (p.length + 1)) :=
  nat_sub_perm f.nd (fun x hx => List.mem_range.mpr (by have := f.le x hx; omega)) (by simp; omega)
def stockOf (p l : List Nat) (bs : List Int) : List Int := (List.range (p.length + 1)).map fun v => bs.getD (l.idxOf v) 0
theorem stockOf_bx {l : List Nat} {bs : List Int} {v : Nat} (hv : v ≤ p.length) : bx (stockOf p l bs) v = bs.getD (l.idxOf v) 0 := by
  unfold bx stockOf
  rw [List.getD_eq_getElem?_getD, List.getElem?_map, List.getElem?_range (by omega)]
  rfl
theorem asc_lt {bs : List Int} (hb : bs.Pairwise (· < ·)) {i j : Nat} (hij : i < j) (hj : j < bs.length) : bs.getD i 0 < bs.getD j 0 := by
  rw [List.getD_eq_getElem?_getD, List.getD_eq_getElem?_getD, List.getElem?_eq_getElem (by omega), List.getElem?_eq_getElem hj]
  exact List.pairwise_iff_getElem.mp hb i j (by omega) hj hij
theorem Fill.stock (h : PlantOk p) {l R : List Nat} {bs : List Int} (f : Fill p l R) (hl : l.length = p.length + 1) (hb : bs.Pairwise (· < ·)) (hlen : bs.length = p.length + 1) : Ord p (stockOf p l bs) := fun v c hc => by
  have hk := kid_le h hc
  have hp := f.perm hl
  have hm : c ∈ l := hp.mem_iff.mpr (List.mem_range.mpr (by omega))
  obtain ⟨h1, h2⟩ := f.ord v c hc hm
  have l2 := List.idxOf_lt_length_iff.mpr hm
  rw [stockOf_bx hk.1, stockOf_bx hk.2]
  exact asc_lt hb h2 (by omega)
end Th
namespace Th
open PySem PySem.W Pt
variable {p : List Nat} {s : List Int}
end Th
namespace Th
open Pt
variable {p : List Nat} {s : List Int}
end Th
namespace Th
open Pt
variable {p : List Nat} {s : List Int}
end Th
namespace Th
open PySem PySem.W L2 Pt
variable {p : List Nat} {s : List Int}
end Th
namespace Th
open Pt
variable {p : List Nat} {s : List Int}
def Iso (n : Nat) (s s' : List Int) : Prop := ∀ v w, v ≤ n → w ≤ n → (bx s v < bx s w ↔ bx s' v < bx s' w)
theorem Iso.symm {n : Nat} {s s' : List Int} (h : Iso n s s') : Iso n s' s := fun v w hv hw => (h v w hv hw).symm
theorem Iso.trans {n : Nat} {s s' s'' : List Int} (h : Iso n s s') (h' : Iso n s' s'') : Iso n s s'' := fun v w hv hw => (h v w hv hw).trans (h' v w hv hw)
theorem Iso.ord {s' : List Int} (h : PlantOk p) (i : Iso p.length s s') (ho : Ord p s) : Ord p s' := fun v c hc => (i v c (kid_le h hc).1 (kid_le h hc).2).mp (ho v c hc)
theorem Iso.bst {s' : List Int} (hs' : Inj p.length s') (i : Iso p.length s s') {ks : List Nat} (hk : ∀ k ∈ ks, k ≤ p.length) (hne : ks ≠ []) : best s ks = best s' ks := by
  have hb := best_mem (s := s) hne
  refine (best_eq hs' hk hb fun o ho => ?_).symm
  have h1 := best_le (s := s) ho
  have h2 := i o (best s ks) (hk o ho) (hk _ hb)
  omega
theorem Iso.chn {s' : List Int} (h : PlantOk p) (hs' : Inj p.length s') (i : Iso p.length s s') : ∀ v, v ≤ p.length → chain p s v = chain p s' v := chain_ind h s _ (fun v _ hk => by rw [chain_nil h hk, chain_nil h hk]) fun v hv hk ih => by
  rw [chain_cons h hk, chain_cons h hk, ih, i.bst hs' (fun k hk' => (kids_gt h hk').2) hk]
theorem Iso.next {s' : List Int} (h : PlantOk p) (hs : Inj p.length s) (hs' : Inj p.length s') (i : Iso p.length s s') : Iso p.length (nxt p s 0) (nxt p s' 0) := fun v w hv hw => by
  have hc := i.chn h hs' 0 (by omega)
  have val : ∀ v, v ≤ p.length → (bx (nxt p s 0) v = mx s + 1 ∧ bx (nxt p s' 0) v = mx s' + 1) ∨ ∃ u, u ≤ p.length ∧ bx (nxt p s 0) v = bx s u ∧ bx (nxt p s' 0) v = bx s' u := fun v hv => by
    by_cases hm : v ∈ chain p s 0
    · have hm' : v ∈ chain p s' 0 := hc ▸ hm
      rw [nxt_at h hs.1 (by omega) hm, nxt_at h hs'.1 (by omega) hm']
      by_cases hk : kids p v = []
      · rw [if_pos hk, if_pos hk]
        exact .inl ⟨rfl, rfl⟩
      · rw [if_neg hk, if_neg hk]
        refine .inr ⟨best s (kids p v), (kids_gt h (best_mem hk)).2, rfl, ?_⟩
        rw [i.bst hs' (fun k hk' => (kids_gt h hk').2) hk]
    · have hm' : v ∉ chain p s' 0 := hc ▸ hm
      exact .inr ⟨v, hv, nxt_other hm, nxt_other hm'⟩
  have top : ∀ u, u ≤ p.length → bx s u < mx s + 1 ∧ bx s' u < mx s' + 1 := fun u hu => by
    have h1 := mx_le (bx_mem hs hu)
    have h2 := mx_le (bx_mem hs' hu)
    omega
  rcases val v hv with ⟨a1, a2⟩ | ⟨u, hu, a1, a2⟩ <;> rcases val w hw with ⟨b1, b2⟩ | ⟨z, hz, b1, b2⟩ <;> rw [a1, a2, b1, b2]
  · omega
  · have := top z hz
    omega
  · have := top u hu
    omega
  · exact i u z hu hz
theorem Iso.days {s' : List Int} (h : PlantOk p) (hs : Inj p.length s) (hs' : Inj p.length s') (i : Iso p.length s s') : ∀ t, Iso p.length (dayN p s t) (dayN p s' t)
  | 0 => i
  | t + 1 => (i.days h hs hs' t).next h (dayN_inj h hs t) (dayN_inj h hs' t)
end Th
namespace Th
open Pt
variable {p : List Nat} {s : List Int}
def perW (w : List Nat) : Nat := ((List.range w.length).find? fun m => decide (0 < m) && decide (rot w m = w)).getD (max 1 w.length)
end Th
namespace Th
open Pt
variable {p : List Nat} {s : List Int}
def cntP (w : List Nat) (c : Nat) : Nat := (w.take (perW w)).count c
end Th
namespace Th
open Pt
variable {p : List Nat} {s : List Int}
end Th
namespace Ft
open PySem PySem.Spec L2 Pt Sh St Sw Th
theorem idx_firstI {v : Int} : ∀ {l : List Int} {m : Nat}, m < l.idxOf v → l[m]? ≠ some v
  | [], m, h => by simp
  | a :: l, m, h => by
    rw [List.idxOf_cons] at h
    by_cases e : a = v
    · subst e
      simp at h
    · rw [beq_false_of_ne e] at h
      cases m with
      | zero => simp [e]
      | succ m => exact idx_firstI (l := l) (by simp at h; omega)
theorem shaped_I (a : List Int) : SeqAt.shaped (.list (a.map PyData.int)) = true ∧ SeqAt.shaped (tupI a) = true := by
  have h1 := canLay_ints a
  have h2 := depth_intsA a
  refine ⟨?_, ?_⟩
  · have e : SeqAt.shaped (.list (a.map PyData.int)) = (PyData.canLayAll0 (a.map PyData.int) && decide (PyData.depth (.list (a.map PyData.int)) ≤ 64)) := rfl
    rw [e, h1, Bool.true_and]
    simp only [PyData.depth, h2]
    decide
  · have e : SeqAt.shaped (tupI a) = (PyData.canLayAll0 (a.map PyData.int) && decide (PyData.depth (tupI a) ≤ 64)) := rfl
    rw [e, h1, Bool.true_and]
    simp only [tupI, PyData.depth, h2]
    decide
theorem eqv_listI (a : List Int) : PyData.eqv (.list (a.map PyData.int)) (.list (a.map PyData.int)) = true := SeqAt.eqv_refl _ (canLay_ints a)
theorem range_I (n : Nat) : rangeL 0 n = ((List.range n).map fun i : Nat => (i : Int)).map PyData.int := by
  rw [List.map_map]
  unfold rangeL
  refine List.map_congr_left fun i _ => ?_
  simp
theorem sups_get {p : List Nat} {v : Nat} (h : v ≤ p.length) : ((List.range (p.length + 1)).map fun s => PyData.list (nI (under p p.length s)))[v]? = some (.list (nI (kids p v))) := by
  rw [List.getElem?_map, List.getElem?_range (by omega)]
  rfl
theorem cut_tail {α : Type} : ∀ xs : List α, cutP xs (some 1) none = xs.tail := fun xs => by
  unfold cutP HT.sIx
  cases xs with
  | nil => rfl
  | cons a l =>
    simp
theorem nI_tail (l : List Nat) : (nI l).tail = nI l.tail := by cases l <;> rfl
theorem nI_eq0 (l : List Nat) : PyData.eqv (.list (nI l)) (.list []) = decide (l = []) := by cases l <;> rfl
theorem ints_flat (s : List Int) : (s.map PyData.int).all flatD = true := by
  rw [List.all_map]
  exact List.all_eq_true.mpr fun _ _ => rfl
theorem inD_tupN (v : Nat) (l : List Nat) : inD (.int (v : Nat)) (nI l) = decide (v ∈ l) := by
  rw [inD_nI]
  by_cases h : v ∈ l <;> simp [h]
end Ft
namespace Ft
open PySem PySem.Spec L2 Pt Sh St Sw Th
end Ft
namespace Th
open Pt Sh Sw
variable {p : List Nat} {s : List Int}
end Th
namespace Th
open Pt
variable {p : List Nat} {s : List Int}
def ext (p : List Nat) : Nat → List Nat → List Nat → List (List Nat)
  | 0, l, _ => [l]
  | k + 1, l, R => R.flatMap fun b => ext p k (l ++ [b]) (R.erase b ++ kids p b)
def rest (p l : List Nat) : List Nat := (List.range (p.length + 1)).filter fun v => decide (v ∉ l)
end Th
namespace Th
open PySem Pt Sh Sw
variable {p : List Nat} {s : List Int}
end Th
set_option maxHeartbeats 1000000
namespace Th
open Pt
variable {p : List Nat} {s : List Int}
theorem Iso.rks_same {s' : List Int} (hs : Inj p.length s) (hs' : Inj p.length s') (i : Iso p.length s s') : rks s = rks s' := by
  have ho := ordL_ok hs
  have ho' : IsOrd p s' (ordL p s) := ⟨ho.1, ho.2.imp_of_mem fun {a b} ha hb hab => (i a b (ho.le ha) (ho.le hb)).mp hab⟩
  rw [rks_eq hs, rks_eq hs', ho'.eq hs']
theorem bx_drop {w : Nat} (hw : w + 1 < s.length) : bx s.dropLast w = bx s w := by
  unfold bx
  rw [List.getD_eq_getElem?_getD, List.getD_eq_getElem?_getD, List.getElem?_dropLast, if_pos (by omega)]
theorem Iso.drop {n : Nat} {s' : List Int} (hs : Inj (n + 1) s) (hs' : Inj (n + 1) s') (i : Iso (n + 1) s s') : Iso n s.dropLast s'.dropLast := fun v w hv hw => by
  have h1 := hs.1
  have h2 := hs'.1
  rw [bx_drop (by omega), bx_drop (by omega), bx_drop (by omega), bx_drop (by omega)]
  exact i v w (by omega) (by omega)
end Th
set_option maxHeartbeats 4000000
namespace Th
open PySem.W (dataLe dataLe_ii)
open PySem Pt Sh Sw
variable {p : List Nat} {s : List Int}
theorem chain_last (h : PlantOk p) (s : List Int) : ∀ v, v ≤ p.length → ∃ pre m, chain p s v = pre ++ [m] ∧ kids p m = [] ∧ m ≤ p.length := chain_ind h s _ (fun v hv hk => ⟨[], v, by rw [chain_nil h hk]; rfl, hk, hv⟩) fun v hv hk ⟨pre, m, e, hm, hl⟩ => ⟨v :: pre, m, by rw [chain_cons h hk, e]; rfl, hm, hl⟩
theorem way_le (h : PlantOk p) {v : Nat} : ∀ w, w ≤ p.length → v ∈ way p w → v ≤ w := way_ind h _ (fun hv => by
    rw [way_zero] at hv
    have := List.mem_singleton.mp hv
    omega) fun u c hc ih hv => by
  rw [way_kid h hc] at hv
  have hg := kids_gt h hc
  rcases List.mem_cons.mp hv with q | q
  · omega
  · have := ih q
    omega
end Th
namespace Th
open Pt
variable {p : List Nat} {s b : List Int} {q : List Nat}
def sOut (p : List Nat) (s : List Int) : Nat → List Nat → List Nat
  | 0, _ => []
  | _ + 1, [] => []
  | f + 1, k :: ks => best s (k :: ks) :: sOut p s f ((k :: ks).erase (best s (k :: ks)) ++ kids p (best s (k :: ks)))
theorem sOut_ne {f : Nat} {R : List Nat} (h : R ≠ []) : sOut p s (f + 1) R = best s R :: sOut p s f (R.erase (best s R) ++ kids p (best s R)) := by
  cases R with
  | nil => exact (h rfl).elim
  | cons k ks => rfl
def Fr (p : List Nat) (q : List Nat) (k : Nat) (R : List Nat) : Prop := AC p R ∧ (∀ w, w ≤ p.length → (w ∈ R ↔ w ∉ q.take k ∧ ((k = 0 ∧ w = 0) ∨ (w ≠ 0 ∧ par p w ∈ q.take k)))) ∧ ∀ w ∈ q.take k, w = 0 ∨ par p w ∈ q.take k
theorem take_succ' {k c : Nat} (e : q[k]? = some c) : q.take (k + 1) = q.take k ++ [c] := by rw [List.take_add_one, e]; rfl
theorem not_take {k c : Nat} (hn : q.Nodup) (e : q[k]? = some c) : c ∉ q.take k := fun z => by
  obtain ⟨j, hj, e2⟩ := List.mem_take_iff_getElem.mp z
  have hk := (List.getElem?_eq_some_iff.mp e)
  have e3 : q[j]? = some c := by rw [List.getElem?_eq_getElem (by omega), e2]
  have := (List.getElem?_inj hk.1 hn).mp (e.trans e3.symm)
  omega
theorem fr_step (h : PlantOk p) {k c : Nat} {R : List Nat} (hn : q.Nodup) (e : q[k]? = some c) (hc : c ∈ R) (F : Fr p q k R) : Fr p q (k + 1) (R.erase c ++ kids p c) := by
  obtain ⟨a, hm, hu⟩ := F
  have hcl := a.le c hc
  have hct := not_take hn e
  have hcR := (hm c hcl).mp hc
  refine ⟨a.pop h hc, fun w hw => ?_, fun w hw => ?_⟩
  · rw [List.mem_append, take_succ' e]
    have ee : w ∈ R.erase c ↔ w ≠ c ∧ w ∈ R := a.nd.mem_erase_iff
    rw [ee]
    constructor
    · rintro (⟨h1, h2⟩ | h2)
      · obtain ⟨h3, h4⟩ := (hm w hw).mp h2
        refine ⟨fun z => ?_, ?_⟩
        · rcases List.mem_append.mp z with z | z
          · exact h3 z
          · exact h1 (List.mem_singleton.mp z)
        · rcases h4 with ⟨h5, h6⟩ | ⟨h5, h6⟩
          · rcases hcR.2 with ⟨h7, h8⟩ | ⟨h7, h8⟩
            · exact absurd (h6.trans h8.symm) h1
            · rw [h5] at h8
              simp at h8
          · exact .inr ⟨h5, List.mem_append_left _ h6⟩
      · have g := kids_gt h h2
        have ep : par p w = c := (par_eq h2 (kid_par h (by omega) g.2)).symm
        refine ⟨fun z => ?_, .inr ⟨by omega, by rw [ep]; exact List.mem_append_right _ (List.mem_singleton.mpr rfl)⟩⟩
        rcases List.mem_append.mp z with z | z
        · rcases hu w z with y | y
          · omega
          · rw [ep] at y
            exact hct y
        · have := List.mem_singleton.mp z
          omega
    · rintro ⟨h1, h2⟩
      have h3 : w ∉ q.take k := fun z => h1 (List.mem_append_left _ z)
      have h4 : w ≠ c := fun z => h1 (List.mem_append_right _ (List.mem_singleton.mpr z))
      rcases h2 with ⟨h5, _⟩ | ⟨h5, h6⟩
      · omega
      · rcases List.mem_append.mp h6 with z | z
        · exact .inl ⟨h4, (hm w hw).mpr ⟨h3, .inr ⟨h5, z⟩⟩⟩
        · refine .inr ?_
          rw [← List.mem_singleton.mp z]
          exact kid_par h h5 hw
  · rw [take_succ' e] at hw ⊢
    rcases List.mem_append.mp hw with z | z
    · exact (hu w z).imp_right fun y => List.mem_append_left _ y
    · rw [List.mem_singleton.mp z]
      rcases hcR.2 with ⟨_, y⟩ | ⟨_, y⟩
      · exact .inl y
      · exact .inr (List.mem_append_left _ y)
structure Vk (p : List Nat) (b : List Int) (k : Nat) (q : List Nat) : Prop where
  nd : q.Nodup
  len : q.length = k
  le : ∀ v ∈ q, v ≤ p.length
  top : q[0]? = some 0
  lnk : ∀ j c, 0 < j → q[j]? = some c → ∃ i v, i < j ∧ q[i]? = some v ∧ c ∈ kids p v ∧ ∀ f, i < f → f < j → ¬ bx b j < bx b f
theorem Vk.run (h : PlantOk p) (hs : Inj p.length s) (V : Vk p b (p.length + 1) q) (hall : ∀ w, w ≤ p.length → w ∈ q) (hb : ∀ i v, q[i]? = some v → bx s v = bx b i) : ∀ f k R, f + k = p.length + 1 → Fr p q k R → sOut p s f R = q.drop k
  | 0, k, R, hk, F => by
    rw [List.drop_eq_nil_of_le (by rw [V.len]; omega)]
    rfl
  | f + 1, k, R, hk, F => by
    have hkl : k < q.length := by rw [V.len]; omega
    obtain ⟨c, ec⟩ : ∃ c, q[k]? = some c := ⟨_, List.getElem?_eq_getElem hkl⟩
    have hcl := V.le c (List.mem_of_getElem? ec)
    have hcR : c ∈ R := (F.2.1 c hcl).mpr ⟨not_take V.nd ec, by
      by_cases h0 : k = 0
      · subst h0
        have := V.top
        rw [ec] at this
        exact .inl ⟨rfl, Option.some.inj this⟩
      · obtain ⟨i, v, hi, ei, hc, _⟩ := V.lnk k c (by omega) ec
        have g := kids_gt h hc
        refine .inr ⟨by omega, ?_⟩
        rw [show par p c = v from (par_eq hc (kid_par h (by omega) g.2)).symm]
        exact List.mem_take_iff_getElem.mpr ⟨i, by have := (List.getElem?_eq_some_iff.mp ei).1; omega, (List.getElem?_eq_some_iff.mp ei).2⟩⟩
    have hbest : best s R = c := by
      refine best_eq hs F.1.le hcR fun o ho => ?_
      have hol := F.1.le o ho
      obtain ⟨h1, h2⟩ := (F.2.1 o hol).mp ho
      obtain ⟨j, ej⟩ := List.getElem?_of_mem (hall o hol)
      have hjk : k ≤ j := by
        rcases Nat.lt_or_ge j k with z | z
        · exact absurd (List.mem_take_iff_getElem.mpr ⟨j, by have := (List.getElem?_eq_some_iff.mp ej).1; omega, (List.getElem?_eq_some_iff.mp ej).2⟩) h1
        · exact z
      by_cases ejk : j = k
      · subst ejk
        rw [ec] at ej
        rw [Option.some.inj ej]
        exact Int.le_refl _
      · rw [hb k c ec, hb j o ej]
        rcases h2 with ⟨h3, h4⟩ | ⟨h3, h4⟩
        · subst h3
          have e0 := V.top
          rw [h4] at ej
          have := (List.getElem?_inj (List.getElem?_eq_some_iff.mp e0).1 V.nd).mp (e0.trans ej.symm)
          omega
        · obtain ⟨i, v, hi, ei, hc, hf⟩ := V.lnk j o (by omega) ej
          have g := kids_gt h hc
          rw [show par p o = v from (par_eq hc (kid_par h (by omega) g.2)).symm] at h4
          obtain ⟨i2, hi2, e2⟩ := List.mem_take_iff_getElem.mp h4
          have e3 : q[i2]? = some v := by rw [List.getElem?_eq_getElem (by omega), e2]
          have := (List.getElem?_inj (List.getElem?_eq_some_iff.mp ei).1 V.nd).mp (ei.trans e3.symm)
          have := hf k (by omega) (by omega)
          omega
    have hne : R ≠ [] := fun e => by rw [e] at hcR; cases hcR
    rw [sOut_ne hne, hbest, Vk.run h hs V hall hb f (k + 1) _ (by omega) (fr_step h V.nd ec hcR F)]
    rw [List.drop_eq_getElem_cons hkl]
    have := (List.getElem?_eq_some_iff.mp ec).2
    rw [this]
end Th
namespace Th
open Pt
variable {p : List Nat} {s b : List Int} {q : List Nat}
def stk (n : Nat) (q : List Nat) (b : List Int) : List Int := (List.range (n + 1)).map fun v => bx b (q.idxOf v)
theorem Vk.all (V : Vk p b (p.length + 1) q) : ∀ w, w ≤ p.length → w ∈ q := fun w hw => by
  have hI : (q.map fun v : Nat => (v : Int)).Nodup := by
    rw [List.nodup_iff_pairwise_ne, List.pairwise_map]
    exact (List.nodup_iff_pairwise_ne.mp V.nd).imp fun {a b} hab e => hab (by omega)
  have pm := nodup_sub_perm hI (r := (List.range (p.length + 1)).map fun i : Nat => (i : Int)) (fun x hx => by
    obtain ⟨v, hv, rfl⟩ := List.mem_map.mp hx
    have := V.le v hv
    exact List.mem_map.mpr ⟨v, List.mem_range.mpr (by omega), rfl⟩) (by simp [V.len])
  have : (w : Int) ∈ q.map fun v : Nat => (v : Int) := pm.mem_iff.mpr (List.mem_map.mpr ⟨w, List.mem_range.mpr (by omega), rfl⟩)
  obtain ⟨v, hv, e⟩ := List.mem_map.mp this
  have : v = w := by omega
  exact this ▸ hv
end Th
namespace Th
open Pt St
variable {p : List Nat} {s b : List Int} {q : List Nat}
theorem nodup_flat {α β : Type} {f : α → List β} : ∀ l : List α, l.Nodup → (∀ a ∈ l, (f a).Nodup) → (∀ a ∈ l, ∀ a' ∈ l, a ≠ a' → ∀ x ∈ f a, x ∉ f a') → (l.flatMap f).Nodup
  | [], _, _, _ => List.nodup_nil
  | a :: l, h, h1, h2 => by
    obtain ⟨n1, n2⟩ := List.nodup_cons.mp h
    rw [List.flatMap_cons]
    refine List.nodup_append.mpr ⟨h1 a (List.mem_cons_self ..), nodup_flat l n2 (fun x hx => h1 x (List.mem_cons_of_mem _ hx)) fun x hx y hy => h2 x (List.mem_cons_of_mem _ hx) y (List.mem_cons_of_mem _ hy), fun x hx y hy e => ?_⟩
    subst e
    obtain ⟨a', ha', hy⟩ := List.mem_flatMap.mp hy
    exact h2 a (List.mem_cons_self ..) a' (List.mem_cons_of_mem _ ha') (fun z => n1 (z ▸ ha')) x hx hy
theorem flat_len {α β : Type} {f : α → List β} {m : Nat} : ∀ l : List α, (∀ a ∈ l, (f a).length ≤ m) → (l.flatMap f).length ≤ l.length * m
  | [], _ => by simp
  | a :: l, h => by
    rw [List.flatMap_cons, List.length_append, List.length_cons, Nat.succ_mul]
    have := h a (List.mem_cons_self ..)
    have := flat_len l fun x hx => h x (List.mem_cons_of_mem _ hx)
    omega
theorem nodup_mapI {α β : Type} {f : α → β} (hf : ∀ a b, f a = f b → a = b) {l : List α} (h : l.Nodup) : (l.map f).Nodup := by
  rw [List.nodup_iff_pairwise_ne, List.pairwise_map]
  exact (List.nodup_iff_pairwise_ne.mp h).imp fun {a b} hab e => hab (hf _ _ e)
theorem snoc_inj {α : Type} {q r : List α} {a c : α} (h : q ++ [a] = r ++ [c]) : q = r ∧ a = c := by
  have := List.append_inj' h rfl
  exact ⟨this.1, List.cons.inj this.2 |>.1⟩
def pb (n : Nat) : Nat → Nat
  | 0 => 1
  | k + 1 => pb n k * (n - k)
def pr (n : Nat) : Nat → Nat
  | 0 => 1
  | k + 1 => if k = 0 then 1 else pr n k * (n + 1 - k)
def SalesL (p : List Nat) (b : List Int) (L : List (List Int)) : Prop := L.Nodup ∧ ∀ t, t ∈ L ↔ t.Perm b ∧ sales p t = b
theorem SalesL.perm {L M : List (List Int)} (h : SalesL p b L) (h2 : SalesL p b M) : L.Perm M := (List.perm_ext_iff_of_nodup h.1 h2.1).mpr fun t => by rw [h.2, h2.2]
def allL (c : Nat) : Nat → List (List Nat)
  | 0 => [[]]
  | k + 1 => (allL c k).flatMap fun q => ((List.range c).filter fun r => decide (r ∉ q)).map fun r => q ++ [r]
theorem mem_allL {c : Nat} : ∀ {k : Nat} {q : List Nat}, q ∈ allL c k ↔ q.Nodup ∧ q.length = k ∧ ∀ v ∈ q, v < c
  | 0, q => by
    show q ∈ [[]] ↔ _
    rw [List.mem_singleton]
    constructor
    · rintro rfl
      exact ⟨List.nodup_nil, rfl, fun v hv => by cases hv⟩
    · rintro ⟨_, h, _⟩
      exact List.eq_nil_of_length_eq_zero h
  | k + 1, q => by
    show q ∈ (allL c k).flatMap _ ↔ _
    rw [List.mem_flatMap]
    constructor
    · rintro ⟨r, hr, hq⟩
      obtain ⟨x, hx, rfl⟩ := List.mem_map.mp hq
      obtain ⟨h1, h2⟩ := List.mem_filter.mp hx
      have h1 := List.mem_range.mp h1
      have h2 : x ∉ r := by simpa using h2
      obtain ⟨h3, h4, h5⟩ := mem_allL.mp hr
      refine ⟨List.nodup_append.mpr ⟨h3, by simp, fun y hy z hz e => ?_⟩, by rw [List.length_append, h4]; rfl, fun v hv => ?_⟩
      · rw [List.mem_singleton.mp hz] at e
        exact h2 (e ▸ hy)
      · rcases List.mem_append.mp hv with z | z
        · exact h5 v z
        · rw [List.mem_singleton.mp z]
          exact h1
    · rintro ⟨h1, h2, h3⟩
      have hne : q ≠ [] := fun e => by rw [e] at h2; cases h2
      have eq : q.dropLast ++ [q.getLast hne] = q := List.dropLast_concat_getLast hne
      rw [← eq] at h1 h3
      obtain ⟨n1, _, n3⟩ := List.nodup_append.mp h1
      refine ⟨q.dropLast, mem_allL.mpr ⟨n1, by rw [List.length_dropLast, h2]; rfl, fun v hv => h3 v (List.mem_append_left _ hv)⟩, List.mem_map.mpr ⟨q.getLast hne, List.mem_filter.mpr ⟨List.mem_range.mpr (h3 _ (by simp)), ?_⟩, eq⟩⟩
      simp only [decide_eq_true_eq]
      exact fun z => n3 _ z _ (List.mem_singleton.mpr rfl) rfl
theorem allL_nodup (c : Nat) : ∀ k, (allL c k).Nodup
  | 0 => by simp [allL]
  | k + 1 => by
    refine nodup_flat _ (allL_nodup c k) (fun q _ => nodup_mapI (fun x y e => (snoc_inj e).2) (List.nodup_range.filter _)) fun q _ q' _ hne x hx hx' => ?_
    obtain ⟨y, _, rfl⟩ := List.mem_map.mp hx
    obtain ⟨y', _, e⟩ := List.mem_map.mp hx'
    exact hne (snoc_inj e).1.symm
theorem free_len {c : Nat} {q : List Nat} (h : q.Nodup) (hl : ∀ v ∈ q, v < c) : ((List.range c).filter fun r => decide (r ∉ q)).length + q.length ≤ c := by
  have hn : (((List.range c).filter fun r => decide (r ∉ q)) ++ q).Nodup := List.nodup_append.mpr ⟨List.nodup_range.filter _, h, fun x hx y hy e => by
    subst e
    have := (List.mem_filter.mp hx).2
    simp only [decide_eq_true_eq] at this
    exact this hy⟩
  have := List.Nodup.length_le_of_subset hn (l₂ := List.range c) fun x hx => by
    rcases List.mem_append.mp hx with z | z
    · exact (List.mem_filter.mp z).1
    · exact List.mem_range.mpr (hl x z)
  rwa [List.length_append, List.length_range] at this
theorem allL_len (c : Nat) : ∀ k, (allL c k).length ≤ pb c k
  | 0 => Nat.le_refl _
  | k + 1 => by
    refine Nat.le_trans (flat_len (m := c - k) _ fun q hq => ?_) (Nat.mul_le_mul_right _ (allL_len c k))
    obtain ⟨h1, h2, h3⟩ := mem_allL.mp hq
    have := free_len h1 h3
    rw [List.length_map]
    omega
theorem pb_le : ∀ n, n ≤ 7 → ∀ k, k ≤ 7 → pb n k ≤ 5040 := by decide
theorem sort_tups (N : List (List Int)) : (N.map tupI).mergeSort (PySem.W.dataLe false id) = (N.mergeSort fun a b => decide (a ≤ b)).map tupI := by
  refine (List.map_mergeSort (r := fun a b : List Int => decide (a ≤ b)) (s := PySem.W.dataLe false id) (f := tupI) (l := N) fun a _ b _ => ?_).symm
  have e := congrFun (congrFun (PySem.W.dataLe_rows (fun x : List Int => x)) a) b
  exact e.symm
theorem sort_eq {L M : List (List Int)} (pm : L.Perm M) : (L.map tupI).mergeSort (PySem.W.dataLe false id) = (M.map tupI).mergeSort (PySem.W.dataLe false id) := by
  have pw : ∀ N : List (List Int), (N.mergeSort fun a b => decide (a ≤ b)).Pairwise fun a b => a ≤ b := fun N => by
    have h1 := List.pairwise_mergeSort (le := fun a b : List Int => decide (a ≤ b)) (fun a b c h1 h2 => by
      simp only [decide_eq_true_eq] at *
      exact List.le_trans h1 h2) (fun a b => by
      simp only [Bool.or_eq_true, decide_eq_true_eq]
      exact List.le_total a b) N
    exact h1.imp fun h => of_decide_eq_true h
  rw [sort_tups, sort_tups]
  refine congrArg (List.map tupI) (List.Perm.eq_of_pairwise (le := fun a b => a ≤ b) (fun a b _ _ h1 h2 => List.le_antisymm h1 h2) (pw L) (pw M) ?_)
  exact ((List.mergeSort_perm _ _).trans pm).trans (List.mergeSort_perm _ _).symm
end Th
namespace Th
open Pt
variable {p : List Nat} {q r s : List Int}
def isP (p : List Nat) (s : List Int) : Prop := Inj p.length s ∧ ∀ x ∈ s, 0 ≤ x ∧ x ≤ p.length
theorem isP.perm (h : isP p s) : s.Perm ((List.range (p.length + 1)).map fun i : Nat => (i : Int)) :=
  nodup_sub_perm h.1.2 (fun x hx => by
    have := h.2 x hx
    exact List.mem_map.mpr ⟨x.toNat, List.mem_range.mpr (by omega), by omega⟩) (by rw [List.length_map, List.length_range, h.1.1]; exact Nat.le_refl _)
theorem isP.rks_self (h : isP p s) : rks s = s := by
  have e : sortI s = (List.range (p.length + 1)).map fun i : Nat => (i : Int) := by
    refine List.Perm.eq_of_pairwise (le := fun a b => a ≤ b) (fun a b _ _ h1 h2 => by omega) (sortI_pw s) ?_ ((sortI_perm s).trans h.perm)
    rw [List.pairwise_map]
    exact List.pairwise_lt_range.imp fun h => by omega
  unfold rks
  rw [e]
  conv => rhs; rw [← List.map_id s]
  refine List.map_congr_left fun x hx => ?_
  have hm : x ∈ (List.range (p.length + 1)).map fun i : Nat => (i : Int) := h.perm.mem_iff.mp hx
  have hl := List.idxOf_lt_length_iff.mpr hm
  have hg := List.getElem_idxOf hl
  rw [List.getElem_map, List.getElem_range] at hg
  exact hg
def fR (a x : Int) : Int := if a < x then x - 1 else x
def gR (a u : Int) : Int := if a ≤ u then u + 1 else u
theorem fR_gR (a u : Int) : fR a (gR a u) = u := by
  unfold fR gR
  split <;> split <;> omega
theorem gR_fR {a x : Int} (h : x ≠ a) : gR a (fR a x) = x := by
  unfold fR gR
  split <;> split <;> omega
theorem gR_ne (a u : Int) : gR a u ≠ a := by
  unfold gR
  split <;> omega
theorem gR_lt {a u v : Int} : gR a u < gR a v ↔ u < v := by
  unfold gR
  split <;> split <;> omega
theorem fR_lt {a x y : Int} (hx : x ≠ a) (hy : y ≠ a) : fR a x < fR a y ↔ x < y := by
  unfold fR
  split <;> split <;> omega
theorem bx_map {f : Int → Int} {v : Nat} (hv : v < s.length) : bx (s.map f) v = f (bx s v) := by
  unfold bx
  rw [List.getD_eq_getElem?_getD, List.getD_eq_getElem?_getD, List.getElem?_map, List.getElem?_eq_getElem hv]
  rfl
theorem nxt_ne (h : PlantOk p) (hs : Inj p.length s) {w : Nat} (hw : w ≤ p.length) : bx (nxt p s 0) w ≠ bx s 0 := fun e =>
  nxt_gone h hs (e ▸ bx_mem (nxt_inj h hs) hw)
theorem isP.mx (h : isP p s) : mx s = p.length := by
  refine mx_eq ?_ fun y hy => (h.2 y hy).2
  exact h.perm.symm.mem_iff.mp (List.mem_map.mpr ⟨p.length, List.mem_range.mpr (by omega), rfl⟩)
def later (p : List Nat) (r : List Int) : List Int := rks (nxt p r 0)
theorem later_eq (h : PlantOk p) (hr : isP p r) : later p r = (nxt p r 0).map (fR (bx r 0)) ∧ isP p (later p r) := by
  have hi := nxt_inj h hr.1
  have hne : ∀ x ∈ nxt p r 0, x ≠ bx r 0 := fun x hx e => nxt_gone h hr.1 (e ▸ hx)
  have hb : ∀ x ∈ nxt p r 0, 0 ≤ x ∧ x ≤ p.length + 1 := fun x hx => by
    rcases nxt_mem h hr.1 hx with z | z
    · have := hr.2 x z
      omega
    · rw [hr.mx] at z
      omega
  have h0 := hr.2 _ (bx_mem hr.1 (Nat.zero_le _))
  have hp : isP p ((nxt p r 0).map (fR (bx r 0))) := by
    refine ⟨⟨by rw [List.length_map, hi.1], List.pairwise_map.mpr (hi.2.imp_of_mem fun {a b} ha hb hab e => ?_)⟩, fun x hx => ?_⟩
    · have h1 := hne a ha
      have h2 := hne b hb
      have e1 : gR (bx r 0) (fR (bx r 0) a) = gR (bx r 0) (fR (bx r 0) b) := congrArg _ e
      rw [gR_fR h1, gR_fR h2] at e1
      exact hab e1
    · obtain ⟨y, hy, rfl⟩ := List.mem_map.mp hx
      have h1 := hb y hy
      have h2 := hne y hy
      unfold fR
      split <;> omega
  have iso : Iso p.length (nxt p r 0) ((nxt p r 0).map (fR (bx r 0))) := fun v w hv hw => by
    rw [bx_map (by rw [hi.1]; omega), bx_map (by rw [hi.1]; omega), fR_lt (nxt_ne h hr.1 hv) (nxt_ne h hr.1 hw)]
  have e : later p r = (nxt p r 0).map (fR (bx r 0)) := by
    unfold later
    rw [iso.rks_same hi hp.1, hp.rks_self]
  exact ⟨e, by rw [e]; exact hp⟩
theorem later_bx (h : PlantOk p) (hr : isP p r) {w : Nat} (hw : w ≤ p.length) : bx (later p r) w = fR (bx r 0) (bx (nxt p r 0) w) := by
  rw [(later_eq h hr).1, bx_map (by rw [nxt_len, hr.1.1]; omega)]
theorem chain_tail (h : PlantOk p) (s : List Int) : ∀ v, v ≤ p.length → ∀ w ∈ chain p s v, ∃ pre, chain p s v = pre ++ chain p s w := by
  refine chain_ind h s _ (fun v hv hk w hw => ?_) (fun v hv hk ih w hw => ?_)
  · rw [chain_nil h hk, List.mem_singleton] at hw
    subst hw
    exact ⟨[], rfl⟩
  · rw [chain_cons h hk] at hw
    rcases List.mem_cons.mp hw with rfl | hw
    · exact ⟨[], rfl⟩
    · obtain ⟨pre, e⟩ := ih w hw
      exact ⟨v :: pre, by rw [chain_cons h hk, e]; rfl⟩
theorem chain_end (h : PlantOk p) (s : List Int) : ∃ m, m ≤ p.length ∧ kids p m = [] ∧ ∀ w, w ∈ chain p s 0 ↔ w ∈ way p m := by
  obtain ⟨pre, m, e, hk, hm⟩ := chain_last h s 0 (Nat.zero_le _)
  have mem : m ∈ chain p s 0 := by rw [e]; simp
  refine ⟨m, hm, hk, fun w => ⟨fun hw => ?_, fun hw => chain_anc h s m hm mem hw⟩⟩
  have hwl := (chain_ge h s 0 (Nat.zero_le _) w hw).2
  obtain ⟨pre2, e2⟩ := chain_tail h s 0 (Nat.zero_le _) w hw
  obtain ⟨pre3, m3, e3, _, _⟩ := chain_last h s w hwl
  have : m = m3 := by
    have z := congrArg (fun l => List.getLastD l 0) (e.symm.trans e2)
    rw [e3] at z
    simpa using z
  refine chain_way h s w hwl m ?_
  rw [e3, this]
  simp
theorem way_one (h : PlantOk p) {m v b c : Nat} (hm : m ≤ p.length) (hb : b ∈ way p m) (hc : c ∈ way p m) (kb : b ∈ kids p v) (kc : c ∈ kids p v) : b = c := by
  have gb := kids_gt h kb
  have gc := kids_gt h kc
  rcases Nat.le_total b c with z | z
  · have q := Sw.way_lower h m hm hb hc z
    rw [way_kid h kc] at q
    rcases List.mem_cons.mp q with e | e
    · exact e
    · have := way_le h v (by omega) e
      omega
  · have q := Sw.way_lower h m hm hc hb z
    rw [way_kid h kb] at q
    rcases List.mem_cons.mp q with e | e
    · exact e.symm
    · have := way_le h v (by omega) e
      omega
theorem way_par (h : PlantOk p) {m b : Nat} (hm : m ≤ p.length) (hb : b ∈ way p m) (h0 : b ≠ 0) : par p b ∈ way p m := by
  have hbl := way_le h m hm hb
  have k := kid_par h h0 (by omega)
  refine way_trans h (by omega) m hm ?_ hb
  rw [way_kid h k]
  exact List.mem_cons_of_mem _ (way_self h (by have := kids_gt h k; omega))
theorem bx_eq {s s' : List Int} (hl : s.length = p.length + 1) (hl' : s'.length = p.length + 1) (e : ∀ w, w ≤ p.length → bx s w = bx s' w) : s = s' := by
  refine List.ext_getElem? fun i => ?_
  by_cases hi : i < p.length + 1
  · rw [bx_get (by omega), bx_get (by omega), e i (by omega)]
  · rw [List.getElem?_eq_none (by omega), List.getElem?_eq_none (by omega)]
structure Back (p : List Nat) (q : List Int) (m : Nat) : Prop where
  le : m ≤ p.length
  leaf : kids p m = []
  top : bx q m = p.length
  old : ∀ v b, b ∈ way p m → b ∈ kids p v → ∀ o ∈ kids p v, o ≠ b → bx q v < bx q o
def src (p : List Nat) (m w : Nat) : Nat := if w ∈ way p m then par p w else w
def early (p : List Nat) (q : List Int) (m : Nat) (x : Int) : List Int := (List.range (p.length + 1)).map fun w => if w = 0 then x else gR x (bx q (src p m w))
theorem early_len {m : Nat} {x : Int} : (early p q m x).length = p.length + 1 := by unfold early; rw [List.length_map, List.length_range]
theorem early_bx {m : Nat} {x : Int} {w : Nat} (hw : w ≤ p.length) : bx (early p q m x) w = if w = 0 then x else gR x (bx q (src p m w)) := by
  have e : (early p q m x)[w]? = some (if w = 0 then x else gR x (bx q (src p m w))) := by
    unfold early
    rw [List.getElem?_map, List.getElem?_range (by omega)]
    rfl
  rw [bx_get (by rw [early_len]; omega)] at e
  exact Option.some.inj e
theorem back_of (h : PlantOk p) (hr : isP p r) : ∃ m, Back p (later p r) m ∧ r = early p (later p r) m (bx r 0) := by
  obtain ⟨m, hm, hk, hc⟩ := chain_end h r
  have h0 := hr.2 _ (bx_mem hr.1 (Nat.zero_le _))
  have ne0 : ∀ w, w ≠ 0 → w ≤ p.length → bx r w ≠ bx r 0 := fun w hw hwl e => hw (inj_eq hr.1 hwl (Nat.zero_le _) e)
  have on : ∀ v b, b ∈ way p m → b ∈ kids p v → bx (later p r) v = fR (bx r 0) (bx r b) := fun v b hb kb => by
    have g := kids_gt h kb
    have hv : v ∈ way p m := by
      have e : v = par p b := par_eq kb (kid_par h (by omega) g.2)
      rw [e]
      exact way_par h hm hb (by omega)
    have hkv : kids p v ≠ [] := fun e => by rw [e] at kb; cases kb
    rw [later_bx h hr (by omega), nxt_at h hr.1.1 (Nat.zero_le _) ((hc v).mpr hv), if_neg hkv]
    have hbest : best r (kids p v) ∈ way p m := (hc _).mp (by
      obtain ⟨pre, e⟩ := chain_tail h r 0 (Nat.zero_le _) v ((hc v).mpr hv)
      rw [e, chain_cons h hkv]
      exact List.mem_append_right _ (List.mem_cons_of_mem _ (chain_self ..)))
    rw [way_one h hm hbest hb (best_mem hkv) kb]
  have off : ∀ w, w ≤ p.length → w ∉ way p m → bx (later p r) w = fR (bx r 0) (bx r w) := fun w hw hn => by
    rw [later_bx h hr hw, nxt_other fun z => hn ((hc w).mp z)]
  have hb : Back p (later p r) m := by
    refine ⟨hm, hk, ?_, fun v b hb kb o ko hne => ?_⟩
    · rw [later_bx h hr hm, nxt_at h hr.1.1 (Nat.zero_le _) ((hc m).mpr (way_self h hm)), if_pos hk, hr.mx]
      unfold fR
      rw [if_pos (by omega)]
      omega
    · have g := kids_gt h kb
      have go := kids_gt h ko
      have ho : o ∉ way p m := fun z => hne (way_one h hm z hb ko kb)
      rw [on v b hb kb, off o go.2 ho, fR_lt (ne0 b (by omega) g.2) (ne0 o (by omega) go.2)]
      have hkv : kids p v ≠ [] := fun e => by rw [e] at kb; cases kb
      have hv : v ∈ way p m := by
        have e : v = par p b := par_eq kb (kid_par h (by omega) g.2)
        rw [e]
        exact way_par h hm hb (by omega)
      have hbest : best r (kids p v) = b := by
        refine way_one h hm ((hc _).mp ?_) hb (best_mem hkv) kb
        obtain ⟨pre, e⟩ := chain_tail h r 0 (Nat.zero_le _) v ((hc v).mpr hv)
        rw [e, chain_cons h hkv]
        exact List.mem_append_right _ (List.mem_cons_of_mem _ (chain_self ..))
      have h1 := best_le (s := r) ko
      rw [hbest] at h1
      have h2 : bx r b ≠ bx r o := fun e => hne (inj_eq hr.1 g.2 go.2 e).symm
      omega
  refine ⟨m, hb, bx_eq hr.1.1 early_len fun w hw => ?_⟩
  rw [early_bx hw]
  by_cases hw0 : w = 0
  · rw [if_pos hw0, hw0]
  · rw [if_neg hw0]
    unfold src
    by_cases hwm : w ∈ way p m
    · rw [if_pos hwm, on (par p w) w hwm (kid_par h hw0 hw), gR_fR (ne0 w hw0 hw)]
    · rw [if_neg hwm, off w hw hwm, gR_fR (ne0 w hw0 hw)]
theorem back_to (h : PlantOk p) (hq : isP p q) {m : Nat} (hb : Back p q m) {x : Int} (h0 : 0 ≤ x) (h1 : x ≤ p.length) : isP p (early p q m x) ∧ later p (early p q m x) = q := by
  have hm := hb.le
  have mway := way_self h hm
  have srcl : ∀ w, w ≠ 0 → w ≤ p.length → src p m w ≤ p.length ∧ src p m w ≠ m := fun w hw hwl => by
    unfold src
    by_cases hwm : w ∈ way p m
    · rw [if_pos hwm]
      have k := kid_par h hw hwl
      have g := kids_gt h k
      exact ⟨by omega, fun e => by rw [e, hb.leaf] at k; cases k⟩
    · rw [if_neg hwm]
      exact ⟨hwl, fun e => hwm (e ▸ mway)⟩
  have srci : ∀ v w, v ≠ 0 → v ≤ p.length → w ≠ 0 → w ≤ p.length → src p m v = src p m w → v = w := fun v w hv hvl hw hwl e => by
    unfold src at e
    by_cases a : v ∈ way p m <;> by_cases b : w ∈ way p m
    · rw [if_pos a, if_pos b] at e
      exact way_one h hm a b (kid_par h hv hvl) (e ▸ kid_par h hw hwl)
    · rw [if_pos a, if_neg b] at e
      exact absurd (e ▸ way_par h hm a hv) b
    · rw [if_neg a, if_pos b] at e
      exact absurd (e ▸ way_par h hm b hw) a
    · rwa [if_neg a, if_neg b] at e
  have val : ∀ w, w ≠ 0 → w ≤ p.length → 0 ≤ bx q (src p m w) ∧ bx q (src p m w) < p.length := fun w hw hwl => by
    obtain ⟨a, b⟩ := srcl w hw hwl
    have c := hq.2 _ (bx_mem hq.1 a)
    have d : bx q (src p m w) ≠ bx q m := fun e => b (inj_eq hq.1 a hm e)
    rw [hb.top] at d
    omega
  have inj : ∀ v w, v ≤ p.length → w ≤ p.length → bx (early p q m x) v = bx (early p q m x) w → v = w := fun v w hv hw e => by
    rw [early_bx hv, early_bx hw] at e
    by_cases a : v = 0 <;> by_cases b : w = 0
    · rw [a, b]
    · rw [if_pos a, if_neg b] at e
      exact absurd e.symm (gR_ne _ _)
    · rw [if_neg a, if_pos b] at e
      exact absurd e (gR_ne _ _)
    · rw [if_neg a, if_neg b] at e
      have e2 := congrArg (fR x) e
      rw [fR_gR, fR_gR] at e2
      exact srci v w a hv b hw (inj_eq hq.1 (srcl v a hv).1 (srcl w b hw).1 e2)
  have hr : isP p (early p q m x) := by
    refine ⟨⟨early_len, ?_⟩, fun y hy => ?_⟩
    · rw [List.nodup_iff_pairwise_ne, List.pairwise_iff_getElem]
      intro i j hi hj hij e
      rw [early_len] at hi hj
      have e1 := bx_get (s := early p q m x) (v := i) (by rw [early_len]; exact hi)
      have e2 := bx_get (s := early p q m x) (v := j) (by rw [early_len]; exact hj)
      rw [List.getElem?_eq_getElem (by rw [early_len]; exact hi)] at e1
      rw [List.getElem?_eq_getElem (by rw [early_len]; exact hj)] at e2
      have := inj i j (by omega) (by omega) (by rw [← Option.some.inj e1, ← Option.some.inj e2]; exact e)
      omega
    · obtain ⟨w, hw⟩ := List.getElem?_of_mem hy
      have hwl := (List.getElem?_eq_some_iff.mp hw).1
      rw [bx_get hwl] at hw
      rw [early_len] at hwl
      rw [← Option.some.inj hw, early_bx (by omega)]
      by_cases a : w = 0
      · rw [if_pos a]
        exact ⟨h0, h1⟩
      · rw [if_neg a]
        have := val w a (by omega)
        unfold gR
        split <;> omega
  have r0 : bx (early p q m x) 0 = x := by rw [early_bx (Nat.zero_le _), if_pos rfl]
  have bst : ∀ b, b ≠ 0 → b ≤ p.length → b ∈ way p m → best (early p q m x) (kids p (par p b)) = b := fun b hb0 hbl hbm => by
    have k := kid_par h hb0 hbl
    refine best_eq hr.1 (fun c hc => (kids_gt h hc).2) k fun o ho => ?_
    by_cases e : o = b
    · rw [e]
      exact Int.le_refl _
    · have go := kids_gt h ho
      have hon : o ∉ way p m := fun z => e (way_one h hm z hbm ho k)
      rw [early_bx hbl, early_bx go.2, if_neg hb0, if_neg (by omega)]
      have s1 : src p m b = par p b := by unfold src; rw [if_pos hbm]
      have s2 : src p m o = o := by unfold src; rw [if_neg hon]
      rw [s1, s2]
      have := gR_lt (a := x).mpr (hb.old _ b hbm k o ho e)
      omega
  have up : ∀ w, w ≤ p.length → w ∈ way p m → w ∈ chain p (early p q m x) 0 := by
    intro w
    induction w using Nat.strongRecOn with
    | ind w ih =>
      intro hwl hwm
      by_cases hw0 : w = 0
      · rw [hw0]
        exact chain_self ..
      · have k := kid_par h hw0 hwl
        have g := kids_gt h k
        have hp' := ih (par p w) g.1 (by omega) (way_par h hm hwm hw0)
        obtain ⟨pre, e⟩ := chain_tail h (early p q m x) 0 (Nat.zero_le _) (par p w) hp'
        rw [e, chain_cons h (fun z => by rw [z] at k; cases k), bst w hw0 hwl hwm]
        exact List.mem_append_right _ (List.mem_cons_of_mem _ (chain_self ..))
  obtain ⟨m2, hm2, hk2, hc2⟩ := chain_end h (early p q m x)
  have em : m2 = m := by
    have z := (hc2 m).mp (up m hm mway)
    rcases way_below h m2 hm2 z with e | ⟨c, hc, _⟩
    · exact e
    · rw [hb.leaf] at hc
      cases hc
  subst em
  refine ⟨hr, bx_eq (by rw [(later_eq h hr).2.1.1]) hq.1.1 fun w hw => ?_⟩
  rw [later_bx h hr hw, r0]
  by_cases hwm : w ∈ way p m2
  · rw [nxt_at h hr.1.1 (Nat.zero_le _) ((hc2 w).mpr hwm)]
    by_cases hkw : kids p w = []
    · have : w = m2 := by
        rcases way_below h m2 hm hwm with e | ⟨c, hc, _⟩
        · exact e.symm
        · rw [hkw] at hc
          cases hc
      rw [if_pos hkw, hr.mx, this, hb.top]
      unfold fR
      rw [if_pos (by omega)]
      omega
    · rw [if_neg hkw]
      obtain ⟨b, kb, hbm⟩ : ∃ b ∈ kids p w, b ∈ way p m2 := by
        rcases way_below h m2 hm hwm with e | z
        · rw [← e, hb.leaf] at hkw
          exact absurd rfl hkw
        · exact z
      have g := kids_gt h kb
      have ew : w = par p b := par_eq kb (kid_par h (by omega) g.2)
      have s1 : src p m2 b = par p b := by unfold src; rw [if_pos hbm]
      rw [ew, bst b (by omega) g.2 hbm, early_bx g.2, if_neg (by omega), s1, fR_gR]
  · have hw0 : w ≠ 0 := fun e => hwm (e ▸ way_top h m2 hm)
    have s2 : src p m2 w = w := by unfold src; rw [if_neg hwm]
    rw [nxt_other fun z => hwm ((hc2 w).mp z), early_bx hw, if_neg hw0, s2, fR_gR]
end Th
namespace K38
open PySem PySem.Spec L2 Pt Sh St Sw FC Th
open Ft hiding ints_flat
theorem idx_boxN {s : List Int} {x : Int} {k : O → Prop} (hn : s.Nodup) (hx : x ∈ s) (h : ∀ v : Nat, v < s.length → bx s v = x → k (.fz (.int (v : Nat)))) : oIndexN [.tn (s.map PyData.int), .fz (.int x)] k := by
  have hl := List.idxOf_lt_length_of_mem hx
  have hg : s[s.idxOf x]? = some x := by rw [List.getElem?_eq_getElem hl, List.getElem_idxOf hl]
  refine ⟨s.idxOf x, .int x, rfl, FC.ints_flat s, by rw [List.getElem?_map, hg]; rfl, by simp [PyData.eqv], fun m z' hm hz => ?_, h _ hl ?_⟩
  · rw [List.getElem?_map] at hz
    cases q : s[m]? with
    | none => rw [q] at hz; cases hz
    | some y =>
      rw [q] at hz
      cases hz
      have : y ≠ x := fun z => by
        subst z
        have := (List.getElem?_inj hl hn).mp (hg.trans q.symm)
        omega
      simp [PyData.eqv, this]
  · unfold bx
    rw [List.getD_eq_getElem?_getD, hg]
    rfl
theorem isP_ok {p : List Nat} {s : List Int} (hp : PlantOk p) (hs : isP p s) : SOk p.length 10 s := ⟨hs.1.1, hs.1.2, fun x hx => by
  have := hs.2 x hx
  have := hp.1
  omega⟩
theorem isP_sort {p : List Nat} {s : List Int} (h : isP p s) : sortI s = (List.range (p.length + 1)).map fun i : Nat => (i : Int) := by
  refine List.Perm.eq_of_pairwise (le := fun a b => a ≤ b) (fun a b _ _ h1 h2 => by omega) (sortI_pw s) ?_ ((sortI_perm s).trans h.perm)
  rw [List.pairwise_map]
  exact List.pairwise_lt_range.imp fun h => by omega
def intOf : PyData → Int
  | .int i => i
  | _ => 0
theorem map_intOf (s : List Int) : (s.map PyData.int).map intOf = s := by
  rw [List.map_map]
  exact List.map_id s
def G_require_pattern : WF := fun ds R => ∃ p s, ds = [.fz (tupN p), .fz (tupI s)] ∧ PlantOk p ∧ isP p s ∧ ∀ ρ, R (.fz .none) ρ
theorem sp_require_pattern : ∀ ds R, G_require_pattern ds R → gOf 2 4 (W_require_pattern G_in_range) ds R := by
  rintro _ R ⟨p, s, rfl, hp, hs, h⟩
  refine ⟨rfl, ?_⟩
  have hpl := hp.1
  have hsl := hs.1.1
  refine seq_to (fun ρ => ρ = [.fz (tupN p), .fz (tupI s), .fz (.int (p.length + 1 : Nat)), .hid]) (fun N hN => ?_) fun ρ hρ => ?_
  · simp [tupN]
    exact hN _ (by simp [tupN])
  subst hρ
  simp [tupI, tyO, isSub]
  refine ⟨by unfold szMax; omega, ?_⟩
  refine lc_eq ((s.map fun _ => true).map PyData.bool) (fun ρ => ∃ v_rank, ρ = [.fz (tupN p), .fz (tupI s), .fz (.int (p.length + 1 : Nat)), v_rank]) (by simp) (fun i d y e ey ρ ⟨v_rank, hρ⟩ K1 K0 k1 => ?_) ⟨_, rfl⟩ fun ρ ⟨v_rank, hρ⟩ => ?_
  · subst hρ
    rw [List.getElem?_map] at e
    cases eq : s[i]? with
    | none => rw [eq] at e; cases e
    | some x =>
      rw [eq] at e
      cases e
      rw [List.getElem?_map, List.getElem?_map, eq] at ey
      cases ey
      have hx := hs.2 x (List.mem_of_getElem? eq)
      simp [G_in_range]
      refine ⟨_, _, _, ⟨rfl, rfl, rfl⟩, ?_⟩
      have e1 : inRg 0 (p.length : Int) (.int x) = true := by
        simp only [inRg, Bool.and_eq_true, decide_eq_true_eq]
        exact hx
      rw [e1]
      exact k1 _ ⟨_, rfl⟩
  · subst hρ
    rw [x_toLf2, x_oAll]
    have hall : (s.map fun _ => true).all id = true := by rw [List.all_map]; exact List.all_eq_true.mpr fun _ _ => rfl
    rw [hall]
    simp [tupI]
    refine x_sortI s rfl ?_
    rw [isP_sort hs]
    simp
    refine ⟨by unfold szMax; omega, by omega, ?_⟩
    rw [range_I, ← List.map_map]
    refine x_oEqG (shaped_I _).1 (shaped_I _).1 ?_
    rw [show ∀ a : List Int, PyData.eqv (toP (.lf (a.map PyData.int))) (toP (.lf (a.map PyData.int))) = true from eqv_listI]
    exact h _
def chn (p : List Nat) (m : Nat) : List Nat := (way p m).reverse
theorem chn_snoc {p : List Nat} (h : PlantOk p) {v m : Nat} (k : m ∈ kids p v) : chn p m = chn p v ++ [m] := by
  unfold chn
  rw [way_kid h k, List.reverse_cons]
theorem chn_zero (p : List Nat) : chn p 0 = [0] := rfl
theorem chn_ex {p : List Nat} (h : PlantOk p) {v : Nat} (hv : v ≤ p.length) : ∃ pre, chn p v = pre ++ [v] := by
  by_cases h0 : v = 0
  · subst h0
    exact ⟨[], chn_zero p⟩
  · exact ⟨_, chn_snoc h (kid_par h h0 hv)⟩
theorem chn_link {p : List Nat} (h : PlantOk p) : ∀ m, m ≤ p.length → ∀ i v b, (chn p m)[i]? = some v → (chn p m)[i + 1]? = some b → b ∈ kids p v := by
  intro m
  induction m using Nat.strongRecOn with
  | ind m ih =>
    intro hm i v b e1 e2
    by_cases h0 : m = 0
    · subst h0
      rw [chn_zero] at e2
      simp at e2
    · have k := kid_par h h0 hm
      have g := kids_gt h k
      rw [chn_snoc h k] at e1 e2
      obtain ⟨pre, ep⟩ := chn_ex h (v := par p m) (by omega)
      have hl : (chn p (par p m)).length = pre.length + 1 := by rw [ep]; simp
      have hi2 := (List.getElem?_eq_some_iff.mp e2).1
      rw [List.length_append, hl] at hi2
      simp only [List.length_cons, List.length_nil] at hi2
      by_cases hi : i + 1 < (chn p (par p m)).length
      · rw [List.getElem?_append_left (by omega)] at e1 e2
        exact ih _ g.1 (by omega) i v b e1 e2
      · have ei : i = pre.length := by omega
        subst ei
        rw [List.getElem?_append_right (by omega), hl, Nat.sub_self] at e2
        rw [List.getElem?_append_left (by omega), ep, List.getElem?_append_right (Nat.le_refl _), Nat.sub_self] at e1
        have e3 : m = b := Option.some.inj e2
        have e4 : par p m = v := Option.some.inj e1
        rw [← e3, ← e4]
        exact k
theorem chn_at {p : List Nat} (h : PlantOk p) : ∀ m, m ≤ p.length → ∀ v b, b ∈ way p m → b ∈ kids p v → ∃ i, (chn p m)[i]? = some v ∧ (chn p m)[i + 1]? = some b := by
  intro m
  induction m using Nat.strongRecOn with
  | ind m ih =>
    intro hm v b hb kb
    have gb := kids_gt h kb
    by_cases h0 : m = 0
    · subst h0
      have : b ∈ [0] := hb
      have := List.mem_singleton.mp this
      omega
    · have k := kid_par h h0 hm
      have g := kids_gt h k
      rw [way_kid h k] at hb
      rcases List.mem_cons.mp hb with e | e
      · subst e
        obtain ⟨pre, ep⟩ := chn_ex h (v := v) (by omega)
        refine ⟨pre.length, ?_, ?_⟩
        · rw [chn_snoc h kb, ep, List.append_assoc, List.getElem?_append_right (Nat.le_refl _), Nat.sub_self]
          rfl
        · rw [chn_snoc h kb, ep, List.append_assoc, List.getElem?_append_right (by omega), Nat.add_sub_cancel_left]
          rfl
      · obtain ⟨i, e1, e2⟩ := ih _ g.1 (by omega) v b e kb
        have h2 := (List.getElem?_eq_some_iff.mp e2).1
        refine ⟨i, ?_, ?_⟩
        · rw [chn_snoc h k, List.getElem?_append_left (by omega)]
          exact e1
        · rw [chn_snoc h k, List.getElem?_append_left h2]
          exact e2
theorem chn_len {p : List Nat} (h : PlantOk p) {m : Nat} (hm : m ≤ p.length) : (chn p m).length ≤ p.length + 1 := by
  unfold chn
  rw [List.length_reverse]
  have := way_len h m
  omega
theorem x_oAny2 {bs : List Bool} {k : O → Prop} : oAny [.lf (bs.map PyData.bool)] k = k (.fz (.bool (bs.any id))) := by simp [oAny, asBools_map]
def lws (p : List Nat) : List PyData := (List.range (p.length + 1)).map fun s => .list (nI (under p p.length s))
theorem pair_at {l : List Nat} {i : Nat} {d : PyData} (h : (zipL (nI l) (nI l.tail))[i]? = some d) : ∃ v b : Nat, l[i]? = some v ∧ l[i + 1]? = some b ∧ d = .tuple [.int (v : Nat), .int (b : Nat)] := by
  unfold zipL at h
  rw [List.getElem?_map] at h
  cases q : ((nI l).zip (nI l.tail))[i]? with
  | none => rw [q] at h; cases h
  | some z =>
    rw [q] at h
    obtain ⟨e1, e2⟩ := List.getElem?_zip_eq_some.mp q
    rw [nI_get] at e1 e2
    rw [List.getElem?_tail] at e2
    cases q1 : l[i]? with
    | none => rw [q1] at e1; cases e1
    | some v =>
      cases q2 : l[i + 1]? with
      | none => rw [q2] at e2; cases e2
      | some b =>
        rw [q1] at e1
        rw [q2] at e2
        refine ⟨v, b, rfl, rfl, ?_⟩
        have z1 : PyData.int (v : Nat) = z.1 := Option.some.inj e1
        have z2 : PyData.int (b : Nat) = z.2 := Option.some.inj e2
        rw [z1, z2]
        exact (Option.some.inj h).symm
theorem pair_len (l : List Nat) : (zipL (nI l) (nI l.tail)).length = l.length - 1 := by
  rw [zipL_len, nI_len, nI_len, List.length_tail]
  omega
def G_last_chain : WF := fun ds R => ∃ p s, ds = [.fz (tupN p), .tn (s.map PyData.int)] ∧ PlantOk p ∧ isP p s ∧ ((∀ m, ¬ Back p s m) → ∀ ρ, R (.fz .none) ρ) ∧ (∀ m, Back p s m → ∀ ρ, R (.fz (.list (nI (chn p m)))) ρ)
theorem sp_last_chain : ∀ ds R, G_last_chain ds R → gOf 2 8 (W_last_chain G_path_to_shop G_supplier_lists) ds R := by
  rintro _ R ⟨p, s, rfl, hp, hs, h0, h1⟩
  refine ⟨rfl, ?_⟩
  have hpl := hp.1
  have hsl := hs.1.1
  refine seq_to (fun ρ => ρ = [.fz (tupN p), .tn (s.map PyData.int), .fz (.list (lws p)), .hid, .hid, .hid, .hid, .hid]) (fun N hN => ?_) fun ρ hρ => ?_
  · simp [G_supplier_lists, and_assoc]
    exact ⟨p, rfl, hp, _, fr_rowsF p (fun s => under p p.length s), hN _ rfl⟩
  subst hρ
  refine seq_to (fun ρ => ∃ m : Nat, m ≤ p.length ∧ bx s m = p.length ∧ ρ = [.fz (tupN p), .tn (s.map PyData.int), .fz (.list (lws p)), .fz (.int (m : Nat)), .hid, .hid, .hid, .hid]) (fun N hN => ?_) fun ρ ⟨m, hm, hmb, hρ⟩ => ?_
  · simp [hsl]
    refine idx_boxN hs.1.2 (x := p.length) ?_ fun v hv hb => hN _ ⟨v, by omega, hb, rfl⟩
    exact hs.perm.symm.mem_iff.mp (List.mem_map.mpr ⟨p.length, List.mem_range.mpr (by omega), rfl⟩)
  subst hρ
  have one : ∀ {m' : Nat}, Back p s m' → m' = m := fun hb => inj_eq hs.1 hb.le hm (by rw [hb.top, hmb])
  refine seq_to (fun ρ => ρ = [.fz (tupN p), .tn (s.map PyData.int), .fz (.list (lws p)), .fz (.int (m : Nat)), .fz (.list (nI (chn p m))), .hid, .hid, .hid]) (fun N hN => ?_) fun ρ hρ => ?_
  · simp [G_path_to_shop, and_assoc]
    refine ⟨p, rfl, m, rfl, hp, hm, ?_⟩
    have e : (nI (way p m)).reverse = nI (chn p m) := by unfold chn nI; rw [List.map_reverse]
    try rw [e]
    exact hN _ rfl
  subst hρ
  refine seq_to (fun ρ => kids p m = [] ∧ ρ = [.fz (tupN p), .tn (s.map PyData.int), .fz (.list (lws p)), .fz (.int (m : Nat)), .fz (.list (nI (chn p m))), .hid, .hid, .hid]) (fun N hN => ?_) fun ρ ⟨hk, hρ⟩ => ?_
  · simp
    refine ⟨_, at_nat (sups_get hm), x_oEqG (by rw [nI_ints]; exact (shaped_I _).1) rfl ?_⟩
    simp only [x_toP1, x_toP2, nI_eq0]
    by_cases hk : kids p m = []
    · simp [hk]
      exact hN _ ⟨hk, rfl⟩
    · simp [hk]
      exact h0 (fun m' hb => hk (by rw [← one hb]; exact hb.leaf)) _
  subst hρ
  have hcl := chn_len hp hm
  refine seq_to (fun ρ => (∀ i v b, (chn p m)[i]? = some v → (chn p m)[i + 1]? = some b → ∀ o ∈ kids p v, o ≠ b → ¬ bx s o < bx s v) ∧ ∃ a b c, ρ = [.fz (tupN p), .tn (s.map PyData.int), .fz (.list (lws p)), .fz (.int (m : Nat)), .fz (.list (nI (chn p m))), a, b, c]) (fun N hN => ?_) fun ρ ⟨hall, a, b, c, hρ⟩ => ?_
  · simp [wiZL, asLf, cut_tail, nI_tail]
    refine for_go _ (fun i ρ => (∀ j v b, j < i → (chn p m)[j]? = some v → (chn p m)[j + 1]? = some b → ∀ o ∈ kids p v, o ≠ b → ¬ bx s o < bx s v) ∧ ∃ a b c, ρ = [.fz (tupN p), .tn (s.map PyData.int), .fz (.list (lws p)), .fz (.int (m : Nat)), .fz (.list (nI (chn p m))), a, b, c]) _ (fun i d e ρ ⟨ha, x1, x2, x3, hρ⟩ N2 hN2 => ?_) ⟨(fun j v b hj => by omega), _, _, _, rfl⟩ fun ρ ⟨ha, x1, x2, x3, hρ⟩ => ?_
    · obtain ⟨v, b, e1, e2, rfl⟩ := pair_at e
      subst hρ
      have kb := chn_link hp m hm i v b e1 e2
      have gb := kids_gt hp kb
      simp
      refine ⟨_, at_nat (sups_get (by omega)), ?_⟩
      simp
      refine ⟨by have : (kids p v).length ≤ p.length := under_len; unfold szMax; omega, ?_⟩
      refine lc_map _ (fun ρ => ∃ c, ρ = [.fz (tupN p), .tn (s.map PyData.int), .fz (.list (lws p)), .fz (.int (m : Nat)), .fz (.list (nI (chn p m))), .fz (.int (v : Nat)), .fz (.int (b : Nat)), c]) (fun d => !PyData.eqv d (.int (b : Nat))) (fun d => .bool (decide (bx s (intOf d).toNat < bx s v))) _ (fun d hd ρ ⟨c, hρ⟩ K1 K0 k1 k0 => ?_) ⟨_, rfl⟩ fun ρ ⟨c, hρ⟩ => ?_
      · obtain ⟨o, ho, rfl⟩ := List.mem_map.mp hd
        have go := kids_gt hp ho
        subst hρ
        have ee : PyData.eqv (.int (o : Nat)) (.int (b : Nat)) = decide (o = b) := by
          show decide (((o : Nat) : Int) = ((b : Nat) : Int)) = _
          exact decide_eq_decide.mpr ⟨fun z => by omega, fun z => by omega⟩
        by_cases hob : o = b
        · subst hob
          simp
          exact k0 (by simp [PyData.eqv]) _ ⟨_, rfl⟩
        · have hob2 : ¬ ((o : Int) = (b : Int)) := by omega
          have k2 := fun c' : O => k1 (by simp [hob2, PyData.eqv]) _ ⟨c', rfl⟩
          simp [intOf] at k2
          simp [hob, hob2]
          refine ⟨.int (bx s o), at_bx (by omega), .int (bx s v), at_bx (by omega), ?_⟩
          simp
          exact k2 _
      · subst hρ
        rw [x_toLf2]
        have ea : ∀ L : List PyData, L.map (fun d => PyData.bool (decide (bx s (intOf d).toNat < bx s v))) = (L.map fun d => decide (bx s (intOf d).toNat < bx s v)).map PyData.bool := fun L => by rw [List.map_map]; rfl
        rw [ea, x_oAny2]
        simp
        refine br_mk (fun q => ?_) fun q => ?_
        · refine h0 (fun m' hb => ?_) _
          have em := one hb
          subst em
          obtain ⟨d, hd, hd2⟩ := List.any_eq_true.mp q
          obtain ⟨o, ho, rfl⟩ := List.mem_map.mp hd
          simp [intOf, PyData.eqv] at hd2
          have hd3 := hd2.1
          have hd4 := of_decide_eq_true hd2.2
          have := hb.old v b (List.mem_reverse.mp (List.mem_of_getElem? e2)) kb o ho (fun e => hd3 (by rw [e]))
          omega
        · refine hN2 _ ⟨fun j v' b' hj e3 e4 o ho hne => ?_, _, _, _, rfl⟩
          by_cases ej : j = i
          · subst ej
            rw [e1] at e3
            rw [e2] at e4
            cases e3
            cases e4
            intro hlt
            have q2 := List.any_eq_false.mp q (.int (o : Nat)) (List.mem_map.mpr ⟨o, ho, rfl⟩)
            simp [intOf, PyData.eqv] at q2
            have := of_decide_eq_false (q2 (by omega))
            omega
          · exact ha j v' b' (by omega) e3 e4 o ho hne
    · subst hρ
      rw [pair_len] at ha
      refine hN _ ⟨fun i v b e1 e2 o ho hne => ?_, _, _, _, rfl⟩
      have := (List.getElem?_eq_some_iff.mp e2).1
      exact ha i v b (by omega) e1 e2 o ho hne
  subst hρ
  simp
  refine h1 m ⟨hm, hk, hmb, fun v b hb kb o ho hne => ?_⟩ _
  obtain ⟨i, e1, e2⟩ := chn_at hp m hm v b hb kb
  have h2 := hall i v b e1 e2 o ho hne
  have go := kids_gt hp ho
  have : bx s v ≠ bx s o := fun e => by
    have := inj_eq hs.1 (by omega) go.2 e
    omega
  omega
theorem canLay_tups : ∀ rs : List (List Int), PyData.canLayAll0 (rs.map tupI) = true
  | [] => rfl
  | r :: rs => by
    show (PyData.canLay0 (tupI r) && PyData.canLayAll0 (rs.map tupI)) = true
    rw [canLay_tups rs, show PyData.canLay0 (tupI r) = PyData.canLayAll0 (r.map PyData.int) from rfl, canLay_ints r]
    rfl
theorem alike_ints : ∀ a b : List Int, PySem.W.alikeAll (a.map PyData.int) (b.map PyData.int) = true
  | [], _ => rfl
  | _ :: _, [] => rfl
  | x :: a, y :: b => by
    show (PySem.W.alike (.int x) (.int y) && PySem.W.alikeAll (a.map PyData.int) (b.map PyData.int)) = true
    rw [alike_ints a b]
    rfl
theorem depth_tupI (r : List Int) : (tupI r).depth ≤ 40 := by
  have h2 := depth_intsA r
  simp only [tupI, PyData.depth, h2]
  decide
theorem tups_ok {rs : List (List Int)} (hne : ∀ r ∈ rs, r ≠ []) : PyData.canLayAll0 (rs.map tupI) = true ∧ PySem.W.AllAlike (rs.map tupI) ∧ PySem.W.Sortable (rs.map tupI) ∧ ∀ d ∈ rs.map tupI, d.depth ≤ 40 := by
  refine ⟨canLay_tups rs, fun d hd d' hd' => ?_, .inl fun d hd => ?_, fun d hd => ?_⟩
  · obtain ⟨a, _, rfl⟩ := List.mem_map.mp hd
    obtain ⟨b, _, rfl⟩ := List.mem_map.mp hd'
    exact alike_ints a b
  · obtain ⟨a, ha, rfl⟩ := List.mem_map.mp hd
    cases a with
    | nil => exact absurd rfl (hne _ ha)
    | cons x a => exact ⟨.int x, a.map PyData.int, rfl⟩
  · obtain ⟨a, _, rfl⟩ := List.mem_map.mp hd
    exact depth_tupI a
def patL (rs : List (List Int)) : PyData := tupM (rs.map fun r => r.map PyData.int)
def tnI (r : List Int) : O := .tn (r.map PyData.int)
def Bef (p : List Nat) (s : List Int) (L : List (List Int)) : Prop := L.Nodup ∧ (∀ r, r ∈ L ↔ isP p r ∧ later p r = s) ∧ (L.map tupI).mergeSort (PySem.W.dataLe false id) = L.map tupI ∧ (L = [] ∨ L.length = p.length + 1)
theorem tupI_inj {a b : List Int} (h : tupI a = tupI b) : a = b := by
  have h2 : a.map PyData.int = b.map PyData.int := by injection h
  have := congrArg (List.map intOf) h2
  rwa [map_intOf, map_intOf] at this
theorem tups_inj {A B : List (List Int)} (h : A.map tupI = B.map tupI) : A = B := (List.map_inj_right fun _ _ => tupI_inj).mp h
theorem Bef.one {p : List Nat} {s : List Int} {L M : List (List Int)} (h : Bef p s L) (k : Bef p s M) : L = M := by
  have pm : L.Perm M := (List.perm_ext_iff_of_nodup h.1 k.1).mpr fun r => by rw [h.2.1, k.2.1]
  refine tups_inj ?_
  rw [← h.2.2.1, ← k.2.2.1]
  exact sort_eq pm
def rowsB (p : List Nat) (s : List Int) (m : Nat) : List (List Int) := (List.range (p.length + 1)).map fun x : Nat => early p s m x
theorem rows_mem {p : List Nat} {s : List Int} {m : Nat} (hp : PlantOk p) (hs : isP p s) (hb : Back p s m) {r : List Int} : r ∈ rowsB p s m ↔ isP p r ∧ later p r = s := by
  unfold rowsB
  rw [List.mem_map]
  constructor
  · rintro ⟨x, hx, rfl⟩
    have := List.mem_range.mp hx
    exact back_to hp hs hb (by omega) (by omega)
  · rintro ⟨h1, h2⟩
    obtain ⟨m', hb', e⟩ := back_of hp h1
    rw [h2] at hb' e
    have em : m' = m := inj_eq hs.1 hb'.le hb.le (by rw [hb'.top, hb.top])
    subst em
    have h0 := h1.2 (bx r 0) (bx_mem h1.1 (by omega))
    refine ⟨(bx r 0).toNat, List.mem_range.mpr (by omega), ?_⟩
    rw [show (((bx r 0).toNat : Nat) : Int) = bx r 0 from by omega]
    exact e.symm
theorem rows_nodup {p : List Nat} {s : List Int} {m : Nat} : (rowsB p s m).Nodup := by
  unfold rowsB
  refine nodup_mapI (fun x y e => ?_) List.nodup_range
  have h1 := early_bx (p := p) (q := s) (m := m) (x := x) (w := 0) (by omega)
  have h2 := early_bx (p := p) (q := s) (m := m) (x := y) (w := 0) (by omega)
  rw [e, h2, if_pos rfl, if_pos rfl] at h1
  exact (Int.ofNat.inj h1).symm
theorem Bef.none {p : List Nat} {s : List Int} (hp : PlantOk p) (h : ∀ m, ¬ Back p s m) : Bef p s [] := ⟨List.nodup_nil, fun r => ⟨fun z => absurd z List.not_mem_nil, fun ⟨h1, h2⟩ => by
  obtain ⟨m, hb, _⟩ := back_of hp h1
  rw [h2] at hb
  exact absurd hb (h m)⟩, by simp, .inl rfl⟩
theorem Bef.some {p : List Nat} {s : List Int} {m : Nat} (hp : PlantOk p) (hs : isP p s) (hb : Back p s m) {L : List (List Int)} (pm : L.Perm (rowsB p s m)) (e : L.map tupI = ((rowsB p s m).map tupI).mergeSort (PySem.W.dataLe false id)) : Bef p s L := by
  refine ⟨pm.nodup_iff.mpr rows_nodup, fun r => by rw [pm.mem_iff, rows_mem hp hs hb], ?_, .inr ?_⟩
  · rw [sort_eq pm, e]
  · rw [pm.length_eq]
    unfold rowsB
    rw [List.length_map, List.length_range]
theorem Bef.ex {p : List Nat} {s : List Int} (hp : PlantOk p) (hs : isP p s) : ∃ L, Bef p s L := by
  by_cases h : ∃ m, Back p s m
  · obtain ⟨m, hb⟩ := h
    exact ⟨(rowsB p s m).mergeSort fun a b => decide (a ≤ b), Bef.some hp hs hb (List.mergeSort_perm _ _) (sort_tups _).symm⟩
  · exact ⟨[], Bef.none hp fun m hb => h ⟨m, hb⟩⟩
def G_before_day : WF := fun ds R => ∃ p s, ds = [.fz (tupN p), .tn (s.map PyData.int)] ∧ PlantOk p ∧ isP p s ∧ ∀ L, Bef p s L → ∀ ρ, R (.ol (L.map tnI)) ρ
theorem sp_before_day : ∀ ds R, G_before_day ds R → gOf 2 10 (W_before_day G_last_chain) ds R := by
  rintro _ R ⟨p, s, rfl, hp, hs, h⟩
  refine ⟨rfl, ?_⟩
  have hpl := hp.1
  have hsl := hs.1.1
  refine seq_to (fun ρ => ρ = [.fz (tupN p), .tn (s.map PyData.int), .fz .none, .hid, .hid, .hid, .hid, .hid, .hid, .hid] ∧ (∀ m, ¬ Back p s m) ∨ ∃ m, Back p s m ∧ ρ = [.fz (tupN p), .tn (s.map PyData.int), .fz (.list (nI (chn p m))), .hid, .hid, .hid, .hid, .hid, .hid, .hid]) (fun N hN => ?_) fun ρ hρ => ?_
  · simp [G_last_chain]
    refine ⟨p, s, ⟨rfl, rfl⟩, hp, hs, fun h0 => hN _ (.inl ⟨rfl, h0⟩), fun m hb => hN _ (.inr ⟨m, hb, rfl⟩)⟩
  rcases hρ with ⟨hρ, hno⟩ | ⟨m, hb, hρ⟩
  · subst hρ
    refine seq_to (fun ρ => False) (fun N hN => ?_) fun ρ hρ => hρ.elim
    simp [oLst0]
    exact h [] (Bef.none hp hno) _
  have hm := hb.le
  refine seq_to (fun ρ' => ρ' = ρ) (fun N hN => ?_) fun ρ' hρ' => ?_
  · subst hρ
    simp
    exact hN _ rfl
  subst hρ' hρ
  refine seq_to (fun ρ => ρ = [.fz (tupN p), .tn (s.map PyData.int), .fz (.list (nI (chn p m))), .lf (s.map PyData.int), .hid, .hid, .hid, .hid, .hid, .hid]) (fun N hN => ?_) fun ρ hρ => ?_
  · simp
    exact hN _ rfl
  subst hρ
  have hcl := chn_len hp hm
  refine seq_to (fun ρ => ∃ (e : List Int) (a b : O), e.length = p.length + 1 ∧ (∀ w, w ≤ p.length → w ≠ 0 → bx e w = bx s (src p m w)) ∧ ρ = [.fz (tupN p), .tn (s.map PyData.int), .fz (.list (nI (chn p m))), .lf (e.map PyData.int), a, b, .hid, .hid, .hid, .hid]) (fun N hN => ?_) fun ρ ⟨e, a, b, hel, heb, hρ⟩ => ?_
  · simp [wiZL, asLf, cut_tail, nI_tail]
    refine for_go _ (fun i ρ => ∃ (e : List Int) (a b : O), e.length = p.length + 1 ∧ (∀ w, w ≤ p.length → bx e w = if ∃ j, j < i ∧ (chn p m)[j + 1]? = some w then bx s (par p w) else bx s w) ∧ ρ = [.fz (tupN p), .tn (s.map PyData.int), .fz (.list (nI (chn p m))), .lf (e.map PyData.int), a, b, .hid, .hid, .hid, .hid]) _ (fun i d ed ρ ⟨e, a, b, hel, heb, hρ⟩ N2 hN2 => ?_) ⟨s, _, _, hsl, (fun w hw => by rw [if_neg (by rintro ⟨j, hj, _⟩; omega)]), rfl⟩ fun ρ ⟨e, a, b, hel, heb, hρ⟩ => ?_
    · obtain ⟨v, b, e1, e2, rfl⟩ := pair_at ed
      subst hρ
      have kb := chn_link hp m hm i v b e1 e2
      have gb := kids_gt hp kb
      have ev : par p b = v := (par_eq kb (kid_par hp (by omega) gb.2)).symm
      simp
      refine ⟨.int (bx s v), at_bx (by omega), b, ix_nat (by omega), ?_⟩
      rw [← List.map_set]
      refine hN2 _ ⟨e.set b (bx s v), _, _, by rw [List.length_set]; exact hel, fun w hw => ?_, rfl⟩
      rw [bx_set (by omega)]
      by_cases ebw : b = w
      · subst ebw
        rw [if_pos rfl, if_pos ⟨i, by omega, e2⟩, ev]
      · rw [if_neg ebw, heb w hw]
        have : (∃ j, j < i ∧ (chn p m)[j + 1]? = some w) = ∃ j, j < i + 1 ∧ (chn p m)[j + 1]? = some w := propext ⟨fun ⟨j, h1, h2⟩ => ⟨j, by omega, h2⟩, fun ⟨j, h1, h2⟩ => by
          by_cases ej : j = i
          · subst ej
            rw [e2] at h2
            exact absurd (Option.some.inj h2) ebw
          · exact ⟨j, by omega, h2⟩⟩
        simp only [this]
    · subst hρ
      rw [pair_len] at heb
      refine hN _ ⟨e, _, _, hel, fun w hw h0w => ?_, rfl⟩
      rw [heb w hw]
      unfold src
      by_cases hwm : w ∈ way p m
      · obtain ⟨i, e1, e2⟩ := chn_at hp m hm (par p w) w hwm (kid_par hp h0w hw)
        have := (List.getElem?_eq_some_iff.mp e2).1
        rw [if_pos ⟨i, by omega, e2⟩, if_pos hwm]
      · rw [if_neg (fun ⟨j, hj, e2⟩ => hwm (List.mem_reverse.mp (List.mem_of_getElem? e2))), if_neg hwm]
  subst hρ
  have hE : ∀ x : Nat, (e.map (gR x)).set 0 x = early p s m x := fun x => by
    refine bx_eq (p := p) (by rw [List.length_set, List.length_map, hel]) early_len fun w hw => ?_
    rw [bx_set (by rw [List.length_map]; omega), early_bx hw]
    by_cases hw0 : w = 0
    · rw [if_pos hw0.symm, if_pos hw0]
    · rw [if_neg (fun z => hw0 z.symm), if_neg hw0, bx_map (by omega), heb w hw hw0]
  refine seq_to (fun ρ => ρ = [.fz (tupN p), .tn (s.map PyData.int), .fz (.list (nI (chn p m))), .fz (.list (e.map PyData.int)), a, b, .ol [], .hid, .hid, .hid]) (fun N hN => ?_) fun ρ hρ => ?_
  · refine ⟨.list (e.map PyData.int), rfl, ?_⟩
    simp [oLst0]
    exact hN _ rfl
  subst hρ
  refine seq_to (fun ρ => ∃ c d f : O, ρ = [.fz (tupN p), .tn (s.map PyData.int), .fz (.list (nI (chn p m))), .fz (.list (e.map PyData.int)), a, b, .ol ((List.range (p.length + 1)).map fun x : Nat => .tn ((early p s m x).map PyData.int)), c, d, f]) (fun N hN => ?_) fun ρ ⟨c, d, f, hρ⟩ => ?_
  · simp [hsl]
    refine ⟨by unfold smallI; omega, ?_⟩
    refine for_go _ (fun i ρ => ∃ c d f : O, ρ = [.fz (tupN p), .tn (s.map PyData.int), .fz (.list (nI (chn p m))), .fz (.list (e.map PyData.int)), a, b, .ol ((List.range i).map fun x : Nat => .tn ((early p s m x).map PyData.int)), c, d, f]) _ (fun i z ez ρ ⟨c, d, f, hρ⟩ N2 hN2 => ?_) ⟨_, _, _, rfl⟩ fun ρ ⟨c, d, f, hρ⟩ => ?_
    · obtain ⟨hi, rfl⟩ := rangeL_at ez
      subst hρ
      refine seq_to (fun ρ => ∃ f : O, ρ = [.fz (tupN p), .tn (s.map PyData.int), .fz (.list (nI (chn p m))), .fz (.list (e.map PyData.int)), a, b, .ol ((List.range i).map fun x : Nat => .tn ((early p s m x).map PyData.int)), .fz (.int (i : Nat)), .lf ((e.map (gR i)).map PyData.int), f]) (fun N3 hN3 => ?_) fun ρ ⟨f, hρ⟩ => ?_
      · simp
        refine ⟨by unfold szMax; omega, ?_⟩
        refine lc_eq ((e.map (gR i)).map PyData.int) (fun ρ => ∃ f : O, ρ = [.fz (tupN p), .tn (s.map PyData.int), .fz (.list (nI (chn p m))), .fz (.list (e.map PyData.int)), a, b, .ol ((List.range i).map fun x : Nat => .tn ((early p s m x).map PyData.int)), .fz (.int (i : Nat)), d, f]) (by simp) (fun j z y e1 ey ρ ⟨f, hρ⟩ K1 K0 k1 => ?_) ⟨_, rfl⟩ fun ρ ⟨f, hρ⟩ => ?_
        · subst hρ
          rw [List.getElem?_map] at e1 ey
          rw [List.getElem?_map] at ey
          cases q : e[j]? with
          | none => rw [q] at e1; cases e1
          | some u =>
            rw [q] at e1 ey
            cases e1
            cases ey
            have k2 := fun c' : O => k1 _ ⟨c', rfl⟩
            unfold gR at k2
            simp
            by_cases hu : (i : Int) ≤ u
            · simp [hu] at k2 ⊢
              exact k2 _
            · simp [hu] at k2 ⊢
              exact k2 _
        · subst hρ
          rw [x_toLf2]
          simp
          refine hN3 _ ⟨.hid, ?_⟩
          simp
      subst hρ
      simp
      have hs0 : (List.map PyData.int (List.map (gR i) e)).set 0 (.int (i : Nat)) = (early p s m i).map PyData.int := by rw [← List.map_set, hE]
      refine ⟨0, show ixN e.length 0 = some 0 from ix_nat (i := 0) (by omega), by unfold szMax; omega, hN2 _ ⟨.fz (.int (i : Nat)), .lf ((e.map (PyData.int ∘ gR (i : Int))).set 0 (.int (i : Nat))), f, ?_⟩⟩
      rw [← List.map_map, hs0, List.range_succ, List.map_append]
      rfl
    · subst hρ
      have el : (rangeL 0 (p.length + 1)).length = p.length + 1 := by simp
      rw [el]
      exact hN _ ⟨_, _, _, rfl⟩
  subst hρ
  simp
  have hrI : ∀ r ∈ (List.range (p.length + 1)).map (fun x : Nat => early p s m x), isP p r := fun r hr => by
    obtain ⟨x, hx, rfl⟩ := List.mem_map.mp hr
    have := List.mem_range.mp hx
    exact (back_to hp hs hb (by omega) (by omega)).1
  obtain ⟨t1, t2, t3, t4⟩ := tups_ok (rs := (List.range (p.length + 1)).map fun x : Nat => early p s m x) fun r hr e => by
    have := (hrI r hr).1.1
    rw [e] at this
    cases this
  have er : ((List.range (p.length + 1)).map fun x : Nat => (early p s m x).map PyData.int).map PyData.tuple = ((List.range (p.length + 1)).map fun x : Nat => early p s m x).map tupI := by
    rw [List.map_map, List.map_map]
    rfl
  refine ⟨(List.range (p.length + 1)).map fun x : Nat => (early p s m x).map PyData.int, by rw [List.map_map]; rfl, ?_⟩
  rw [er]
  refine ⟨t1, t2, t3, (fun a ha => by
    obtain ⟨x, hx, rfl⟩ := List.mem_map.mp ha
    exact depth_tupI _), fun rs' hpm hso => ?_⟩
  have back : ∀ ds ∈ rs', ∃ r, isP p r ∧ ds = r.map PyData.int := fun ds hds => by
    obtain ⟨x, hx, rfl⟩ := List.mem_map.mp (hpm.mem_iff.mp hds)
    exact ⟨_, hrI _ (List.mem_map.mpr ⟨x, hx, rfl⟩), rfl⟩
  have e7 : ∀ l : List PyData, (∃ r : List Int, l = r.map PyData.int) → (l.map intOf).map PyData.int = l := by
    rintro _ ⟨r, rfl⟩
    rw [map_intOf]
  have e6 : (rs'.map fun ds => ds.map intOf).map (fun r => r.map PyData.int) = rs' := by
    rw [List.map_map]
    conv => rhs; rw [← List.map_id rs']
    refine List.map_congr_left fun ds hds => ?_
    obtain ⟨r, _, e⟩ := back ds hds
    exact e7 ds ⟨r, e⟩
  have pm2 : (rs'.map fun ds => ds.map intOf).Perm (rowsB p s m) := by
    have := hpm.map fun ds : List PyData => ds.map intOf
    rw [List.map_map] at this
    refine this.trans (List.Perm.of_eq ?_)
    unfold rowsB
    exact List.map_congr_left fun x _ => map_intOf _
  have h2 := h (rs'.map fun ds => ds.map intOf) (Bef.some hp hs hb pm2 (by
    have e8 : (rs'.map fun ds => ds.map intOf).map tupI = ((rs'.map fun ds => ds.map intOf).map fun r => r.map PyData.int).map PyData.tuple := by rw [List.map_map (l := rs'.map fun ds => ds.map intOf)]; rfl
    rw [e8, e6]
    exact hso))
  rw [show (rs'.map fun ds => ds.map intOf).map tnI = rs'.map O.tn from by
    have e9 : (rs'.map fun ds => ds.map intOf).map tnI = ((rs'.map fun ds => ds.map intOf).map fun r => r.map PyData.int).map O.tn := by rw [List.map_map (l := rs'.map fun ds => ds.map intOf)]; rfl
    rw [e9, e6]] at h2
  exact h2 _
def G__law_ranked : WF := fun ds R => ∃ s, ds = [.fz (tupI s)] ∧ s.length ≤ 1000 ∧ ((∀ ρ, R (.tn ((rks s).map PyData.int)) ρ) ∨ ∀ ρ, R (.ot (((rks s).map PyData.int).map O.fz)) ρ)
theorem sp__law_ranked : ∀ ds R, G__law_ranked ds R → gOf 1 3 W__law_ranked ds R := by
  rintro _ R ⟨s, rfl, hl, h⟩
  refine ⟨rfl, ?_⟩
  simp [W__law_ranked, tupI]
  refine x_sortI s rfl ?_
  simp
  refine ⟨by unfold szMax; omega, ?_⟩
  refine lc_eq ((rks s).map PyData.int) (fun ρ => ∃ v_one, ρ = [.fz (tupI s), .fz (.list ((sortI s).map PyData.int)), v_one]) (by simp [rks]) (fun i d y e ey ρ ⟨v_one, hρ⟩ K1 K0 k1 => ?_) ⟨_, rfl⟩ fun ρ ⟨v_one, hρ⟩ => ?_
  · subst hρ
    rw [List.getElem?_map] at e ey
    unfold rks at ey
    rw [List.getElem?_map] at ey
    cases eq : s[i]? with
    | none => rw [eq] at e; cases e
    | some b =>
      rw [eq] at e ey
      cases e
      cases ey
      have hb : b ∈ sortI s := (sortI_perm s).mem_iff.mpr (List.mem_of_getElem? eq)
      have hi := List.idxOf_lt_length_iff.mpr hb
      simp
      refine ⟨(sortI s).map PyData.int, (sortI s).idxOf b, .int b, rfl, rfl, FC.ints_flat _, ?_, by simp [PyData.eqv], fun m z' hm hz => ?_, k1 _ ⟨_, rfl⟩⟩
      · rw [List.getElem?_map, List.getElem?_eq_getElem hi, List.getElem_idxOf hi]
        rfl
      · rw [List.getElem?_map] at hz
        cases eq2 : (sortI s)[m]? with
        | none => rw [eq2] at hz; cases hz
        | some c =>
          rw [eq2] at hz
          cases hz
          show decide (c = b) = false
          refine decide_eq_false fun e3 => ?_
          subst e3
          exact idx_firstI hm eq2
  · subst hρ
    rw [x_toLf2, x_oTupB1]
    exact h.imp (fun h => h _) fun h => h _
def FqOf (bo : O) (b : PyData) : Prop := bo = .fz b ∨ ∃ es, bo = .tn es ∧ b = .tuple es
theorem fq {bo : O} {b : PyData} (h : FqOf bo b) (k : PyData → Prop) : asFq bo k = k b := by
  rcases h with rfl | ⟨es, rfl, rfl⟩ <;> rfl
theorem fq_nh {bo : O} {b : PyData} (h : FqOf bo b) (k : Prop) : notHid bo k = k := by
  rcases h with rfl | ⟨es, rfl, rfl⟩ <;> rfl
def frL (c : Nat) (q : List Nat) : List (List Nat) := ((List.range c).filter fun r => decide (r ∉ q)).map fun r => q ++ [r]
def foundO (c k : Nat) : O := if k = 0 then .fz (.list [.tuple []]) else .fz (tupM ((allL c k).map nI))
def G__law_all : WF := fun ds R => ∃ c : Nat, ds = [.fz (.int (c : Nat))] ∧ 1 ≤ c ∧ c ≤ 7 ∧ ∀ ρ, R (.fz (tupM ((allL c c).map nI))) ρ
theorem sp__law_all : ∀ ds R, G__law_all ds R → gOf 1 6 W__law_all ds R := by
  rintro _ R ⟨c, rfl, hc1, hc, h⟩
  refine ⟨rfl, ?_⟩
  refine seq_to (fun ρ => ρ = [.fz (.int (c : Nat)), foundO c 0, .hid, .hid, .hid, .hid]) (fun N hN => ?_) fun ρ hρ => ?_
  · simp [szMax]
    exact hN _ rfl
  subst hρ
  refine seq_to (fun ρ => ∃ a b d e : O, ρ = [.fz (.int (c : Nat)), foundO c c, a, b, d, e]) (fun N hN => ?_) fun ρ ⟨a, b, d, e, hρ⟩ => ?_
  · simp
    refine ⟨by unfold smallI; omega, for_go _ (fun k ρ => ∃ a b d e : O, ρ = [.fz (.int (c : Nat)), foundO c k, a, b, d, e]) _ (fun k z ez ρ ⟨a, b, d, e, hρ⟩ N2 hN2 => ?_) ⟨_, _, _, _, rfl⟩ fun ρ ⟨a, b, d, e, hρ⟩ => ?_⟩
    · obtain ⟨hk, rfl⟩ := rangeL_at ez
      subst hρ
      have hkc : k < c := by omega
      have hal : (allL c k).length ≤ 5040 := Nat.le_trans (allL_len c k) (pb_le c hc k (by omega))
      refine seq_to (fun ρ => ρ = [.fz (.int (c : Nat)), foundO c k, .fz (.int (k : Nat)), .ol [], d, e]) (fun N3 hN3 => ?_) fun ρ hρ => ?_
      · simp [oLst0]
        exact hN3 _ rfl
      subst hρ
      refine seq_to (fun ρ => ∃ d e : O, ρ = [.fz (.int (c : Nat)), foundO c k, .fz (.int (k : Nat)), .ol (((allL c (k + 1)).map nI).map O.tn), d, e]) (fun N3 hN3 => ?_) fun ρ ⟨d, e, hρ⟩ => ?_
      · have hin : ∃ its : List O, its.length = (allL c k).length ∧ (∀ (i : Nat) (q : List Nat), (allL c k)[i]? = some q → ∃ d : O, its[i]? = some d ∧ FqOf d (.tuple (nI q))) ∧ ∃ f, foundO c k = .fz f ∧ ∀ K, K its → asM (.fz f) K := by
          unfold foundO
          by_cases e0 : k = 0
          · subst e0
            refine ⟨[.fz (.tuple [])], rfl, fun i q hi => ?_, .list [.tuple []], by rw [if_pos rfl], fun K hK => .inl ⟨_, rfl, hK⟩⟩
            match i, hi with
            | 0, hi => cases hi; exact ⟨_, rfl, .inl rfl⟩
            | i + 1, hi => simp [allL] at hi
          · refine ⟨((allL c k).map nI).map O.tn, by rw [List.length_map, List.length_map], fun i q hi => ⟨.tn (nI q), by rw [List.getElem?_map, List.getElem?_map, hi]; rfl, .inr ⟨_, rfl, rfl⟩⟩, _, if_neg e0, fun K hK => .inr ⟨_, rfl, hK⟩⟩
        obtain ⟨its, hil, hit, f, hf, hfa⟩ := hin
        rw [hf]
        unfold sForO
        simp [wiM]
        refine hfa _ ?_
        refine for_goO _ (fun i ρ => ∃ d e : O, ρ = [.fz (.int (c : Nat)), .fz f, .fz (.int (k : Nat)), .ol (((((allL c k).take i).flatMap (frL c)).map nI).map O.tn), d, e]) _ (fun i z ez ρ ⟨d, e, hρ⟩ N4 hN4 => ?_) ⟨_, _, rfl⟩ fun ρ ⟨d, e, hρ⟩ => hN3 _ ⟨d, e, by rw [hρ, hil, List.take_length, ← hf]; rfl⟩
        have hil2 := (List.getElem?_eq_some_iff.mp ez).1
        have q1 : (allL c k)[i]? = some ((allL c k)[i]'(by omega)) := List.getElem?_eq_getElem (by omega)
        generalize ((allL c k)[i]'(by omega)) = q at q1
        obtain ⟨d2, ed, hd⟩ := hit i q q1
        rw [ez] at ed
        have e3 : z = d2 := Option.some.inj ed
        subst e3 hρ
        obtain ⟨hq1, hq2, hq3⟩ := mem_allL.mp (List.mem_of_getElem? q1)
        have e8 : ((allL c k).take (i + 1)).flatMap (frL c) = ((allL c k).take i).flatMap (frL c) ++ frL c q := by
          rw [List.take_add_one, q1, show (some q).toList = [q] from rfl, List.flatMap_append, List.flatMap_cons, List.flatMap_nil, List.append_nil]
        have hl8 : (((allL c k).take (i + 1)).flatMap (frL c)).length ≤ 5040 * 7 := Nat.le_trans (flat_len (m := 7) _ fun r hr => by
          have := free_len (mem_allL.mp (List.mem_of_mem_take hr)).1 (mem_allL.mp (List.mem_of_mem_take hr)).2.2
          unfold frL
          rw [List.length_map]
          omega) (Nat.mul_le_mul_right _ (by rw [List.length_take]; omega))
        rw [e8, List.length_append] at hl8
        simp [fq hd, fq_nh hd]
        refine ⟨by unfold smallI; omega, by unfold szMax; omega, ?_⟩
        refine lc_go _ (fun j acc ρ => ∃ e : O, acc = ((((List.range j).filter fun r => decide (r ∉ q)).map fun r => q ++ [r]).map nI).map O.tn ∧ ρ = [.fz (.int (c : Nat)), .fz f, .fz (.int (k : Nat)), .ol (((((allL c k).take i).flatMap (frL c)).map nI).map O.tn), z, e]) _ _ (fun j z2 ez2 acc ρ ⟨e, ha, hρ⟩ K1 K0 k1 k0 => ?_) ⟨e, rfl, by simp⟩ fun acc ρ ⟨e, ha, hρ⟩ => ?_
        · obtain ⟨hj, rfl⟩ := rangeL_at ez2
          rw [show (0 : Int) + (j : Nat) = (j : Nat) from by omega] at *
          subst hρ
          simp [fq hd, fq_nh hd]
          refine ⟨rfl, fun x hx => ?_, ?_⟩
          · obtain ⟨y, _, rfl⟩ := List.mem_map.mp hx
            rfl
          rw [inD_tupN]
          by_cases hc : j ∈ q
          · simp [hc]
            refine k0 _ ⟨.fz (.int (j : Nat)), ?_, by simp⟩
            rw [ha, List.range_succ, List.filter_append]
            simp [hc]
          · simp [hc]
            refine ⟨by unfold szMax; decide, nI q, rfl, by rw [nI_len]; unfold szMax; omega, k1 _ _ ⟨.fz (.int (j : Nat)), ?_, by simp⟩⟩
            rw [ha, List.range_succ, List.filter_append]
            simp [hc, nI_append, nI]
        · subst hρ ha
          rw [show (rangeL 0 c).length = c from by simp]
          rw [show ((List.range c).filter fun r => decide (r ∉ q)).map (fun r => q ++ [r]) = frL c q from rfl]
          have k4 := fun d e => hN4 _ ⟨d, e, rfl⟩
          rw [e8] at k4
          generalize frL c q = Y at *
          generalize ((allL c k).take i).flatMap (frL c) = X at *
          simp at k4 ⊢
          exact ⟨by unfold szMax; omega, k4 _ _⟩
      subst hρ
      simp [wFzM]
      refine ⟨(allL c (k + 1)).map nI, by rw [List.map_map], hN2 _ ⟨.fz (.int (k : Nat)), .hid, d, e, ?_⟩⟩
      rw [foundO, if_neg (by omega)]
    · subst hρ
      exact hN _ ⟨a, b, d, e, by simp⟩
  subst hρ
  unfold foundO
  rw [if_neg (by omega)]
  simp
  exact h _
theorem pat_eq (rs : List (List Int)) : patL rs = mkL (rs.map fun _ => true) (rs.map tupI) := by
  unfold patL tupM
  rw [List.map_map, List.map_map]
  rfl
theorem unL_pat (rs : List (List Int)) : unL (patL rs) = .list (rs.map tupI) := by
  rw [pat_eq]
  rfl
def allI (c : Nat) : List (List Int) := (allL c c).map fun q => q.map fun n : Nat => (n : Int)
theorem allI_tup (c : Nat) : tupM ((allL c c).map nI) = patL (allI c) := by
  unfold patL allI
  rw [List.map_map]
  congr 1
  exact List.map_congr_left fun q _ => nI_ints q
theorem allI_nodup (c : Nat) : (allI c).Nodup := nodup_mapI (fun a b e => (List.map_inj_right fun x y h => Int.ofNat.inj h).mp e) (allL_nodup c c)
theorem mem_allI {p : List Nat} {t : List Int} : t ∈ allI (p.length + 1) ↔ isP p t := by
  unfold allI
  rw [List.mem_map]
  constructor
  · rintro ⟨q, hq, rfl⟩
    obtain ⟨h1, h2, h3⟩ := mem_allL.mp hq
    refine ⟨⟨by rw [List.length_map, h2], nodup_mapI (fun x y h => Int.ofNat.inj h) h1⟩, fun x hx => ?_⟩
    obtain ⟨v, hv, rfl⟩ := List.mem_map.mp hx
    have := h3 v hv
    omega
  · rintro ⟨⟨h1, h2⟩, h3⟩
    have e : (t.map Int.toNat).map (fun n : Nat => (n : Int)) = t := by
      rw [List.map_map]
      conv => rhs; rw [← List.map_id t]
      refine List.map_congr_left fun x hx => ?_
      have := h3 x hx
      show ((x.toNat : Nat) : Int) = x
      omega
    refine ⟨t.map Int.toNat, mem_allL.mpr ⟨?_, by rw [List.length_map, h1], fun v hv => ?_⟩, e⟩
    · rw [← e] at h2
      exact (List.pairwise_map.mp h2).imp fun h e => h (by rw [e])
    · obtain ⟨x, hx, rfl⟩ := List.mem_map.mp hv
      have := h3 x hx
      omega
theorem eqv_nil (L : List (List Int)) : PyData.eqv (.list (L.map tupI)) (.list []) = decide (L = []) := by cases L <;> rfl
def itr (p : List Nat) : Nat → List Int → List Int
  | 0, r => r
  | d + 1, r => itr p d (later p r)
theorem itr_succ (p : List Nat) : ∀ (d : Nat) (r : List Int), itr p (d + 1) r = later p (itr p d r)
  | 0, _ => rfl
  | d + 1, r => itr_succ p d (later p r)
def cE (p : List Nat) : List (List Int) := allI (p.length + 1)
def cnt (p : List Nat) (d : Nat) (r : List Int) : Nat := ((cE p).filter fun x => decide (itr p d x = r)).length
def Lead (p : List Nat) (d : Nat) (r : List Int) (M : List (List Int)) : Prop := M.Nodup ∧ ∀ x, x ∈ M ↔ isP p x ∧ itr p d x = r
theorem Lead.len {p : List Nat} {d : Nat} {r : List Int} {M : List (List Int)} (h : Lead p d r M) : M.length = cnt p d r := by
  refine List.Perm.length_eq ((List.perm_ext_iff_of_nodup h.1 ((allI_nodup _).filter _)).mpr fun x => ?_)
  rw [h.2, List.mem_filter, mem_allI, decide_eq_true_eq]
theorem cE_len {p : List Nat} (h : p.length ≤ 5) : (cE p).length ≤ 5040 := by
  unfold cE allI
  rw [List.length_map]
  exact Nat.le_trans (allL_len _ _) (pb_le _ (by omega) _ (by omega))
theorem cnt_le {p : List Nat} (h : p.length ≤ 5) (d : Nat) (r : List Int) : cnt p d r ≤ 5040 := Nat.le_trans (List.length_filter_le _ _) (cE_len h)
theorem Lead.zero {p : List Nat} {r : List Int} (h : isP p r) : Lead p 0 r [r] := ⟨by simp, fun x => by
  rw [List.mem_singleton]
  exact ⟨fun e => by subst e; exact ⟨h, rfl⟩, fun e => e.2⟩⟩
theorem Lead.succ {p : List Nat} (hp : PlantOk p) {d : Nat} {r : List Int} {M : List (List Int)} (h : Lead p d r M) {F : List Int → List (List Int)} (hF : ∀ t, isP p t → Bef p t (F t)) : Lead p (d + 1) r (M.flatMap F) := by
  constructor
  · refine nodup_flat M h.1 (fun a ha => (hF a ((h.2 a).mp ha).1).1) fun a ha b hb e x hx hy => ?_
    have h1 := ((hF a ((h.2 a).mp ha).1).2.1 x).mp hx
    have h2 := ((hF b ((h.2 b).mp hb).1).2.1 x).mp hy
    exact e (h1.2.symm.trans h2.2)
  · intro x
    rw [List.mem_flatMap]
    constructor
    · rintro ⟨a, ha, hx⟩
      have h0 := (h.2 a).mp ha
      have h1 := ((hF a h0.1).2.1 x).mp hx
      refine ⟨h1.1, ?_⟩
      show itr p d (later p x) = r
      rw [h1.2]
      exact h0.2
    · rintro ⟨hx, e⟩
      have hl := (later_eq hp hx).2
      exact ⟨later p x, (h.2 _).mpr ⟨hl, e⟩, ((hF _ hl).2.1 x).mpr ⟨hx, rfl⟩⟩
theorem lcM_go {g : WG} {wt : WT} {b : BD} {own : List Nat} {K : List O → En → Prop} : ∀ (items : List O) (I : Nat → List O → En → Prop) (ρ : En) (acc : List O), (∀ i d, items[i]? = some d → ∀ acc ρ, I i acc ρ → ∀ N : List O → En → Prop, (∀ acc' ρ', I (i + 1) acc' ρ' → N acc' ρ') → g d (wipeO ρ own) fun ρ1 => wt ρ1 fun q ρ2 => br q (b ρ2 acc fun acc' ρ3 => N acc' ρ3) (N acc ρ2)) →
    I 0 acc ρ → (∀ acc ρ, I items.length acc ρ → K acc ρ) → lcM g wt b own K items ρ acc
  | [], I, ρ, acc, _, h0, he => he acc ρ h0
  | d :: r, I, ρ, acc, hs, h0, he => hs 0 d rfl acc ρ h0 (fun acc' ρ' => lcM g wt b own K r ρ' acc') fun acc' ρ' hI => lcM_go r (fun i => I (i + 1)) ρ' acc' (fun i d hd => hs (i + 1) d (by simpa using hd)) hI he
theorem patL_tn (rs : List (List Int)) : (rs.map fun r => r.map PyData.int).map O.tn = rs.map tnI := by
  rw [List.map_map]
  rfl
theorem toM_pat {L : List (List Int)} {k : O → Prop} (h : k (.fz (patL L))) : toM (.ol (L.map tnI)) k := ⟨L.map fun r => r.map PyData.int, by rw [patL_tn], (show k (.fz (tupM (L.map fun r => r.map PyData.int))) from h)⟩
theorem asM_pat {L : List (List Int)} {k : List O → Prop} (h : k (L.map tnI)) : asM (.fz (patL L)) k := .inr ⟨L.map fun r => r.map PyData.int, rfl, by rw [patL_tn]; exact h⟩
theorem at_tn {L : List (List Int)} {i : Nat} {z : O} (e : (L.map tnI)[i]? = some z) : ∃ t, L[i]? = some t ∧ z = tnI t := by
  rw [List.getElem?_map] at e
  cases q : L[i]? with
  | none => rw [q] at e; cases e
  | some t => rw [q] at e; exact ⟨t, rfl, (Option.some.inj e).symm⟩
def G_require_days : WF := fun ds R => ∃ v lo hi : Int, ds = [.fz (.int v), .fz (.int lo), .fz (.int hi)] ∧ lo ≤ v ∧ v ≤ hi ∧ ∀ ρ, R (.fz .none) ρ
theorem sp_require_days : ∀ ds R, G_require_days ds R → gOf 3 3 (W_require_days G_in_range) ds R := by
  rintro _ R ⟨v, lo, hi, rfl, h1, h2, h⟩
  refine ⟨rfl, ?_⟩
  simp [W_require_days, G_in_range]
  refine ⟨_, _, _, ⟨rfl, rfl, rfl⟩, ?_⟩
  simp [inRg, h1, h2]
  exact h _
def G_count_before : WF := fun ds R => ∃ p s, ∃ d : Nat, ds = [.fz (tupN p), .tn (s.map PyData.int), .fz (.int (d : Nat))] ∧ PlantOk p ∧ isP p s ∧ p.length ≤ 5 ∧ d ≤ 60 ∧ ∀ ρ, R (.fz (.int (cnt p d s : Nat))) ρ
theorem sp_count_before : ∀ ds R, G_count_before ds R → gOf 3 7 (W_count_before G_before_day G_require_days G_require_pattern G_require_plant) ds R := by
  rintro _ R ⟨p, s, d, rfl, hp, hs, h5, hd, h⟩
  refine ⟨rfl, ?_⟩
  have hsl : s.length = p.length + 1 := hs.1.1
  refine seq_to (fun ρ => ρ = [.fz (tupN p), .tn (s.map PyData.int), .fz (.int (d : Nat)), .hid, .hid, .hid, .hid]) (fun N hN => ?_) fun ρ hρ => ?_
  · simp [G_require_plant]
    exact ⟨p, rfl, hp, hN _ rfl⟩
  subst hρ
  refine seq_to (fun ρ => ρ = [.fz (tupN p), .tn (s.map PyData.int), .fz (.int (d : Nat)), .hid, .hid, .hid, .hid]) (fun N hN => ?_) fun ρ hρ => ?_
  · simp [G_require_pattern, and_assoc]
    exact ⟨p, rfl, s, rfl, hp, hs, hN _ rfl⟩
  subst hρ
  refine seq_to (fun ρ => ρ = [.fz (tupN p), .tn (s.map PyData.int), .fz (.int (d : Nat)), .hid, .hid, .hid, .hid]) (fun N hN => ?_) fun ρ hρ => ?_
  · simp [G_require_days]
    exact ⟨_, _, _, ⟨rfl, rfl, rfl⟩, by omega, by omega, hN _ rfl⟩
  subst hρ
  refine seq_to (fun ρ => ρ = [.fz (tupN p), .tn (s.map PyData.int), .fz (.int (d : Nat)), .hid, .hid, .hid, .hid]) (fun N hN => ?_) fun ρ hρ => ?_
  · simp [hsl]
    rw [decide_eq_false (by omega)]
    exact hN _ rfl
  subst hρ
  refine seq_to (fun ρ => ρ = [.fz (tupN p), .tn (s.map PyData.int), .fz (.int (d : Nat)), .fz (patL [s]), .hid, .hid, .hid]) (fun N hN => ?_) fun ρ hρ => ?_
  · simp
    refine ⟨[true], [tupI s], rfl, by show 1 ≤ szMax; unfold szMax; decide, ?_⟩
    rw [show mkL [true] [tupI s] = patL [s] from (pat_eq [s]).symm]
    exact hN _ rfl
  subst hρ
  obtain ⟨F, hF⟩ : ∃ F : List Int → List (List Int), ∀ t, isP p t → Bef p t (F t) := Classical.axiomOfChoice (r := fun t M => isP p t → Bef p t M) fun t => by
    by_cases h : isP p t
    · obtain ⟨L, hL⟩ := Bef.ex hp h
      exact ⟨L, fun _ => hL⟩
    · exact ⟨[], fun z => absurd z h⟩
  refine seq_to (fun ρ => ∃ (M : List (List Int)) (a b c : O), Lead p d s M ∧ ρ = [.fz (tupN p), .tn (s.map PyData.int), .fz (.int (d : Nat)), .fz (patL M), a, b, c]) (fun N hN => ?_) fun ρ ⟨M, a, b, c, hM, hρ⟩ => ?_
  · simp
    refine ⟨⟨by omega, by omega⟩, ?_⟩
    refine for_go _ (fun i ρ => ∃ (M : List (List Int)) (a b c : O), Lead p i s M ∧ ρ = [.fz (tupN p), .tn (s.map PyData.int), .fz (.int (d : Nat)), .fz (patL M), a, b, c]) _ (fun i z ez ρ ⟨M, a, b, c, hM, hρ⟩ N2 hN2 => ?_) ⟨[s], _, _, _, Lead.zero hs, rfl⟩ fun ρ ⟨M, a, b, c, hM, hρ⟩ => ?_
    · obtain ⟨hi, rfl⟩ := rangeL_at ez
      subst hρ
      have hMl := hM.len
      have hle := cnt_le h5 i s
      unfold wFzM wLcN wiM
      simp
      refine asM_pat ?_
      refine lcM_go _ (fun j acc ρ => ∃ (e f : O), acc = ((M.take j).flatMap F).map tnI ∧ ρ = [.fz (tupN p), .tn (s.map PyData.int), .fz (.int (d : Nat)), .fz (patL M), .fz (.int (i : Nat)), e, f]) _ _ (fun j z2 ez2 acc ρ ⟨e, f, hacc, hρ⟩ N3 hN3 => ?_) ⟨_, _, by simp, rfl⟩ fun acc ρ ⟨e, f, hacc, hρ⟩ => ?_
      · obtain ⟨t, et, rfl⟩ := at_tn ez2
        subst hρ hacc
        have htM := List.mem_of_getElem? et
        have htP := ((hM.2 t).mp htM).1
        have htot : (M.flatMap F).length ≤ 5040 := by
          have := (hM.succ hp hF).len
          rw [this]
          exact cnt_le h5 _ _
        have hjl := (List.getElem?_eq_some_iff.mp et).1
        have etk : M.take (j + 1) = M.take j ++ [t] := by rw [List.take_add_one, et]; rfl
        have hAl : ((M.take j).flatMap F).length + (F t).length ≤ 5040 := by
          have e1 : M.flatMap F = (M.take (j + 1)).flatMap F ++ (M.drop (j + 1)).flatMap F := by rw [← List.flatMap_append, List.take_append_drop]
          rw [e1, etk, List.flatMap_append] at htot
          simp at htot
          simp
          omega
        simp [bC, G_before_day, tnI, and_assoc]
        refine ⟨p, rfl, t, rfl, hp, htP, fun L hL => ?_⟩
        rw [hL.one (hF t htP)]
        refine toM_pat ⟨_, rfl, asM_pat ?_⟩
        refine lcM_go _ (fun n acc ρ => ∃ (f : O), acc = ((M.take j).flatMap F ++ (F t).take n).map tnI ∧ ρ = [.fz (tupN p), .tn (s.map PyData.int), .fz (.int (d : Nat)), .fz (patL M), .fz (.int (i : Nat)), tnI t, f]) _ _ (fun n z3 ez3 acc ρ ⟨f, hacc, hρ⟩ N4 hN4 => ?_) ⟨_, by simp, rfl⟩ fun acc ρ ⟨f, hacc, hρ⟩ => ?_
        · obtain ⟨x, ex, rfl⟩ := at_tn ez3
          subst hρ hacc
          have hnl := (List.getElem?_eq_some_iff.mp ex).1
          simp [bE, tnI]
          refine ⟨by unfold szMax; simp at hAl; omega, hN4 _ _ ⟨_, ?_, rfl⟩⟩
          rw [List.take_add_one, ex]
          simp [tnI]
        · subst hρ hacc
          refine hN3 _ _ ⟨_, _, ?_, rfl⟩
          rw [List.length_map, List.take_length, etk, List.flatMap_append]
          simp
      · subst hρ hacc
        rw [List.length_map, List.take_length]
        exact toM_pat (hN2 _ ⟨_, _, _, _, hM.succ hp hF, rfl⟩)
    · subst hρ
      simp at hM
      exact hN _ ⟨M, a, b, c, hM, rfl⟩
  subst hρ
  have hMl := hM.len
  have hle := cnt_le h5 d s
  simp [unL_pat, hMl]
  exact h _
theorem getQ_cons {q : List Int × PyData} {ds : List (List Int × PyData)} {k : List Int} : getQ (q :: ds) k = if q.1 = k then some q.2 else getQ ds k := by
  unfold getQ
  by_cases h : q.1 = k
  · rw [List.find?_cons_of_pos (by simpa using h), if_pos h]; rfl
  · rw [List.find?_cons_of_neg (by simpa using h), if_neg h]
theorem inQ_get (k : List Int) : ∀ ds : List (List Int × PyData), inQ ds k = (getQ ds k).isSome
  | [] => rfl
  | q :: ds => by
    rw [getQ_cons]
    have ih := inQ_get k ds
    unfold inQ at ih ⊢
    rw [List.any_cons, ih]
    by_cases h : q.1 = k <;> simp [h]
theorem getQ_rep (k k' : List Int) (f : PyData) : ∀ ds : List (List Int × PyData), getQ (ds.map fun p => if p.1 = k then (p.1, f) else p) k' = if k' = k then (if inQ ds k = true then some f else none) else getQ ds k'
  | [] => by by_cases h : k' = k <;> simp [getQ, inQ, h]
  | q :: ds => by
    rw [List.map_cons, getQ_cons, getQ_cons, getQ_rep k k' f ds]
    have e : inQ (q :: ds) k = (decide (q.1 = k) || inQ ds k) := rfl
    rw [e]
    by_cases h : q.1 = k
    · by_cases h2 : k' = k
      · subst h2; simp [h]
      · have : ¬ k = k' := fun z => h2 z.symm
        simp [h, h2, this]
    · by_cases h2 : k' = k
      · subst h2; simp [h]
      · simp [h, h2]
theorem getQ_app (k : List Int) (q : List Int × PyData) : ∀ ds : List (List Int × PyData), getQ (ds ++ [q]) k = (getQ ds k).or (if q.1 = k then some q.2 else none)
  | [] => by rw [List.nil_append, getQ_cons]; rfl
  | p :: ds => by
    rw [List.cons_append, getQ_cons, getQ_cons, getQ_app k q ds]
    by_cases h : p.1 = k <;> simp [h]
theorem getQ_put (ds : List (List Int × PyData)) (k k' : List Int) (f : PyData) : getQ (putQ ds k f) k' = if k' = k then some f else getQ ds k' := by
  unfold putQ
  by_cases h : inQ ds k = true
  · rw [if_pos h, getQ_rep, if_pos h]
  · rw [if_neg h, getQ_app]
    by_cases h2 : k' = k
    · subst h2
      rw [inQ_get] at h
      have : getQ ds k' = none := by simpa using h
      simp [this]
    · have : ¬ k = k' := fun z => h2 z.symm
      simp [h2, this]
theorem putQ_mem {ds : List (List Int × PyData)} {k r : List Int} {f : PyData} (h : r ∈ (putQ ds k f).map (·.1)) : r ∈ ds.map (·.1) ∨ r = k := by
  rw [put_keys] at h
  split at h
  · exact .inl h
  · rcases List.mem_append.mp h with h | h
    · exact .inl h
    · exact .inr (List.mem_singleton.mp h)
theorem getQ_mem {ds : List (List Int × PyData)} {k : List Int} (h : k ∈ ds.map (·.1)) : (getQ ds k).isSome = true := by
  rw [← inQ_get]
  obtain ⟨p, hp, e⟩ := List.mem_map.mp h
  exact List.any_eq_true.mpr ⟨p, hp, by simp [e]⟩
theorem getQ_not {ds : List (List Int × PyData)} {k : List Int} (h : k ∉ ds.map (·.1)) : getQ ds k = none := by
  cases q : getQ ds k with
  | none => rfl
  | some d =>
    exfalso
    have : inQ ds k = true := by rw [inQ_get, q]; rfl
    obtain ⟨p, hp, e⟩ := List.any_eq_true.mp this
    exact h (List.mem_map.mpr ⟨p, hp, by simpa using e⟩)
theorem getQ_map (g : List Int → PyData) (k : List Int) : ∀ E : List (List Int), k ∈ E → getQ (E.map fun t => (t, g t)) k = some (g k)
  | [], h => nomatch h
  | t :: E, h => by
    rw [List.map_cons, getQ_cons]
    by_cases e : t = k
    · subst e; simp
    · rcases List.mem_cons.mp h with z | z
      · exact absurd z.symm e
      · simp only [if_neg e]
        exact getQ_map g k E z
def nE (p : List Nat) (d : Nat) (ks : List (List Int)) (r : List Int) : Nat := ((cE p).filter fun x => decide (itr p d x ∈ ks) && decide (later p (itr p d x) = r)).length
theorem filt_two {α : Type} (P Q S : α → Bool) (h1 : ∀ x, S x = (P x || Q x)) (h2 : ∀ x, (P x && Q x) = false) : ∀ E : List α, (E.filter S).length = (E.filter P).length + (E.filter Q).length
  | [] => rfl
  | x :: E => by
    have ih := filt_two P Q S h1 h2 E
    have a := h1 x
    have b := h2 x
    cases hP : P x <;> cases hQ : Q x <;> simp_all <;> omega
theorem nE_snoc {p : List Nat} {d : Nat} {ks : List (List Int)} {k r : List Int} (hk : k ∉ ks) : nE p d (ks ++ [k]) r = nE p d ks r + if later p k = r then cnt p d k else 0 := by
  unfold nE
  rw [filt_two (fun x => decide (itr p d x ∈ ks) && decide (later p (itr p d x) = r)) (fun x => decide (itr p d x = k) && decide (later p k = r)) _ (fun x => ?_) (fun x => ?_)]
  · congr 1
    by_cases h : later p k = r
    · rw [if_pos h]
      unfold cnt
      simp [h]
    · rw [if_neg h]
      simp [h]
  · by_cases h1 : itr p d x = k
    · rw [h1]
      simp [hk]
    · simp [h1]
  · by_cases h1 : itr p d x = k
    · rw [h1]
      simp [hk]
    · simp [h1]
def LOk (p : List Nat) (d : Nat) (ks : List (List Int)) (ds : List (List Int × PyData)) : Prop := (ds.map (·.1)).Nodup ∧ (∀ r ∈ ds.map (·.1), isP p r) ∧ ∀ r, (getQ ds r).getD (.int 0) = .int (nE p d ks r : Nat)
def EOk (p : List Nat) (d : Nat) (ds : List (List Int × PyData)) : Prop := (ds.map (·.1)).Nodup ∧ (∀ r ∈ ds.map (·.1), isP p r) ∧ ∀ r, (getQ ds r).getD (.int 0) = .int (cnt p d r : Nat)
theorem keys_len {p : List Nat} (h5 : p.length ≤ 5) {ks : List (List Int)} (hn : ks.Nodup) (hk : ∀ r ∈ ks, isP p r) : ks.length ≤ 5040 := by
  have h : ks.Perm ((cE p).filter fun x => decide (x ∈ ks)) := (List.perm_ext_iff_of_nodup hn ((allI_nodup _).filter _)).mpr fun x => by
    rw [List.mem_filter, decide_eq_true_eq]
    exact ⟨fun z => ⟨mem_allI.mpr (hk x z), z⟩, fun z => z.2⟩
  rw [h.length_eq]
  exact Nat.le_trans (List.length_filter_le _ _) (cE_len h5)
theorem LOk.zero (p : List Nat) (d : Nat) : LOk p d [] [] := ⟨List.nodup_nil, fun r h => absurd h List.not_mem_nil, fun r => by
  unfold nE
  rw [List.filter_eq_nil_iff.mpr (by simp)]
  rfl⟩
theorem LOk.snoc {p : List Nat} (hp : PlantOk p) {d : Nat} {ks : List (List Int)} {k : List Int} {ds : List (List Int × PyData)} (h : LOk p d ks ds) (hk : k ∉ ks) (hP : isP p k) : LOk p d (ks ++ [k]) (putQ ds (later p k) (.int ((nE p d ks (later p k) : Nat) + (cnt p d k : Nat)))) := by
  refine ⟨put_nodup h.1, fun r hr => ?_, fun r => ?_⟩
  · rcases putQ_mem hr with z | z
    · exact h.2.1 r z
    · rw [z]; exact (later_eq hp hP).2
  · rw [getQ_put, nE_snoc hk]
    by_cases e : r = later p k
    · subst e
      simp
    · have e2 : ¬ later p k = r := fun z => e z.symm
      rw [if_neg e, if_neg e2]
      simpa using h.2.2 r
theorem LOk.done {p : List Nat} {d : Nat} {ds es : List (List Int × PyData)} (h : LOk p d (es.map (·.1)) ds) (hE : EOk p d es) : EOk p (d + 1) ds := by
  refine ⟨h.1, h.2.1, fun r => ?_⟩
  rw [h.2.2 r]
  congr 3
  unfold nE cnt
  congr 1
  refine List.filter_congr fun x hx => ?_
  rw [itr_succ]
  have hm : itr p d x ∈ es.map (·.1) := by
    by_cases z : itr p d x ∈ es.map (·.1)
    · exact z
    · exfalso
      have h1 := hE.2.2 (itr p d x)
      rw [getQ_not z] at h1
      have h2 : cnt p d (itr p d x) = 0 := by
        have h3 : PyData.int 0 = PyData.int (cnt p d (itr p d x) : Nat) := h1
        injection h3 with h3
        omega
      have h3 : x ∈ (cE p).filter fun y => decide (itr p d y = itr p d x) := List.mem_filter.mpr ⟨hx, by simp⟩
      rw [List.eq_nil_of_length_eq_zero h2] at h3
      exact nomatch h3
  simp [hm]
theorem EOk.zero (p : List Nat) : EOk p 0 ((cE p).map fun t => (t, .int 1)) := by
  have ek : ((cE p).map fun t => ((t, PyData.int 1) : List Int × PyData)).map (·.1) = cE p := by rw [List.map_map]; exact List.map_id _
  refine ⟨by rw [ek]; exact allI_nodup _, fun r hr => by rw [ek] at hr; exact mem_allI.mp hr, fun r => ?_⟩
  by_cases h : r ∈ cE p
  · rw [getQ_map (fun _ => .int 1) r _ h]
    have : cnt p 0 r = 1 := by
      have := (Lead.zero (mem_allI.mp h)).len
      simpa using this.symm
    rw [this]
    rfl
  · rw [getQ_not (by rw [ek]; exact h)]
    have : cnt p 0 r = 0 := by
      unfold cnt
      rw [List.filter_eq_nil_iff.mpr fun x hx e => h (by have e2 : x = r := of_decide_eq_true e
                                                         exact e2 ▸ hx)]
      rfl
    rw [this]
    rfl
theorem EOk.get {p : List Nat} {d : Nat} {ds : List (List Int × PyData)} (h : EOk p d ds) {r : List Int} (hr : r ∈ ds.map (·.1)) : getQ ds r = some (.int (cnt p d r : Nat)) := by
  have h1 := getQ_mem hr
  have h2 := h.2.2 r
  cases q : getQ ds r with
  | none => rw [q] at h1; cases h1
  | some v => rw [q] at h2; exact congrArg some h2
theorem kOs_tn (ds : List (List Int × PyData)) : kOs ds = (ds.map (·.1)).map tnI := by
  unfold kOs tnI
  rw [List.map_map, List.map_map]
  rfl
def G__law_mixed : WF := fun ds R => ∃ (n : Nat) (x : List PyData) (L : List (List Int)), ds = [.lf x, .fz (patL L)] ∧ potO n x ∧ n ≤ 100000000 ∧ L.length ≤ 6000 ∧ ∀ (L' : List (List Int)) (x' : List PyData), L'.Perm L → potO (n + 6000) x' → ∀ t, R (.ol (L'.map tnI)) (.lf x' :: t)
theorem perm_popI {l : List (List Int)} {i : Nat} {f : List Int} (h : l[i]? = some f) : (f :: l.eraseIdx i).Perm l := by
  induction l generalizing i with
  | nil => simp at h
  | cons a l ih =>
    cases i with
    | zero =>
      simp at h
      subst h
      exact List.Perm.refl _
    | succ i =>
      have := ih (i := i) (by simpa using h)
      exact (List.Perm.swap a f _).trans (this.cons a)
theorem sp__law_mixed : ∀ ds R, G__law_mixed ds R → gOf 2 4 (W__law_mixed G__law_draw) ds R := by
  rintro _ R ⟨n, x, L, rfl, hx, hn, hl, h⟩
  refine ⟨rfl, ?_⟩
  refine seq_to (fun ρ => ρ = [.lf x, .fz (patL L), .ol (L.map tnI), .hid]) (fun N hN => ?_) fun ρ hρ => ?_
  · simp
    refine ⟨L.map fun r => r.map PyData.int, rfl, ?_⟩
    rw [patL_tn]
    exact hN _ rfl
  subst hρ
  simp [unL_pat]
  refine ⟨⟨by omega, by omega⟩, by unfold szMax; omega, ?_⟩
  refine lc_go _ (fun i acc ρ => ∃ (x' : List PyData) (left out : List (List Int)) (v_k : O), ρ = [.lf x', .fz (patL L), .ol (left.map tnI), v_k] ∧ potO (n + i) x' ∧ acc = out.map tnI ∧ (out ++ left).Perm L ∧ out.length = i) _ _ (fun i d e acc ρ ⟨x', left, out, v_k, hρ, hx', ha, hp, hlen⟩ K1 K0 k1 k0 => ?_) ⟨x, L, [], _, rfl, hx, rfl, List.Perm.refl _, rfl⟩ fun acc ρ ⟨x', left, out, v_k, hρ, hx', ha, hp, hlen⟩ => ?_
  · obtain ⟨hi, rfl⟩ := rangeL_at e
    subst hρ
    have hll := hp.length_eq
    rw [List.length_append] at hll
    have eL : lenO (.ol (left.map tnI)) = some left.length := by show some (left.map tnI).length = _; rw [List.length_map]
    simp [G__law_draw, and_assoc]
    refine ⟨_, eL, ?_⟩
    simp
    refine ⟨n + i, hx', by omega, by omega, by omega, fun r x2 hr0 hr1 hx2 => ?_⟩
    have hr : r.toNat < left.length := by omega
    refine ⟨left.map fun r => r.map PyData.int, by rw [patL_tn], hr0, by omega, left[r.toNat].map PyData.int, by rw [List.getElem?_map, List.getElem?_eq_getElem hr]; rfl, ?_⟩
    rw [erase_map, patL_tn]
    refine k1 _ _ ⟨x2, left.eraseIdx r.toNat, out ++ [left[r.toNat]], _, rfl, hx2, by simp [ha, tnI], ?_, by simp [hlen]⟩
    have := perm_popI (List.getElem?_eq_getElem hr)
    rw [List.append_assoc]
    exact (List.Perm.append_left out this).trans hp
  · subst hρ ha
    have hll := hp.length_eq
    rw [List.length_append] at hll
    simp at hlen
    have h0 : left = [] := List.eq_nil_of_length_eq_zero (by omega)
    subst h0
    exact h out x' (by simpa using hp) (hx'.mono (by simp; omega)) _
theorem rp_two {p : List Nat} {b : List Int} (hp : PlantOk p) (hb : SOk p.length 132 b) : okP (.list [tupN p, tupI b]) = true ∧ (PyData.list [tupN p, tupI b]).depth ≤ 40 := by
  have hpl := hp.1
  have hbl := hb.1
  refine short_ok ((short_list (n := 100000) (k := 3) fun d hd => ?_).mono (by simp) (by decide))
  rcases List.mem_cons.mp hd with rfl | hd
  · refine (short_tup (n := 133) (k := 2) fun y hy => ?_).mono (by simp; omega) (by decide)
    obtain ⟨z, hz, rfl⟩ := List.mem_map.mp hy
    have := hp.small z hz
    exact ⟨int_val (by omega), int_wgt (b := 132) (by decide) (by omega), by simp only [PyData.depth]; omega⟩
  · rw [List.mem_singleton.mp hd]
    refine (short_tup (n := 133) (k := 2) fun y hy => ?_).mono (by rw [List.length_map]; omega) (by decide)
    obtain ⟨z, hz, rfl⟩ := List.mem_map.mp hy
    have := hb.2.2 z hz
    exact ⟨int_val (by omega), int_wgt (by decide) this, by simp only [PyData.depth]; omega⟩
def aftD (p : List Nat) : List (List Int × PyData) := (cE p).map fun t => (t, tupI (later p t))
def endD (p : List Nat) : List (List Int × PyData) := (cE p).map fun t => (t, .int 1)
theorem keys_map (p : List Nat) (g : List Int → PyData) : ((cE p).map fun t => ((t, g t) : List Int × PyData)).map (·.1) = cE p := by rw [List.map_map]; exact List.map_id _
theorem lst_last {p : List Nat} (hp : PlantOk p) : ∃ b, isP p b ∧ atI ((cE p).map tupI) (-1) = some (tupI b) := by
  have hne : cE p ≠ [] := fun e => by
    have h : isP p ((List.range (p.length + 1)).map fun i : Nat => (i : Int)) := by
      refine ⟨⟨by simp, nodup_mapI (fun a b e => Int.ofNat.inj e) List.nodup_range⟩, fun x hx => ?_⟩
      obtain ⟨v, hv, rfl⟩ := List.mem_map.mp hx
      have := List.mem_range.mp hv
      omega
    have := mem_allI.mpr h
    unfold cE at e
    rw [e] at this
    exact nomatch this
  obtain ⟨init, b, e⟩ : ∃ init b, cE p = init ++ [b] := ⟨_, _, (List.dropLast_concat_getLast hne).symm⟩
  refine ⟨b, mem_allI.mp (show b ∈ cE p from by rw [e]; simp), ?_⟩
  rw [e, List.map_append]
  unfold atI
  have e2 : ixN (init.map tupI ++ [b].map tupI).length (-1) = some init.length := by
    unfold ixN
    simp
    exact ⟨by omega, by omega⟩
  rw [e2]
  simp
theorem okI {c : Nat} (h : c ≤ 5040) : okP (.int (c : Nat)) = true ∧ (PyData.int (c : Nat)).depth ≤ 40 :=
  short_ok ⟨int_val (by omega), Nat.le_trans (int_wgt (b := 132) (by decide) (by omega)) (by decide), by simp only [PyData.depth]; omega⟩
theorem sort_keys {ks : List (List Int)} {k : O → Prop} (hne : ∀ r ∈ ks, r ≠ []) (h : ∀ L : List (List Int), L.Perm ks → k (.ol (L.map tnI))) : oSortO [.ol (ks.map tnI)] k := by
  obtain ⟨t1, t2, t3, t4⟩ := tups_ok hne
  have er : (ks.map fun r => r.map PyData.int).map PyData.tuple = ks.map tupI := by
    rw [List.map_map]
    rfl
  refine ⟨ks.map fun r => r.map PyData.int, (patL_tn ks).symm, ?_⟩
  rw [er]
  refine ⟨t1, t2, t3, t4, fun rs' hpm _ => ?_⟩
  have e6 : (rs'.map fun ds => ds.map intOf).map (fun r => r.map PyData.int) = rs' := by
    rw [List.map_map]
    conv => rhs; rw [← List.map_id rs']
    refine List.map_congr_left fun ds hds => ?_
    obtain ⟨r, _, rfl⟩ := List.mem_map.mp (hpm.mem_iff.mp hds)
    show (List.map intOf (r.map PyData.int)).map PyData.int = r.map PyData.int
    rw [map_intOf]
  have pm : (rs'.map fun ds => ds.map intOf).Perm ks := by
    have := hpm.map fun ds : List PyData => ds.map intOf
    rw [List.map_map, show ((fun ds : List PyData => ds.map intOf) ∘ fun r : List Int => r.map PyData.int) = id from funext fun r => map_intOf r, List.map_id] at this
    exact this
  have := h _ pm
  rw [← patL_tn, e6] at this
  exact this
theorem sl_pat {L : List (List Int)} {lo hi : Option Int} {k : O → Prop} (h : ∀ M : List (List Int), (∀ t ∈ M, t ∈ L) → M.length ≤ L.length → k (.ol (M.map tnI))) : oSlN lo hi (.ol (L.map tnI)) k := by
  refine ⟨L.map fun r => r.map PyData.int, congrArg O.ol (patL_tn L).symm, ?_⟩
  have e : cutP (L.map fun r => r.map PyData.int) lo hi = (cutP L lo hi).map fun r => r.map PyData.int := by
    unfold cutP
    rw [List.length_map, List.map_take, List.map_drop]
  rw [e, patL_tn]
  exact h _ (fun t ht => cut_mem ht) (cut_len _ _ _)
def G__law_right : WF := fun ds R => ∃ n x, ds = [.lf x] ∧ potO n x ∧ n ≤ 1000000 ∧ ∀ x', potO (n + 20000) x' → ∀ t, R (.fz (.bool true)) (.lf x' :: t)
theorem sp__law_right : ∀ ds R, G__law_right ds R → gOf 1 12 (W__law_right G__law_all G__law_day G__law_draw G__law_givers G__law_mixed G__law_plant G__law_ranked G_count_before) ds R := by
  rintro _ R ⟨n, x, rfl, hx, hn, h⟩
  refine ⟨rfl, ?_⟩
  refine seq_to (fun ρ => ∃ p x1, PlantOk p ∧ p.length ≤ 5 ∧ potO (n + 1000) x1 ∧ ρ = [.lf x1, .fz (tupN p), .hid, .hid, .hid, .hid, .hid, .hid, .hid, .hid, .hid, .hid]) (fun N hN => ?_) fun ρ ⟨p, x1, hp, h5, hx1, hρ⟩ => ?_
  · simp
    exact ⟨n, x, 6, rfl, hx, by omega, by omega, by omega, fun p x2 hp hpl hx2 t => ⟨_, rfl, hN _ ⟨p, x2, hp, by omega, hx2.mono (by omega), rfl⟩⟩⟩
  subst hρ
  have hpl := hp.1
  refine seq_to (fun ρ => ρ = [.lf x1, .fz (tupN p), .fz (.list (gv p)), .fz (patL (cE p)), .hid, .hid, .hid, .hid, .hid, .hid, .hid, .hid]) (fun N hN => ?_) fun ρ hρ => ?_
  · simp [G__law_givers, G__law_all, and_assoc]
    refine ⟨p, rfl, hp, ?_⟩
    have hN2 := hN _ rfl
    unfold cE at hN2
    rw [← allI_tup] at hN2
    simp [tupN]
    exact ⟨p.length + 1, by omega, by omega, by omega, by unfold szMax; decide, hN2⟩
  subst hρ
  refine seq_to (fun ρ => ∃ (x2 : List PyData) (D : Nat), D ≤ 60 ∧ potO (n + 1004) x2 ∧ ρ = [.lf x2, .fz (tupN p), .fz (.list (gv p)), .fz (patL (cE p)), .fz (.int (D : Nat)), .hid, .hid, .hid, .hid, .hid, .hid, .hid]) (fun N hN => ?_) fun ρ ⟨x2, D, hD, hx2, hρ⟩ => ?_
  · simp [G__law_draw, and_assoc]
    refine ⟨n + 1000, hx1, by omega, fun r1 y1 a1 b1 hy1 => ⟨_, hy1, by omega, fun r2 y2 a2 b2 hy2 => ⟨_, hy2, by omega, fun r3 y3 a3 b3 hy3 => ⟨by unfold szMax; decide, _, hy3, by omega, fun r4 y4 a4 b4 hy4 => ?_⟩⟩⟩⟩
    obtain ⟨m1, rfl⟩ := Int.eq_ofNat_of_zero_le a1
    obtain ⟨m2, rfl⟩ := Int.eq_ofNat_of_zero_le a2
    obtain ⟨m3, rfl⟩ := Int.eq_ofNat_of_zero_le a3
    rcases (show r4 = 0 ∨ r4 = 1 ∨ r4 = 2 by omega) with rfl | rfl | rfl
    · exact ⟨_, rfl, hN _ ⟨y4, m1, by omega, hy4, rfl⟩⟩
    · exact ⟨_, rfl, hN _ ⟨y4, m2, by omega, hy4, rfl⟩⟩
    · exact ⟨_, rfl, hN _ ⟨y4, m3, by omega, hy4, rfl⟩⟩
  subst hρ
  refine seq_to (fun ρ => ∃ (a : O), ρ = [.lf x2, .fz (tupN p), .fz (.list (gv p)), .fz (patL (cE p)), .fz (.int (D : Nat)), .dz true (aftD p), a, .hid, .hid, .hid, .hid, .hid]) (fun N hN => ?_) fun ρ ⟨a, hρ⟩ => ?_
  · unfold wLcN wiM
    simp
    refine asM_pat ?_
    refine lcM_go _ (fun j acc ρ => ∃ (e : O), acc = dps true ((aftD p).take j) ∧ ρ = [.lf x2, .fz (tupN p), .fz (.list (gv p)), .fz (patL (cE p)), .fz (.int (D : Nat)), .hid, e, .hid, .hid, .hid, .hid, .hid]) _ _ (fun j z2 ez2 acc ρ ⟨e, hacc, hρ⟩ N3 hN3 => ?_) ⟨_, rfl, rfl⟩ fun acc ρ ⟨e, hacc, hρ⟩ => ?_
    · obtain ⟨t, et, rfl⟩ := at_tn ez2
      subst hρ hacc
      have ht : isP p t := mem_allI.mp (List.mem_of_getElem? et)
      have hjl := (List.getElem?_eq_some_iff.mp et).1
      have hcl := cE_len h5
      have ed : (aftD p).take (j + 1) = (aftD p).take j ++ [(t, tupI (later p t))] := by
        rw [List.take_add_one]
        unfold aftD
        rw [List.getElem?_map, et]
        rfl
      simp [bE, tnI, G__law_day, G__law_ranked, and_assoc]
      refine ⟨by unfold dps szMax; rw [List.length_map, List.length_take]; omega, p, rfl, t, rfl, hp, 10, isP_ok hp ht, by decide, 1, rfl, _, rfl, _, rfl, nxt p t 0, rfl, by rw [nxt_len, ht.1.1]; omega, .inl ⟨by unfold szMax; decide, hN3 _ _ ⟨_, ?_, rfl⟩⟩⟩
      rw [ed]
      unfold dps
      rw [List.map_append]
      rfl
    · subst hρ hacc
      have ek : (aftD p).map (·.1) = cE p := keys_map p _
      have el : (aftD p).length = (cE p).length := by unfold aftD; rw [List.length_map]
      simp
      refine .inr ⟨aftD p, by rw [List.take_of_length_le (by omega)], by rw [ek]; exact allI_nodup _, fun a b hab => ?_, hN _ ⟨_, rfl⟩⟩
      obtain ⟨t, _, e⟩ := List.mem_map.mp hab
      cases e
      exact ⟨_, rfl⟩
  subst hρ
  refine seq_to (fun ρ => ∃ (a : O), ρ = [.lf x2, .fz (tupN p), .fz (.list (gv p)), .fz (patL (cE p)), .fz (.int (D : Nat)), .dz true (aftD p), a, .dz false (endD p), .hid, .hid, .hid, .hid]) (fun N hN => ?_) fun ρ ⟨a, hρ⟩ => ?_
  · unfold wLcN wiM
    simp
    refine asM_pat ?_
    refine lcM_go _ (fun j acc ρ => ∃ (e : O), acc = dps false ((endD p).take j) ∧ ρ = [.lf x2, .fz (tupN p), .fz (.list (gv p)), .fz (patL (cE p)), .fz (.int (D : Nat)), .dz true (aftD p), e, .hid, .hid, .hid, .hid, .hid]) _ _ (fun j z2 ez2 acc ρ ⟨e, hacc, hρ⟩ N3 hN3 => ?_) ⟨_, rfl, rfl⟩ fun acc ρ ⟨e, hacc, hρ⟩ => ?_
    · obtain ⟨t, et, rfl⟩ := at_tn ez2
      subst hρ hacc
      have hjl := (List.getElem?_eq_some_iff.mp et).1
      have hcl := cE_len h5
      have ed : (endD p).take (j + 1) = (endD p).take j ++ [(t, .int 1)] := by
        rw [List.take_add_one]
        unfold endD
        rw [List.getElem?_map, et]
        rfl
      simp [bE, tnI, and_assoc]
      refine ⟨by unfold dps szMax; rw [List.length_map, List.length_take]; omega, by unfold szMax; decide, hN3 _ _ ⟨_, ?_, rfl⟩⟩
      rw [ed]
      unfold dps
      rw [List.map_append]
      rfl
    · subst hρ hacc
      have ek : (endD p).map (·.1) = cE p := keys_map p _
      have el : (endD p).length = (cE p).length := by unfold endD; rw [List.length_map]
      simp
      exact .inl ⟨endD p, by rw [List.take_of_length_le (by omega)], by rw [ek]; exact allI_nodup _, hN _ ⟨_, rfl⟩⟩
  subst hρ
  refine seq_to (fun ρ => ∃ (es : List (List Int × PyData)) (a b c : O), EOk p D es ∧ ρ = [.lf x2, .fz (tupN p), .fz (.list (gv p)), .fz (patL (cE p)), .fz (.int (D : Nat)), .dz true (aftD p), a, .dz false es, b, c, .hid, .hid]) (fun N hN => ?_) fun ρ ⟨es, a, b, c, hE, hρ⟩ => ?_
  · simp
    refine ⟨⟨by omega, by omega⟩, ?_⟩
    refine for_go _ (fun i ρ => ∃ (es : List (List Int × PyData)) (a b c : O), EOk p i es ∧ ρ = [.lf x2, .fz (tupN p), .fz (.list (gv p)), .fz (patL (cE p)), .fz (.int (D : Nat)), .dz true (aftD p), a, .dz false es, b, c, .hid, .hid]) _ (fun i z ez ρ ⟨es, a, b, c, hE, hρ⟩ N2 hN2 => ?_) ⟨endD p, _, _, _, EOk.zero p, rfl⟩ fun ρ ⟨es, a, b, c, hE, hρ⟩ => ?_
    · obtain ⟨hi, rfl⟩ := rangeL_at ez
      subst hρ
      refine seq_to (fun ρ => ρ = [.lf x2, .fz (tupN p), .fz (.list (gv p)), .fz (patL (cE p)), .fz (.int (D : Nat)), .dz true (aftD p), a, .dz false es, .fz (.int (i : Nat)), .dn false [], .hid, .hid]) (fun N hN => ?_) fun ρ hρ => ?_
      · simp
        exact hN _ rfl
      subst hρ
      refine seq_to (fun ρ => ∃ (ls : List (List Int × PyData)) (a : O), LOk p i (es.map (·.1)) ls ∧ ρ = [.lf x2, .fz (tupN p), .fz (.list (gv p)), .fz (patL (cE p)), .fz (.int (D : Nat)), .dz true (aftD p), a, .dz false es, .fz (.int (i : Nat)), .dn false ls, .hid, .hid]) (fun N hN => ?_) fun ρ ⟨ls, a, hL, hρ⟩ => ?_
      · unfold sForO
        simp
        rw [kOs_tn]
        refine for_goO _ (fun j ρ => ∃ (ls : List (List Int × PyData)) (a : O), LOk p i ((es.map (·.1)).take j) ls ∧ ρ = [.lf x2, .fz (tupN p), .fz (.list (gv p)), .fz (patL (cE p)), .fz (.int (D : Nat)), .dz true (aftD p), a, .dz false es, .fz (.int (i : Nat)), .dn false ls, .hid, .hid]) _ (fun j z ez ρ ⟨ls, a, hL, hρ⟩ N3 hN3 => ?_) ⟨[], _, LOk.zero p i, rfl⟩ fun ρ ⟨ls, a, hL, hρ⟩ => ?_
        · obtain ⟨t, et, rfl⟩ := at_tn ez
          subst hρ
          have htm : t ∈ es.map (·.1) := List.mem_of_getElem? et
          have htP := hE.2.1 t htm
          have hjl := (List.getElem?_eq_some_iff.mp et).1
          have hnt : t ∉ (es.map (·.1)).take j := fun z => by
            have h1 := hE.1
            rw [← List.take_append_drop j (es.map (·.1))] at h1
            have h2 : t ∈ (es.map (·.1)).drop j := List.mem_of_getElem? (i := 0) (by rw [List.getElem?_drop]; exact et)
            exact (List.nodup_append.mp h1).2.2 t z t h2 rfl
          have hla : getQ (aftD p) t = some (tupI (later p t)) := getQ_map (fun t => tupI (later p t)) t _ (mem_allI.mpr htP)
          have hll : ls.length ≤ 5040 := by
            have := keys_len h5 hL.1 hL.2.1
            rwa [List.length_map] at this
          simp [tnI]
          refine ⟨_, rfl, t, qL_ints t, _, hla, (later p t).map PyData.int, rfl, later p t, qL_ints _, _, rfl, t, qL_ints t, _, hE.get htm, ?_⟩
          rw [hL.2.2 (later p t)]
          simp
          refine ⟨_, rfl, t, qL_ints t, _, hla, ?_⟩
          show lmNPut (.dn false ls) [_, .tn ((later p t).map PyData.int)] _
          simp
          refine ⟨_, qL_ints _, by unfold szMax; omega, hN3 _ ⟨_, _, ?_, rfl⟩⟩
          rw [List.take_add_one, et]
          exact hL.snoc hp hnt htP
        · subst hρ
          rw [List.length_map, List.take_length] at hL
          exact hN _ ⟨ls, _, hL, rfl⟩
      subst hρ
      simp
      exact hN2 _ ⟨ls, _, _, _, hL.done hE, rfl⟩
    · subst hρ
      simp at hE
      exact hN _ ⟨es, a, b, c, hE, rfl⟩
  subst hρ
  obtain ⟨bl, hbl, hat⟩ := lst_last hp
  obtain ⟨r1, r2⟩ := rp_two hp ((isP_ok hp hbl).mono (c := 132) (by decide))
  refine seq_to (fun ρ => ∃ S : Str, S = (PyData.list [tupN p, tupI bl]).shown ∧ ρ = [.lf x2, .fz (tupN p), .fz (.list (gv p)), .fz (patL (cE p)), .fz (.int (D : Nat)), .dz true (aftD p), a, .dz false es, b, c, .fz (.str S), .hid]) (fun N hN => ?_) fun ρ ⟨S, hS, hρ⟩ => ?_
  · simp [unL_pat]
    exact ⟨_, hat, by unfold szMax; decide, r1, r2, hN _ ⟨_, rfl, rfl⟩⟩
  subst hρ
  refine seq_to (fun ρ => ∃ (x3 : List PyData) (L : List (List Int)), (∀ t ∈ L, isP p t) ∧ potO (n + 15000) x3 ∧ ρ = [.lf x3, .fz (tupN p), .fz (.list (gv p)), .fz (patL (cE p)), .fz (.int (D : Nat)), .dz true (aftD p), a, .dz false es, b, c, .fz (.str S), .fz (patL L)]) (fun N hN => ?_) fun ρ ⟨x3, L, hL, hx3, hρ⟩ => ?_
  · have hek := keys_len h5 hE.1 hE.2.1
    have hel : es.length ≤ 5040 := by rwa [List.length_map] at hek
    unfold wFzM wSlN
    simp [-x_oSortO, G__law_mixed, and_assoc]
    refine ⟨by unfold szMax; omega, ?_⟩
    rw [kOs_tn]
    refine sort_keys (fun r hr e => ?_) fun Lk hLk => toM_pat ⟨n + 1004, Lk, rfl, hx2, by omega, by rw [hLk.length_eq]; omega, fun L1 x4 hp1 hx4 => sl_pat fun M1 hM1 hl1 => ⟨n + 7004, cE p, rfl, hx4.mono (by omega), by omega, by have := cE_len h5; omega, fun L2 x5 hp2 hx5 => sl_pat fun M2 hM2 hl2 => ⟨M1.map fun r => r.map PyData.int, M2.map fun r => r.map PyData.int, (patL_tn _).symm, (patL_tn _).symm, ?_, ?_⟩⟩⟩
    · have := (hE.2.1 r hr).1.1
      rw [e] at this
      cases this
    · have h1 := hp1.length_eq
      have h2 := hp2.length_eq
      have h3 := hLk.length_eq
      have h4 := cE_len h5
      rw [List.length_map, List.length_map]
      unfold szMax
      omega
    · rw [← List.map_append, patL_tn]
      refine toM_pat (hN _ ⟨x5, M1 ++ M2, fun t ht => ?_, hx5.mono (by omega), rfl⟩)
      rcases List.mem_append.mp ht with z | z
      · exact hE.2.1 t (hLk.mem_iff.mp (hp1.mem_iff.mp (hM1 t z)))
      · exact mem_allI.mp (hp2.mem_iff.mp (hM2 t z))
  subst hρ
  refine seq_to (fun ρ => ∃ (a : O), ρ = [.lf x3, .fz (tupN p), .fz (.list (gv p)), .fz (patL (cE p)), .fz (.int (D : Nat)), .dz true (aftD p), a, .dz false es, b, c, .fz (.str S), .fz (patL L)]) (fun N hN => ?_) fun ρ ⟨a, hρ⟩ => ?_
  · unfold sForO wiM
    simp
    refine asM_pat ?_
    refine for_goO _ (fun i ρ => ∃ (a : O), ρ = [.lf x3, .fz (tupN p), .fz (.list (gv p)), .fz (patL (cE p)), .fz (.int (D : Nat)), .dz true (aftD p), a, .dz false es, b, c, .fz (.str S), .fz (patL L)]) _ (fun i z ez ρ ⟨a, hρ⟩ N2 hN2 => ?_) ⟨_, rfl⟩ fun ρ ⟨a, hρ⟩ => hN _ ⟨a, hρ⟩
    obtain ⟨t, et, rfl⟩ := at_tn ez
    have ht := hL t (List.mem_of_getElem? et)
    subst hρ
    have hg := hE.2.2 t
    obtain ⟨o1, o2⟩ := okI (cnt_le h5 D t)
    simp [G_count_before, tnI, and_assoc]
    refine ⟨p, rfl, t, rfl, D, rfl, hp, ht, h5, hD, o1, o2, _, rfl, t, qL_ints t, ?_⟩
    rw [hg]
    simp
    exact ⟨o1, o2, hN2 _ ⟨_, rfl⟩⟩
  subst hρ
  simp [unL_pat]
  refine ⟨_, hat, by unfold szMax; decide, r1, r2, ?_⟩
  rw [hS, decide_eq_true rfl]
  exact h _ (hx3.mono (by omega)) _
theorem c0 : cnt [0, 0, 2] 0 [0, 1, 2, 3] = 1 := by decide +kernel
theorem hp3 : PlantOk [0, 0, 2] := ⟨by decide, fun i x e => by
  match i, e with
  | 0, e => cases e; decide
  | 1, e => cases e; decide
  | 2, e => cases e; decide⟩
theorem hs3 : isP [0, 0, 2] [0, 1, 2, 3] := ⟨⟨rfl, by decide⟩, by decide⟩
theorem c1 : cnt [0, 0, 2] 1 [0, 1, 2, 3] = 4 := by
  obtain ⟨F, hF⟩ : ∃ F : List Int → List (List Int), ∀ t, isP [0, 0, 2] t → Bef [0, 0, 2] t (F t) := Classical.axiomOfChoice (r := fun t M => isP [0, 0, 2] t → Bef [0, 0, 2] t M) fun t => by
    by_cases h : isP [0, 0, 2] t
    · obtain ⟨L, hL⟩ := Bef.ex hp3 h
      exact ⟨L, fun _ => hL⟩
    · exact ⟨[], fun z => absurd z h⟩
  have hl := ((Lead.zero hs3).succ hp3 hF).len
  have hB := hF _ hs3
  have hb : Back [0, 0, 2] [0, 1, 2, 3] 3 := ⟨by decide, by decide +kernel, by decide +kernel, fun v b hv kb o ko hne => by
    have hw : way [0, 0, 2] 3 = [3, 2, 0] := by decide +kernel
    rw [hw] at hv
    have k0 : kids [0, 0, 2] 0 = [1, 2] := by decide +kernel
    have k1 : kids [0, 0, 2] 1 = [] := by decide +kernel
    have k2 : kids [0, 0, 2] 2 = [3] := by decide +kernel
    have k3 : kids [0, 0, 2] 3 = [] := by decide +kernel
    by_cases h4 : v < 4
    · match v, h4 with
      | 0, _ =>
        rw [k0] at kb ko
        simp at kb ko hv
        have hbo : b = 2 ∧ o = 1 := by omega
        obtain ⟨rfl, rfl⟩ := hbo
        decide +kernel
      | 1, _ => rw [k1] at kb; cases kb
      | 2, _ =>
        rw [k2] at kb ko
        simp at kb ko
        omega
      | 3, _ => rw [k3] at kb; cases kb
    · exfalso
      obtain ⟨i, _, e⟩ := mem_kids.mp kb
      match i, e with
      | 0, e => simp at e; omega
      | 1, e => simp at e; omega
      | 2, e => simp at e; omega⟩
  have hm := (hB.2.1 _).mpr (back_to hp3 hs3 hb (Int.le_refl _) (by decide))
  have h4 : (F [0, 1, 2, 3]).length = 4 := hB.2.2.2.resolve_left (List.ne_nil_of_mem hm)
  simp [h4] at hl
  exact hl.symm
theorem sp_law : ∀ ds R, gLaw ds R → gOf 1 4 (W_law G__law_pot G__law_right G_count_before) ds R := by
  rintro _ R ⟨ns, rfl, hn, h⟩
  refine ⟨rfl, ?_⟩
  refine seq_to (fun ρ => ∃ a b : O, ρ = [.scr ns, a, b, .hid]) (fun N hN => ?_) fun ρ ⟨a, b, hρ⟩ => ?_
  · simp
    refine ⟨⟨by omega, by omega⟩, ?_⟩
    refine for_go _ (fun i ρ => ∃ a b : O, ρ = [.scr ns, a, b, .hid]) _ (fun i d e ρ ⟨a, b, hρ⟩ N2 hN2 => ?_) ⟨_, _, rfl⟩ fun ρ ⟨a, b, hρ⟩ => hN _ ⟨a, b, hρ⟩
    obtain ⟨hi, rfl⟩ := rangeL_at e
    subst hρ
    refine seq_to (fun ρ => ∃ x, potO 0 x ∧ ρ = [.scr ns, .fz (.int (i : Nat)), .lf x, .hid]) (fun N3 hN3 => ?_) fun ρ ⟨x, hx, hρ⟩ => ?_
    · simp [G__law_pot, and_assoc]
      exact ⟨i, rfl, by omega, fun x hx => hN3 _ ⟨x, hx, rfl⟩⟩
    subst hρ
    simp [G__law_right, and_assoc]
    exact ⟨_, hx, by omega, fun x' hx' => ⟨_, hx', by omega, fun x2 hx2 => hN2 _ ⟨_, _, rfl⟩⟩⟩
  subst hρ
  simp
  refine ⟨⟨by decide, by decide⟩, by unfold szMax; decide, ?_⟩
  refine lc_go _ (fun i acc ρ => ∃ e : O, acc = ((([1, 4] : List Int).take i).map PyData.int).map O.fz ∧ ρ = [.scr ns, a, b, e]) _ _ (fun i z ez acc ρ ⟨e, ha, hρ⟩ K1 K0 k1 k0 => ?_) ⟨_, rfl, rfl⟩ fun acc ρ ⟨e, ha, hρ⟩ => ?_
  · obtain ⟨hi, rfl⟩ := rangeL_at ez
    subst hρ ha
    simp [G_count_before, and_assoc]
    refine ⟨by unfold szMax; decide, by unfold szMax; decide, [0, 0, 2], rfl, [0, 1, 2, 3], rfl, i, rfl, hp3, hs3, by decide, by omega, k1 _ _ ⟨_, ?_, rfl⟩⟩
    rcases (show i = 0 ∨ i = 1 by omega) with rfl | rfl
    · rw [c0]
      rfl
    · rw [c1]
      rfl
  · subst hρ ha
    rw [show (List.take (rangeL 0 2).length ([1, 4] : List Int)) = [1, 4] from rfl, x_toLf2]
    refine ⟨by unfold szMax; decide, x_oEqG (by rfl) (by rfl) ?_⟩
    rw [if_neg Bool.false_ne_true]
    exact h _
end K38
namespace K38
open PySem PySem.Spec L2 Pt Sh St FC
theorem all_mk {l : PySem.W.OpenLaw} {w : World} {K : PySem.W.Frag} {qp : Program} {h : Heap} {mg : Str → Option Value} {fa f_is_int f_in_range f_is_plant f_require_plant f_require_station f_supplier_lists f_path_to_shop f_require_days f_require_pattern f_last_chain f_before_day f_count_before f__law_pot f__law_draw f__law_mixed f__law_plant f__law_givers f__law_day f__law_ranked f__law_all f__law_right f_law : Addr} (X : K.In h) (G : h.Ns mainGlobals mg) (hfa : mg "law" = some (.ref fa)) (TF : TabF qp K h) {od_is_int an_is_int : Option Addr} {sl_is_int : Array (Option Value)} {oc_is_int kV_is_int dc_is_int pm_is_int ct_is_int : Value} {cd_is_int : Value} {od_in_range an_in_range : Option Addr} {sl_in_range : Array (Option Value)} {oc_in_range kV_in_range dc_in_range pm_in_range ct_in_range : Value} {cd_in_range : Value} {od_is_plant an_is_plant : Option Addr} {sl_is_plant : Array (Option Value)} {oc_is_plant kV_is_plant dc_is_plant pm_is_plant ct_is_plant : Value} {cd_is_plant : Value} {od_require_plant an_require_plant : Option Addr} {sl_require_plant : Array (Option Value)} {oc_require_plant kV_require_plant dc_require_plant pm_require_plant ct_require_plant : Value} {cd_require_plant : Value} {od_require_station an_require_station : Option Addr} {sl_require_station : Array (Option Value)} {oc_require_station kV_require_station dc_require_station pm_require_station ct_require_station : Value} {cd_require_station : Value} {od_supplier_lists an_supplier_lists : Option Addr} {sl_supplier_lists : Array (Option Value)} {oc_supplier_lists kV_supplier_lists dc_supplier_lists pm_supplier_lists ct_supplier_lists : Value} {cd_supplier_lists : Value} {od_path_to_shop an_path_to_shop : Option Addr} {sl_path_to_shop : Array (Option Value)} {oc_path_to_shop kV_path_to_shop dc_path_to_shop pm_path_to_shop ct_path_to_shop : Value} {cd_path_to_shop : Value} {od_require_days an_require_days : Option Addr} {sl_require_days : Array (Option Value)} {oc_require_days kV_require_days dc_require_days pm_require_days ct_require_days : Value} {cd_require_days : Value} {od_require_pattern an_require_pattern : Option Addr} {sl_require_pattern : Array (Option Value)} {oc_require_pattern kV_require_pattern dc_require_pattern pm_require_pattern ct_require_pattern : Value} {cd_require_pattern : Value} {od_last_chain an_last_chain : Option Addr} {sl_last_chain : Array (Option Value)} {oc_last_chain kV_last_chain dc_last_chain pm_last_chain ct_last_chain : Value} {cd_last_chain : Value} {od_before_day an_before_day : Option Addr} {sl_before_day : Array (Option Value)} {oc_before_day kV_before_day dc_before_day pm_before_day ct_before_day : Value} {cd_before_day : Value} {od_count_before an_count_before : Option Addr} {sl_count_before : Array (Option Value)} {oc_count_before kV_count_before dc_count_before pm_count_before ct_count_before : Value} {cd_count_before : Value} {od__law_pot an__law_pot : Option Addr} {sl__law_pot : Array (Option Value)} {oc__law_pot kV__law_pot dc__law_pot pm__law_pot ct__law_pot : Value} {cd__law_pot : Value} {od__law_draw an__law_draw : Option Addr} {sl__law_draw : Array (Option Value)} {oc__law_draw kV__law_draw dc__law_draw pm__law_draw ct__law_draw : Value} {cd__law_draw : Value} {od__law_mixed an__law_mixed : Option Addr} {sl__law_mixed : Array (Option Value)} {oc__law_mixed kV__law_mixed dc__law_mixed pm__law_mixed ct__law_mixed : Value} {cd__law_mixed : Value} {od__law_plant an__law_plant : Option Addr} {sl__law_plant : Array (Option Value)} {oc__law_plant kV__law_plant dc__law_plant pm__law_plant ct__law_plant : Value} {cd__law_plant : Value} {od__law_givers an__law_givers : Option Addr} {sl__law_givers : Array (Option Value)} {oc__law_givers kV__law_givers dc__law_givers pm__law_givers ct__law_givers : Value} {cd__law_givers : Value} {od__law_day an__law_day : Option Addr} {sl__law_day : Array (Option Value)} {oc__law_day kV__law_day dc__law_day pm__law_day ct__law_day : Value} {cd__law_day : Value} {od__law_ranked an__law_ranked : Option Addr} {sl__law_ranked : Array (Option Value)} {oc__law_ranked kV__law_ranked dc__law_ranked pm__law_ranked ct__law_ranked : Value} {cd__law_ranked : Value} {od__law_all an__law_all : Option Addr} {sl__law_all : Array (Option Value)} {oc__law_all kV__law_all dc__law_all pm__law_all ct__law_all : Value} {cd__law_all : Value} {od__law_right an__law_right : Option Addr} {sl__law_right : Array (Option Value)} {oc__law_right kV__law_right dc__law_right pm__law_right ct__law_right : Value} {cd__law_right : Value} {od_law an_law : Option Addr} {sl_law : Array (Option Value)} {oc_law kV_law dc_law pm_law ct_law : Value} {cd_law : Value} {t_MOST_COUNTED : Tok} {t_MOST_DAYS : Tok} {t_MOST_STATIONS : Tok}
    (a_is_int : PySem.W.nsIn K mainGlobals "is_int" = some (some (.ref f_is_int))) (l_is_int : K.lookup f_is_int = some ⟨oc_is_int, od_is_int, .func (PySem.W.fnOf "is_int" "is_int" (defArgs s_is_int) (defBody s_is_int) (defScope s_is_int) .none kV_is_int dc_is_int pm_is_int an_is_int cd_is_int ct_is_int), sl_is_int⟩) (c_is_int : PySem.W.codeIn K cd_is_int "is_int" = true) (k_is_int : PySem.W.keepIn K (.ref f_is_int) = true)
    (a_in_range : PySem.W.nsIn K mainGlobals "in_range" = some (some (.ref f_in_range))) (l_in_range : K.lookup f_in_range = some ⟨oc_in_range, od_in_range, .func (PySem.W.fnOf "in_range" "in_range" (defArgs s_in_range) (defBody s_in_range) (defScope s_in_range) .none kV_in_range dc_in_range pm_in_range an_in_range cd_in_range ct_in_range), sl_in_range⟩) (c_in_range : PySem.W.codeIn K cd_in_range "in_range" = true) (k_in_range : PySem.W.keepIn K (.ref f_in_range) = true)
    (a_is_plant : PySem.W.nsIn K mainGlobals "is_plant" = some (some (.ref f_is_plant))) (l_is_plant : K.lookup f_is_plant = some ⟨oc_is_plant, od_is_plant, .func (PySem.W.fnOf "is_plant" "is_plant" (defArgs s_is_plant) (defBody s_is_plant) (defScope s_is_plant) .none kV_is_plant dc_is_plant pm_is_plant an_is_plant cd_is_plant ct_is_plant), sl_is_plant⟩) (c_is_plant : PySem.W.codeIn K cd_is_plant "is_plant" = true) (k_is_plant : PySem.W.keepIn K (.ref f_is_plant) = true)
    (a_require_plant : PySem.W.nsIn K mainGlobals "require_plant" = some (some (.ref f_require_plant))) (l_require_plant : K.lookup f_require_plant = some ⟨oc_require_plant, od_require_plant, .func (PySem.W.fnOf "require_plant" "require_plant" (defArgs s_require_plant) (defBody s_require_plant) (defScope s_require_plant) .none kV_require_plant dc_require_plant pm_require_plant an_require_plant cd_require_plant ct_require_plant), sl_require_plant⟩) (c_require_plant : PySem.W.codeIn K cd_require_plant "require_plant" = true) (k_require_plant : PySem.W.keepIn K (.ref f_require_plant) = true)
    (a_require_station : PySem.W.nsIn K mainGlobals "require_station" = some (some (.ref f_require_station))) (l_require_station : K.lookup f_require_station = some ⟨oc_require_station, od_require_station, .func (PySem.W.fnOf "require_station" "require_station" (defArgs s_require_station) (defBody s_require_station) (defScope s_require_station) .none kV_require_station dc_require_station pm_require_station an_require_station cd_require_station ct_require_station), sl_require_station⟩) (c_require_station : PySem.W.codeIn K cd_require_station "require_station" = true) (k_require_station : PySem.W.keepIn K (.ref f_require_station) = true)
    (a_supplier_lists : PySem.W.nsIn K mainGlobals "supplier_lists" = some (some (.ref f_supplier_lists))) (l_supplier_lists : K.lookup f_supplier_lists = some ⟨oc_supplier_lists, od_supplier_lists, .func (PySem.W.fnOf "supplier_lists" "supplier_lists" (defArgs s_supplier_lists) (defBody s_supplier_lists) (defScope s_supplier_lists) .none kV_supplier_lists dc_supplier_lists pm_supplier_lists an_supplier_lists cd_supplier_lists ct_supplier_lists), sl_supplier_lists⟩) (c_supplier_lists : PySem.W.codeIn K cd_supplier_lists "supplier_lists" = true) (k_supplier_lists : PySem.W.keepIn K (.ref f_supplier_lists) = true)
    (a_path_to_shop : PySem.W.nsIn K mainGlobals "path_to_shop" = some (some (.ref f_path_to_shop))) (l_path_to_shop : K.lookup f_path_to_shop = some ⟨oc_path_to_shop, od_path_to_shop, .func (PySem.W.fnOf "path_to_shop" "path_to_shop" (defArgs s_path_to_shop) (defBody s_path_to_shop) (defScope s_path_to_shop) .none kV_path_to_shop dc_path_to_shop pm_path_to_shop an_path_to_shop cd_path_to_shop ct_path_to_shop), sl_path_to_shop⟩) (c_path_to_shop : PySem.W.codeIn K cd_path_to_shop "path_to_shop" = true) (k_path_to_shop : PySem.W.keepIn K (.ref f_path_to_shop) = true)
    (a_require_days : PySem.W.nsIn K mainGlobals "require_days" = some (some (.ref f_require_days))) (l_require_days : K.lookup f_require_days = some ⟨oc_require_days, od_require_days, .func (PySem.W.fnOf "require_days" "require_days" (defArgs s_require_days) (defBody s_require_days) (defScope s_require_days) .none kV_require_days dc_require_days pm_require_days an_require_days cd_require_days ct_require_days), sl_require_days⟩) (c_require_days : PySem.W.codeIn K cd_require_days "require_days" = true) (k_require_days : PySem.W.keepIn K (.ref f_require_days) = true)
    (a_require_pattern : PySem.W.nsIn K mainGlobals "require_pattern" = some (some (.ref f_require_pattern))) (l_require_pattern : K.lookup f_require_pattern = some ⟨oc_require_pattern, od_require_pattern, .func (PySem.W.fnOf "require_pattern" "require_pattern" (defArgs s_require_pattern) (defBody s_require_pattern) (defScope s_require_pattern) .none kV_require_pattern dc_require_pattern pm_require_pattern an_require_pattern cd_require_pattern ct_require_pattern), sl_require_pattern⟩) (c_require_pattern : PySem.W.codeIn K cd_require_pattern "require_pattern" = true) (k_require_pattern : PySem.W.keepIn K (.ref f_require_pattern) = true)
    (a_last_chain : PySem.W.nsIn K mainGlobals "last_chain" = some (some (.ref f_last_chain))) (l_last_chain : K.lookup f_last_chain = some ⟨oc_last_chain, od_last_chain, .func (PySem.W.fnOf "last_chain" "last_chain" (defArgs s_last_chain) (defBody s_last_chain) (defScope s_last_chain) .none kV_last_chain dc_last_chain pm_last_chain an_last_chain cd_last_chain ct_last_chain), sl_last_chain⟩) (c_last_chain : PySem.W.codeIn K cd_last_chain "last_chain" = true) (k_last_chain : PySem.W.keepIn K (.ref f_last_chain) = true)
    (a_before_day : PySem.W.nsIn K mainGlobals "before_day" = some (some (.ref f_before_day))) (l_before_day : K.lookup f_before_day = some ⟨oc_before_day, od_before_day, .func (PySem.W.fnOf "before_day" "before_day" (defArgs s_before_day) (defBody s_before_day) (defScope s_before_day) .none kV_before_day dc_before_day pm_before_day an_before_day cd_before_day ct_before_day), sl_before_day⟩) (c_before_day : PySem.W.codeIn K cd_before_day "before_day" = true) (k_before_day : PySem.W.keepIn K (.ref f_before_day) = true)
    (a_count_before : PySem.W.nsIn K mainGlobals "count_before" = some (some (.ref f_count_before))) (l_count_before : K.lookup f_count_before = some ⟨oc_count_before, od_count_before, .func (PySem.W.fnOf "count_before" "count_before" (defArgs s_count_before) (defBody s_count_before) (defScope s_count_before) .none kV_count_before dc_count_before pm_count_before an_count_before cd_count_before ct_count_before), sl_count_before⟩) (c_count_before : PySem.W.codeIn K cd_count_before "count_before" = true) (k_count_before : PySem.W.keepIn K (.ref f_count_before) = true)
    (a__law_pot : PySem.W.nsIn K mainGlobals "_law_pot" = some (some (.ref f__law_pot))) (l__law_pot : K.lookup f__law_pot = some ⟨oc__law_pot, od__law_pot, .func (PySem.W.fnOf "_law_pot" "_law_pot" (defArgs s__law_pot) (defBody s__law_pot) (defScope s__law_pot) .none kV__law_pot dc__law_pot pm__law_pot an__law_pot cd__law_pot ct__law_pot), sl__law_pot⟩) (c__law_pot : PySem.W.codeIn K cd__law_pot "_law_pot" = true) (k__law_pot : PySem.W.keepIn K (.ref f__law_pot) = true)
    (a__law_draw : PySem.W.nsIn K mainGlobals "_law_draw" = some (some (.ref f__law_draw))) (l__law_draw : K.lookup f__law_draw = some ⟨oc__law_draw, od__law_draw, .func (PySem.W.fnOf "_law_draw" "_law_draw" (defArgs s__law_draw) (defBody s__law_draw) (defScope s__law_draw) .none kV__law_draw dc__law_draw pm__law_draw an__law_draw cd__law_draw ct__law_draw), sl__law_draw⟩) (c__law_draw : PySem.W.codeIn K cd__law_draw "_law_draw" = true) (k__law_draw : PySem.W.keepIn K (.ref f__law_draw) = true)
    (a__law_mixed : PySem.W.nsIn K mainGlobals "_law_mixed" = some (some (.ref f__law_mixed))) (l__law_mixed : K.lookup f__law_mixed = some ⟨oc__law_mixed, od__law_mixed, .func (PySem.W.fnOf "_law_mixed" "_law_mixed" (defArgs s__law_mixed) (defBody s__law_mixed) (defScope s__law_mixed) .none kV__law_mixed dc__law_mixed pm__law_mixed an__law_mixed cd__law_mixed ct__law_mixed), sl__law_mixed⟩) (c__law_mixed : PySem.W.codeIn K cd__law_mixed "_law_mixed" = true) (k__law_mixed : PySem.W.keepIn K (.ref f__law_mixed) = true)
    (a__law_plant : PySem.W.nsIn K mainGlobals "_law_plant" = some (some (.ref f__law_plant))) (l__law_plant : K.lookup f__law_plant = some ⟨oc__law_plant, od__law_plant, .func (PySem.W.fnOf "_law_plant" "_law_plant" (defArgs s__law_plant) (defBody s__law_plant) (defScope s__law_plant) .none kV__law_plant dc__law_plant pm__law_plant an__law_plant cd__law_plant ct__law_plant), sl__law_plant⟩) (c__law_plant : PySem.W.codeIn K cd__law_plant "_law_plant" = true) (k__law_plant : PySem.W.keepIn K (.ref f__law_plant) = true)
    (a__law_givers : PySem.W.nsIn K mainGlobals "_law_givers" = some (some (.ref f__law_givers))) (l__law_givers : K.lookup f__law_givers = some ⟨oc__law_givers, od__law_givers, .func (PySem.W.fnOf "_law_givers" "_law_givers" (defArgs s__law_givers) (defBody s__law_givers) (defScope s__law_givers) .none kV__law_givers dc__law_givers pm__law_givers an__law_givers cd__law_givers ct__law_givers), sl__law_givers⟩) (c__law_givers : PySem.W.codeIn K cd__law_givers "_law_givers" = true) (k__law_givers : PySem.W.keepIn K (.ref f__law_givers) = true)
    (a__law_day : PySem.W.nsIn K mainGlobals "_law_day" = some (some (.ref f__law_day))) (l__law_day : K.lookup f__law_day = some ⟨oc__law_day, od__law_day, .func (PySem.W.fnOf "_law_day" "_law_day" (defArgs s__law_day) (defBody s__law_day) (defScope s__law_day) .none kV__law_day dc__law_day pm__law_day an__law_day cd__law_day ct__law_day), sl__law_day⟩) (c__law_day : PySem.W.codeIn K cd__law_day "_law_day" = true) (k__law_day : PySem.W.keepIn K (.ref f__law_day) = true)
    (a__law_ranked : PySem.W.nsIn K mainGlobals "_law_ranked" = some (some (.ref f__law_ranked))) (l__law_ranked : K.lookup f__law_ranked = some ⟨oc__law_ranked, od__law_ranked, .func (PySem.W.fnOf "_law_ranked" "_law_ranked" (defArgs s__law_ranked) (defBody s__law_ranked) (defScope s__law_ranked) .none kV__law_ranked dc__law_ranked pm__law_ranked an__law_ranked cd__law_ranked ct__law_ranked), sl__law_ranked⟩) (c__law_ranked : PySem.W.codeIn K cd__law_ranked "_law_ranked" = true) (k__law_ranked : PySem.W.keepIn K (.ref f__law_ranked) = true)
    (a__law_all : PySem.W.nsIn K mainGlobals "_law_all" = some (some (.ref f__law_all))) (l__law_all : K.lookup f__law_all = some ⟨oc__law_all, od__law_all, .func (PySem.W.fnOf "_law_all" "_law_all" (defArgs s__law_all) (defBody s__law_all) (defScope s__law_all) .none kV__law_all dc__law_all pm__law_all an__law_all cd__law_all ct__law_all), sl__law_all⟩) (c__law_all : PySem.W.codeIn K cd__law_all "_law_all" = true) (k__law_all : PySem.W.keepIn K (.ref f__law_all) = true)
    (a__law_right : PySem.W.nsIn K mainGlobals "_law_right" = some (some (.ref f__law_right))) (l__law_right : K.lookup f__law_right = some ⟨oc__law_right, od__law_right, .func (PySem.W.fnOf "_law_right" "_law_right" (defArgs s__law_right) (defBody s__law_right) (defScope s__law_right) .none kV__law_right dc__law_right pm__law_right an__law_right cd__law_right ct__law_right), sl__law_right⟩) (c__law_right : PySem.W.codeIn K cd__law_right "_law_right" = true) (k__law_right : PySem.W.keepIn K (.ref f__law_right) = true)
    (a_law : PySem.W.nsIn K mainGlobals "law" = some (some (.ref f_law))) (l_law : K.lookup f_law = some ⟨oc_law, od_law, .func (PySem.W.fnOf "law" "law" (defArgs s_law) (defBody s_law) (defScope s_law) .none kV_law dc_law pm_law an_law cd_law ct_law), sl_law⟩) (c_law : PySem.W.codeIn K cd_law "law" = true) (k_law : PySem.W.keepIn K (.ref f_law) = true)
    (z_all : PySem.W.nsIn K mainGlobals "all" = some none)
    (z_any : PySem.W.nsIn K mainGlobals "any" = some none)
    (z_bool : PySem.W.nsIn K mainGlobals "bool" = some none)
    (z_dict : PySem.W.nsIn K mainGlobals "dict" = some none)
    (z_enumerate : PySem.W.nsIn K mainGlobals "enumerate" = some none)
    (z_int : PySem.W.nsIn K mainGlobals "int" = some none)
    (z_isinstance : PySem.W.nsIn K mainGlobals "isinstance" = some none)
    (z_len : PySem.W.nsIn K mainGlobals "len" = some none)
    (z_list : PySem.W.nsIn K mainGlobals "list" = some none)
    (z_max : PySem.W.nsIn K mainGlobals "max" = some none)
    (z_min : PySem.W.nsIn K mainGlobals "min" = some none)
    (z_range : PySem.W.nsIn K mainGlobals "range" = some none)
    (z_repr : PySem.W.nsIn K mainGlobals "repr" = some none)
    (z_sorted : PySem.W.nsIn K mainGlobals "sorted" = some none)
    (z_tuple : PySem.W.nsIn K mainGlobals "tuple" = some none)
    (z_zip : PySem.W.nsIn K mainGlobals "zip" = some none)
    (y_MOST_COUNTED : PySem.W.nsIn K mainGlobals "MOST_COUNTED" = some (some (.int 6 t_MOST_COUNTED)))
    (y_MOST_DAYS : PySem.W.nsIn K mainGlobals "MOST_DAYS" = some (some (.int 60 t_MOST_DAYS)))
    (y_MOST_STATIONS : PySem.W.nsIn K mainGlobals "MOST_STATIONS" = some (some (.int 40 t_MOST_STATIONS))) :
    HeadT l w K (L2N.CX l.prog w) 10 63 "script" mg fa h := by
  have e := hfa.symm.trans (PySem.W.mg_of X G a_law)
  cases e
  have M : Mg mg := ⟨PySem.W.mg_none_of X G z_all, PySem.W.mg_none_of X G z_any, PySem.W.mg_none_of X G z_bool, PySem.W.mg_none_of X G z_dict, PySem.W.mg_none_of X G z_enumerate, PySem.W.mg_none_of X G z_int, PySem.W.mg_none_of X G z_isinstance, PySem.W.mg_none_of X G z_len, PySem.W.mg_none_of X G z_list, PySem.W.mg_none_of X G z_max, PySem.W.mg_none_of X G z_min, PySem.W.mg_none_of X G z_range, PySem.W.mg_none_of X G z_repr, PySem.W.mg_none_of X G z_sorted, PySem.W.mg_none_of X G z_tuple, PySem.W.mg_none_of X G z_zip, ⟨_, PySem.W.mg_of X G y_MOST_COUNTED⟩, ⟨_, PySem.W.mg_of X G y_MOST_DAYS⟩, ⟨_, PySem.W.mg_of X G y_MOST_STATIONS⟩⟩
  refine head_mk (io := [0]) (cs := []) (PySem.W.fnOf "law" "law" (defArgs s_law) (defBody s_law) (defScope s_law) .none kV_law dc_law pm_law an_law cd_law ct_law) (fun s v => .of_eq rfl) (fun p hp => nomatch hp) fun base TBs => ?_
  have e_is_int : Fg l.prog w K mg base (List.map (fun p : Addr × Addr => p.2) []) 1 "is_int" 1 [] G_is_int := (ok_is_int (P := l.prog) (w := w) (base := base) (T := List.map (fun p : Addr × Addr => p.2) []) (fun_mk (st := s_is_int) l_is_int c_is_int k_is_int) (PySem.W.mg_of X G a_is_int) M).imp sp_is_int
  have e_in_range : Fg l.prog w K mg base (List.map (fun p : Addr × Addr => p.2) []) 2 "in_range" 3 [] G_in_range := (ok_in_range (P := l.prog) (w := w) (base := base) (T := List.map (fun p : Addr × Addr => p.2) []) (fun_mk (st := s_in_range) l_in_range c_in_range k_in_range) (PySem.W.mg_of X G a_in_range) M e_is_int).imp sp_in_range
  have e_is_plant : Fg l.prog w K mg base (List.map (fun p : Addr × Addr => p.2) []) 3 "is_plant" 1 [] G_is_plant := (ok_is_plant (P := l.prog) (w := w) (base := base) (T := List.map (fun p : Addr × Addr => p.2) []) (fun_mk (st := s_is_plant) l_is_plant c_is_plant k_is_plant) (PySem.W.mg_of X G a_is_plant) M e_in_range).imp sp_is_plant
  have e_require_plant : Fg l.prog w K mg base (List.map (fun p : Addr × Addr => p.2) []) 4 "require_plant" 1 [] G_require_plant := (ok_require_plant (P := l.prog) (w := w) (base := base) (T := List.map (fun p : Addr × Addr => p.2) []) (fun_mk (st := s_require_plant) l_require_plant c_require_plant k_require_plant) (PySem.W.mg_of X G a_require_plant) M e_is_plant).imp sp_require_plant
  have e_require_station : Fg l.prog w K mg base (List.map (fun p : Addr × Addr => p.2) []) 3 "require_station" 2 [] G_require_station := (ok_require_station (P := l.prog) (w := w) (base := base) (T := List.map (fun p : Addr × Addr => p.2) []) (fun_mk (st := s_require_station) l_require_station c_require_station k_require_station) (PySem.W.mg_of X G a_require_station) M e_in_range).imp sp_require_station
  have e_supplier_lists : Fg l.prog w K mg base (List.map (fun p : Addr × Addr => p.2) []) 1 "supplier_lists" 1 [] G_supplier_lists := (ok_supplier_lists (P := l.prog) (w := w) (base := base) (T := List.map (fun p : Addr × Addr => p.2) []) (fun_mk (st := s_supplier_lists) l_supplier_lists c_supplier_lists k_supplier_lists) (PySem.W.mg_of X G a_supplier_lists) M).imp sp_supplier_lists
  have e_path_to_shop : Fg l.prog w K mg base (List.map (fun p : Addr × Addr => p.2) []) 5 "path_to_shop" 2 [] G_path_to_shop := (ok_path_to_shop (P := l.prog) (w := w) (base := base) (T := List.map (fun p : Addr × Addr => p.2) []) (fun_mk (st := s_path_to_shop) l_path_to_shop c_path_to_shop k_path_to_shop) (PySem.W.mg_of X G a_path_to_shop) M e_require_plant e_require_station).imp sp_path_to_shop
  have e_require_days : Fg l.prog w K mg base (List.map (fun p : Addr × Addr => p.2) []) 3 "require_days" 3 [] G_require_days := (ok_require_days (P := l.prog) (w := w) (base := base) (T := List.map (fun p : Addr × Addr => p.2) []) (fun_mk (st := s_require_days) l_require_days c_require_days k_require_days) (PySem.W.mg_of X G a_require_days) M e_in_range).imp sp_require_days
  have e_require_pattern : Fg l.prog w K mg base (List.map (fun p : Addr × Addr => p.2) []) 3 "require_pattern" 2 [] G_require_pattern := (ok_require_pattern (P := l.prog) (w := w) (base := base) (T := List.map (fun p : Addr × Addr => p.2) []) (fun_mk (st := s_require_pattern) l_require_pattern c_require_pattern k_require_pattern) (PySem.W.mg_of X G a_require_pattern) M e_in_range).imp sp_require_pattern
  have e_last_chain : Fg l.prog w K mg base (List.map (fun p : Addr × Addr => p.2) []) 6 "last_chain" 2 [] G_last_chain := (ok_last_chain (P := l.prog) (w := w) (base := base) (T := List.map (fun p : Addr × Addr => p.2) []) (fun_mk (st := s_last_chain) l_last_chain c_last_chain k_last_chain) (PySem.W.mg_of X G a_last_chain) M e_path_to_shop e_supplier_lists).imp sp_last_chain
  have e_before_day : Fg l.prog w K mg base (List.map (fun p : Addr × Addr => p.2) []) 7 "before_day" 2 [] G_before_day := (ok_before_day (P := l.prog) (w := w) (base := base) (T := List.map (fun p : Addr × Addr => p.2) []) (fun_mk (st := s_before_day) l_before_day c_before_day k_before_day) (PySem.W.mg_of X G a_before_day) M e_last_chain).imp sp_before_day
  have e_count_before : Fg l.prog w K mg base (List.map (fun p : Addr × Addr => p.2) []) 8 "count_before" 3 [] G_count_before := (ok_count_before (P := l.prog) (w := w) (base := base) (T := List.map (fun p : Addr × Addr => p.2) []) (fun_mk (st := s_count_before) l_count_before c_count_before k_count_before) (PySem.W.mg_of X G a_count_before) M e_before_day e_require_days e_require_pattern e_require_plant).imp sp_count_before
  have e__law_pot : Fg l.prog w K mg base (List.map (fun p : Addr × Addr => p.2) []) 1 "_law_pot" 2 [0] G__law_pot := (ok__law_pot (P := l.prog) (w := w) (base := base) (T := List.map (fun p : Addr × Addr => p.2) []) (fun_mk (st := s__law_pot) l__law_pot c__law_pot k__law_pot) (PySem.W.mg_of X G a__law_pot) M).imp sp__law_pot
  have e__law_draw : Fg l.prog w K mg base (List.map (fun p : Addr × Addr => p.2) []) 1 "_law_draw" 2 [0] G__law_draw := (ok__law_draw (P := l.prog) (w := w) (base := base) (T := List.map (fun p : Addr × Addr => p.2) []) (fun_mk (st := s__law_draw) l__law_draw c__law_draw k__law_draw) (PySem.W.mg_of X G a__law_draw) M).imp sp__law_draw
  have e__law_mixed : Fg l.prog w K mg base (List.map (fun p : Addr × Addr => p.2) []) 2 "_law_mixed" 2 [0] G__law_mixed := (ok__law_mixed (P := l.prog) (w := w) (base := base) (T := List.map (fun p : Addr × Addr => p.2) []) (fun_mk (st := s__law_mixed) l__law_mixed c__law_mixed k__law_mixed) (PySem.W.mg_of X G a__law_mixed) M e__law_draw).imp sp__law_mixed
  have e__law_plant : Fg l.prog w K mg base (List.map (fun p : Addr × Addr => p.2) []) 2 "_law_plant" 2 [0] G__law_plant := (ok__law_plant (P := l.prog) (w := w) (base := base) (T := List.map (fun p : Addr × Addr => p.2) []) (fun_mk (st := s__law_plant) l__law_plant c__law_plant k__law_plant) (PySem.W.mg_of X G a__law_plant) M e__law_draw).imp sp__law_plant
  have e__law_givers : Fg l.prog w K mg base (List.map (fun p : Addr × Addr => p.2) []) 1 "_law_givers" 1 [] G__law_givers := (ok__law_givers (P := l.prog) (w := w) (base := base) (T := List.map (fun p : Addr × Addr => p.2) []) (fun_mk (st := s__law_givers) l__law_givers c__law_givers k__law_givers) (PySem.W.mg_of X G a__law_givers) M).imp sp__law_givers
  have e__law_day : Fg l.prog w K mg base (List.map (fun p : Addr × Addr => p.2) []) 1 "_law_day" 2 [] G__law_day := (ok__law_day (P := l.prog) (w := w) (base := base) (T := List.map (fun p : Addr × Addr => p.2) []) (fun_mk (st := s__law_day) l__law_day c__law_day k__law_day) (PySem.W.mg_of X G a__law_day) M).imp sp__law_day
  have e__law_ranked : Fg l.prog w K mg base (List.map (fun p : Addr × Addr => p.2) []) 1 "_law_ranked" 1 [] G__law_ranked := (ok__law_ranked (P := l.prog) (w := w) (base := base) (T := List.map (fun p : Addr × Addr => p.2) []) (fun_mk (st := s__law_ranked) l__law_ranked c__law_ranked k__law_ranked) (PySem.W.mg_of X G a__law_ranked) M).imp sp__law_ranked
  have e__law_all : Fg l.prog w K mg base (List.map (fun p : Addr × Addr => p.2) []) 1 "_law_all" 1 [] G__law_all := (ok__law_all (P := l.prog) (w := w) (base := base) (T := List.map (fun p : Addr × Addr => p.2) []) (fun_mk (st := s__law_all) l__law_all c__law_all k__law_all) (PySem.W.mg_of X G a__law_all) M).imp sp__law_all
  have e__law_right : Fg l.prog w K mg base (List.map (fun p : Addr × Addr => p.2) []) 9 "_law_right" 1 [0] G__law_right := (ok__law_right (P := l.prog) (w := w) (base := base) (T := List.map (fun p : Addr × Addr => p.2) []) (fun_mk (st := s__law_right) l__law_right c__law_right k__law_right) (PySem.W.mg_of X G a__law_right) M e__law_all e__law_day e__law_draw e__law_givers e__law_mixed e__law_plant e__law_ranked e_count_before).imp sp__law_right
  exact fn_imp (ok_law (fun_mk (st := s_law) l_law c_law k_law) M e__law_pot e__law_right e_count_before) sp_law
end K38
open PySem PySem.W PyProof.Rows
set_option maxHeartbeats 0 in
theorem PySem.Challenge.cw_pulltree_k38_patterns_many_days_before_holds : PySem.Challenge.rw_pulltree_k38_patterns_many_days_before.Holds := by
  w_on; o_law; k_head; (case hw => w_witness2)
  k_fill
  refine Pt.g_walkT (l := PySem.Challenge.rw_pulltree_k38_patterns_many_days_before) (n := 63) (k := 10) (x := "script") (CX := fun w => L2N.CX PySem.Challenge.rw_pulltree_k38_patterns_many_days_before.prog w) rfl (by decide) rfl ⟨rfl, by decide, by decide⟩ (fun w h Y => PySem.W.kIn_of Y) ?F (fun _ _ _ _ _ h => Pt.law_cx h)
  case F =>
    intro w mg fa h KX G hmg TF
    refine' K38.all_mk KX G hmg TF ?a_is_int ?l_is_int ?c_is_int ?k_is_int ?a_in_range ?l_in_range ?c_in_range ?k_in_range ?a_is_plant ?l_is_plant ?c_is_plant ?k_is_plant ?a_require_plant ?l_require_plant ?c_require_plant ?k_require_plant ?a_require_station ?l_require_station ?c_require_station ?k_require_station ?a_supplier_lists ?l_supplier_lists ?c_supplier_lists ?k_supplier_lists ?a_path_to_shop ?l_path_to_shop ?c_path_to_shop ?k_path_to_shop ?a_require_days ?l_require_days ?c_require_days ?k_require_days ?a_require_pattern ?l_require_pattern ?c_require_pattern ?k_require_pattern ?a_last_chain ?l_last_chain ?c_last_chain ?k_last_chain ?a_before_day ?l_before_day ?c_before_day ?k_before_day ?a_count_before ?l_count_before ?c_count_before ?k_count_before ?a__law_pot ?l__law_pot ?c__law_pot ?k__law_pot ?a__law_draw ?l__law_draw ?c__law_draw ?k__law_draw ?a__law_mixed ?l__law_mixed ?c__law_mixed ?k__law_mixed ?a__law_plant ?l__law_plant ?c__law_plant ?k__law_plant ?a__law_givers ?l__law_givers ?c__law_givers ?k__law_givers ?a__law_day ?l__law_day ?c__law_day ?k__law_day ?a__law_ranked ?l__law_ranked ?c__law_ranked ?k__law_ranked ?a__law_all ?l__law_all ?c__law_all ?k__law_all ?a__law_right ?l__law_right ?c__law_right ?k__law_right ?a_law ?l_law ?c_law ?k_law ?z_all ?z_any ?z_bool ?z_dict ?z_enumerate ?z_int ?z_isinstance ?z_len ?z_list ?z_max ?z_min ?z_range ?z_repr ?z_sorted ?z_tuple ?z_zip ?y_MOST_COUNTED ?y_MOST_DAYS ?y_MOST_STATIONS
    (case a_is_int => k_is); (case l_is_int => k_is); (case c_is_int => k_is); (case k_is_int => k_is); (case a_in_range => k_is); (case l_in_range => k_is); (case c_in_range => k_is); (case k_in_range => k_is); (case a_is_plant => k_is); (case l_is_plant => k_is); (case c_is_plant => k_is); (case k_is_plant => k_is); (case a_require_plant => k_is); (case l_require_plant => k_is); (case c_require_plant => k_is); (case k_require_plant => k_is); (case a_require_station => k_is); (case l_require_station => k_is); (case c_require_station => k_is); (case k_require_station => k_is); (case a_supplier_lists => k_is); (case l_supplier_lists => k_is); (case c_supplier_lists => k_is); (case k_supplier_lists => k_is); (case a_path_to_shop => k_is); (case l_path_to_shop => k_is); (case c_path_to_shop => k_is); (case k_path_to_shop => k_is); (case a_require_days => k_is); (case l_require_days => k_is); (case c_require_days => k_is); (case k_require_days => k_is); (case a_require_pattern => k_is); (case l_require_pattern => k_is); (case c_require_pattern => k_is); (case k_require_pattern => k_is); (case a_last_chain => k_is); (case l_last_chain => k_is); (case c_last_chain => k_is); (case k_last_chain => k_is); (case a_before_day => k_is); (case l_before_day => k_is); (case c_before_day => k_is); (case k_before_day => k_is); (case a_count_before => k_is); (case l_count_before => k_is); (case c_count_before => k_is); (case k_count_before => k_is); (case a__law_pot => k_is); (case l__law_pot => k_is); (case c__law_pot => k_is); (case k__law_pot => k_is); (case a__law_draw => k_is); (case l__law_draw => k_is); (case c__law_draw => k_is); (case k__law_draw => k_is); (case a__law_mixed => k_is); (case l__law_mixed => k_is); (case c__law_mixed => k_is); (case k__law_mixed => k_is); (case a__law_plant => k_is); (case l__law_plant => k_is); (case c__law_plant => k_is); (case k__law_plant => k_is); (case a__law_givers => k_is); (case l__law_givers => k_is); (case c__law_givers => k_is); (case k__law_givers => k_is); (case a__law_day => k_is); (case l__law_day => k_is); (case c__law_day => k_is); (case k__law_day => k_is); (case a__law_ranked => k_is); (case l__law_ranked => k_is); (case c__law_ranked => k_is); (case k__law_ranked => k_is); (case a__law_all => k_is); (case l__law_all => k_is); (case c__law_all => k_is); (case k__law_all => k_is); (case a__law_right => k_is); (case l__law_right => k_is); (case c__law_right => k_is); (case k__law_right => k_is); (case a_law => k_is); (case l_law => k_is); (case c_law => k_is); (case k_law => k_is); (case z_all => k_is); (case z_any => k_is); (case z_bool => k_is); (case z_dict => k_is); (case z_enumerate => k_is); (case z_int => k_is); (case z_isinstance => k_is); (case z_len => k_is); (case z_list => k_is); (case z_max => k_is); (case z_min => k_is); (case z_range => k_is); (case z_repr => k_is); (case z_sorted => k_is); (case z_tuple => k_is); (case z_zip => k_is); (case y_MOST_COUNTED => k_is); (case y_MOST_DAYS => k_is); (case y_MOST_STATIONS => k_is)
