import PyProof.Rows.All
import Wide.All
import OpenK.AllK
import Wide.FinOn
import HandS.ForMost
import HandS.Lambda
import HandS.EndTab
import HandS.ForExc
import HandS.ExcCtx
import KE.GoesEnum
import HandS.Wide
import HandS.TupAny
import HandS.TupMul
import HandS.Style
import HandS.IsInst
import HandS.Conv
import HandS.SortInts
import HandS.RaiseMore
import PyProof.ReprRoads
import KE.SortData
import KE.SortKeyHeap
import KE.DataMinMax
import HandS.DictComp
import HandS.SetFor
import HandS.Zip
import HandS.TupSets
import HandS.Deep
import HandS.Strs
import KE.IntBitsLaws
import HandS.Iter
import HandS.Small
import HandS.WideBits
import HandS.Rev
import HandS.RevTup
import HandS.IterVal
import HandS.Nested
import HandS.SortKw
import HandS.ExcValue
import HandS.WideMore
import HandS.MakeKwOnly
import HandS.ExcIs
import HandS.TryOnly
import KE.KExcIs
import PySem.Challenge.RW_pulltree_k13_words_of_stocks
set_option Elab.async false
set_option linter.all false
set_option maxRecDepth 100000
set_option maxHeartbeats 4000000
set_option autoImplicit false
namespace Pt
open PySem PySem.Spec L2
inductive O where
  | fz (f : PyData)
  | ol (xs : List O)
  | ot (xs : List O)
  | od (kvs : List (Key × O))
  | oi (cn : Str) (fs : List (Str × O))
  | scr (ns : List Int)
  | lf (ds : List PyData)
  | df (kvs : List (Key × PyData))
  | tn (ds : List PyData)
  | dl (kvs : List (Key × PyData))
  | dt (kvs : List (List Key × PyData))
  | dq (kvs : List (List Int × PyData))
  | dn (vt : Bool) (kvs : List (List Int × PyData))
  | dz (vt : Bool) (kvs : List (List Int × PyData))
  | fo (cn : Str) (gs : List (Str × PyData))
  | fl (xs : List O)
  | al (q : Addr)
  | lb (q : Addr) (x : O)
  | exn (cn : Str) (fs : List (Str × PyData))
  | hid
def clsA (K : PySem.W.Frag) (cn : Str) (C : Addr) : Prop := PySem.W.nsIn K mainGlobals cn = some (some (.ref C))
def kD : Key → PyData
  | .inl i => .int i
  | .inr x => .str x
def mkL (bs : List Bool) (ds : List PyData) : PyData := .dict [(.none, .tuple [.list (bs.map PyData.bool), .list ds])]
section
variable (K : PySem.W.Frag)
def ND (B : Hp) (a : Addr) : Prop := (∃ o vs, B a = some (.frz o (.tup vs)) ∧ o.dict = none) ∨ ∃ o, K.lookup a = some o ∧ o.cls = .type "tuple" ∧ o.dict = none
def NDs (B : Hp) (bs : List Bool) (vs : List V) : Prop := ∀ i : Nat, bs[i]? = some true → ∃ b, vs[i]? = some (V.ref b) ∧ ND K B b
mutual
inductive RF (B : Hp) : V → PyData → Prop
  | non : RF B .non .none
  | bl (b : Bool) : RF B (.bl b) (.bool b)
  | int (i : Int) : RF B (.int i) (.int i)
  | str (x : Str) : RF B (.str x) (.str x)
  | lst {a : Addr} {vs : List V} {ds : List PyData} : B a = some (.lst vs) → RFs B vs ds → RF B (.ref a) (.list ds)
  | tup {a : Addr} {vs : List V} {ds : List PyData} : SqT K B a vs → RFs B vs ds → RF B (.ref a) (.tuple ds)
  | dic {a : Addr} {kvs : List (Key × V)} {ds : List (PyData × PyData)} : B a = some (.dK kvs) → RFd B kvs ds → RF B (.ref a) (.dict ds)
  | lm {a : Addr} {vs : List V} {bs : List Bool} {ds : List PyData} : B a = some (.lst vs) → NDs K B bs vs → RFs B vs ds → RF B (.ref a) (mkL bs ds)
inductive RFs (B : Hp) : List V → List PyData → Prop
  | nil : RFs B [] []
  | cons {v : V} {vs : List V} {d : PyData} {ds : List PyData} : RF B v d → RFs B vs ds → RFs B (v :: vs) (d :: ds)
inductive RFd (B : Hp) : List (Key × V) → List (PyData × PyData) → Prop
  | nil : RFd B [] []
  | cons {k : Key} {v : V} {kvs : List (Key × V)} {d : PyData} {ds : List (PyData × PyData)} : RF B v d → RFd B kvs ds → RFd B ((k, v) :: kvs) ((kD k, d) :: ds)
end
def XOk (B : Hp) (C : Addr) (fs : List (Str × PyData)) (oe : Obj) : Prop := oe.cls = .ref C ∧ (∃ vs, oe.data = .fields vs) ∧ ((fs = [] ∧ oe.dict = none) ∨ ∃ (dd : Addr) (vs : List (Str × V)), oe.dict = some dd ∧ B dd = some (.xd vs) ∧ vs.map (·.1) = fs.map (·.1) ∧ RFs K B (vs.map (·.2)) (fs.map (·.2)))
def hI (k : List Int) : Int := PySem.reduceHash (PySem.Builtin.Tuple.tupleHashOf (k.map PySem.hashInt))
def dqF (a : Addr) (xs : List (List Int × Addr × Value)) : Heap → Prop := fun h => (a == sysModules) = false ∧ ∃ o es ep, h.get? a = some o ∧ o.ExactDict ∧ o.data = Data.dict es ep ∧ es.toList = xs.map fun x => { hash := hI x.1, key := .ref x.2.1, val := x.2.2 }
inductive DqE (B : Hp) : List (List Int × Addr × Value) → List (List Int × PyData) → Prop
  | nil : DqE B [] []
  | cons {k : List Int} {q : Addr} {u : Value} {v : V} {d : PyData} {xs : List (List Int × Addr × Value)} {ds : List (List Int × PyData)} : SqT K B q (k.map V.int) → RelV v u → RF K B v d → DqE B xs ds → DqE B ((k, q, u) :: xs) ((k, d) :: ds)
def dqP (a : Addr) (ep : Nat) (xs : List (List Int × Addr × Value)) : Heap → Prop := fun h => (a == sysModules) = false ∧ ∃ o es, h.get? a = some o ∧ o.ExactDict ∧ o.data = Data.dict es ep ∧ es.toList = xs.map fun x => { hash := hI x.1, key := .ref x.2.1, val := x.2.2 }
def NdE (B : Hp) (vt : Bool) (xs : List (List Int × Addr × Value)) : Prop := ∀ x ∈ xs, ND K B x.2.1 ∧ (vt = true → ∃ b, x.2.2 = .ref b ∧ ND K B b)
mutual
inductive RO (B H : Hp) : V → O → List Addr → Prop
  | fz {v : V} {f : PyData} : RF K B v f → RO B H v (.fz f) []
  | hid {v : V} : RO B H v .hid []
  | tn {a : Addr} {vs : List V} {ds : List PyData} : SqT K B a vs → ND K B a → RFs K B vs ds → RO B H (.ref a) (.tn ds) []
  | dl {a : Addr} {o : Obj} {kvs : List (Key × V)} {ds : List (Key × PyData)} : B a = some (.frz o (.dK kvs)) → kvs.map (·.1) = ds.map (·.1) → RFs K B (kvs.map (·.2)) (ds.map (·.2)) → RO B H (.ref a) (.dl ds) []
  | scr {a : Addr} {ns : List Int} : SqL K B a (ns.map V.int) → RO B H (.ref a) (.scr ns) []
  | lf {a : Addr} {vs : List V} {ds : List PyData} : H a = some (.lst vs) → RFs K B vs ds → RO B H (.ref a) (.lf ds) [a]
  | df {a : Addr} {kvs : List (Key × V)} {ds : List (Key × PyData)} : H a = some (.dK kvs) → kvs.map (·.1) = ds.map (·.1) → RFs K B (kvs.map (·.2)) (ds.map (·.2)) → RO B H (.ref a) (.df ds) [a]
  | dt {a : Addr} {kvs : List (List Key × V)} {ds : List (List Key × PyData)} : H a = some (.dT kvs) → kvs.map (·.1) = ds.map (·.1) → RFs K B (kvs.map (·.2)) (ds.map (·.2)) → RO B H (.ref a) (.dt ds) [a]
  | dq {a : Addr} {xs : List (List Int × Addr × Value)} {ds : List (List Int × PyData)} : H a = some (.ext (dqF a xs)) → DqE K B xs ds → (ds.map (·.1)).Nodup → RO B H (.ref a) (.dq ds) [a]
  | dn {a : Addr} {ep : Nat} {xs : List (List Int × Addr × Value)} {vt : Bool} {ds : List (List Int × PyData)} : H a = some (.ext (dqP a ep xs)) → DqE K B xs ds → NdE K B vt xs → (ds.map (·.1)).Nodup → RO B H (.ref a) (.dn vt ds) [a]
  | dz {a : Addr} {ep : Nat} {xs : List (List Int × Addr × Value)} {vt : Bool} {ds : List (List Int × PyData)} : B a = some (.ext (dqP a ep xs)) → DqE K B xs ds → NdE K B vt xs → (ds.map (·.1)).Nodup → RO B H (.ref a) (.dz vt ds) []
  | ol {a : Addr} {vs : List V} {xs : List O} {fp : List Addr} : H a = some (.lst vs) → ROs B H vs xs fp → RO B H (.ref a) (.ol xs) (a :: fp)
  | ot {a : Addr} {vs : List V} {xs : List O} {fp : List Addr} : B a = some (.tup vs) → ROs B H vs xs fp → RO B H (.ref a) (.ot xs) fp
  | od {a : Addr} {kvs : List (Key × V)} {ds : List (Key × O)} {fp : List Addr} : H a = some (.dK kvs) → kvs.map (·.1) = ds.map (·.1) → ROs B H (kvs.map (·.2)) (ds.map (·.2)) fp → RO B H (.ref a) (.od ds) (a :: fp)
  | exn {a C : Addr} {oe : Obj} {cn : Str} {fs : List (Str × PyData)} : clsA K cn C → B a = some (.frz oe (.own a)) → XOk K B C fs oe → RO B H (.ref a) (.exn cn fs) []
  | oi {a C dx : Addr} {cn : Str} {fs : List (Str × V)} {gs : List (Str × O)} {fp : List Addr} : clsA K cn C → H a = some (.ins C dx fs) → fs.map (·.1) = gs.map (·.1) → ROs B H (fs.map (·.2)) (gs.map (·.2)) fp → RO B H (.ref a) (.oi cn gs) (a :: fp)
  | fo {a C dx : Addr} {cn : Str} {fs : List (Str × V)} {gs : List (Str × PyData)} : clsA K cn C → B a = some (.ins C dx fs) → fs.map (·.1) = gs.map (·.1) → RFs K B (fs.map (·.2)) (gs.map (·.2)) → RO B H (.ref a) (.fo cn gs) []
  | fl {a : Addr} {vs : List V} {xs : List O} {fp : List Addr} : B a = some (.lst vs) → ROs B H vs xs fp → RO B H (.ref a) (.fl xs) fp
  | al {a : Addr} : RO B H (.ref a) (.al a) []
  | lb {a : Addr} {x : O} {fp : List Addr} : RO B H (.ref a) x fp → RO B H (.ref a) (.lb a x) fp
inductive ROs (B H : Hp) : List V → List O → List Addr → Prop
  | nil : ROs B H [] [] []
  | cons {v : V} {vs : List V} {x : O} {xs : List O} {f1 f2 : List Addr} : RO B H v x f1 → ROs B H vs xs f2 → ROs B H (v :: vs) (x :: xs) (f1 ++ f2)
end
end
def NT (o : HO) : Prop := ∀ ps, o ≠ .tbl ps
def q0 : Str := "word_table.<locals>.<lambda>"
def Pl (o : HO) : Prop := NT o ∧ ∀ c, o ≠ LamX.CodeO c q0
theorem pl_lst {vs : List V} : Pl (.lst vs) := ⟨(fun _ h => nomatch h), (fun _ h => by unfold LamX.CodeO at h; cases h)⟩
theorem pl_tup {vs : List V} : Pl (.tup vs) := ⟨(fun _ h => nomatch h), (fun _ h => by unfold LamX.CodeO at h; cases h)⟩
theorem pl_dK {kvs : List (Key × V)} : Pl (.dK kvs) := ⟨(fun _ h => nomatch h), (fun _ h => by unfold LamX.CodeO at h; cases h)⟩
theorem pl_dT {kvs : List (List Key × V)} : Pl (.dT kvs) := ⟨(fun _ h => nomatch h), (fun _ h => by unfold LamX.CodeO at h; cases h)⟩
theorem pl_frz {ob : Obj} {o : HO} : Pl (.frz ob o) := ⟨(fun _ h => nomatch h), (fun _ h => by unfold LamX.CodeO at h; cases h)⟩
theorem pl_ins {C dx : Addr} {fs : List (Str × V)} : Pl (.ins C dx fs) := ⟨(fun _ h => nomatch h), (fun _ h => by unfold LamX.CodeO at h; cases h)⟩
def cdF (c : Addr) (q : Str) : Heap → Prop := fun h => ∃ oc vs t, h.get? c = some oc ∧ oc.data = PySem.Data.fields vs ∧ vs[1]? = some (PySem.Value.str q t)
theorem pl_dq {a : Addr} {xs : List (List Int × Addr × Value)} : Pl (.ext (dqF a xs)) := ⟨(fun _ h => nomatch h), fun c h => by
  unfold LamX.CodeO at h
  have e : dqF a xs = cdF c q0 := by injection h
  have e2 := congrFun e ⟨(List.replicate (c + 1) { cls := .none, data := .fields #[.none, .str q0 default] }).toArray, {}⟩
  have h1 : cdF c q0 ⟨(List.replicate (c + 1) { cls := .none, data := .fields #[.none, .str q0 default] }).toArray, {}⟩ := by
    refine ⟨{ cls := .none, data := .fields #[.none, .str q0 default] }, #[.none, .str q0 default], default, ?_, rfl, rfl⟩
    simp [Heap.get?, List.getElem?_replicate]
  rw [← e2] at h1
  obtain ⟨_, o, es, ep, h2, _, h3, _⟩ := h1
  have h4 : ∀ o, (Heap.mk (List.replicate (c + 1) { cls := .none, data := .fields #[.none, .str q0 default] }).toArray {}).get? a = some o → o.data = .fields #[.none, .str q0 default] := by
    intro o ho
    unfold Heap.get? at ho
    split at ho
    · cases ho
    · simp [List.getElem?_replicate, Array.getElem?_replicate] at ho
      rw [← ho.2]
      rfl
  rw [h4 _ h2] at h3
  cases h3⟩
theorem pl_dqP {a : Addr} {ep : Nat} {xs : List (List Int × Addr × Value)} : Pl (.ext (dqP a ep xs)) := ⟨(fun _ h => nomatch h), fun c h => by
  unfold LamX.CodeO at h
  have e : dqP a ep xs = cdF c q0 := by injection h
  have e2 := congrFun e ⟨(List.replicate (c + 1) { cls := .none, data := .fields #[.none, .str q0 default] }).toArray, {}⟩
  have h1 : cdF c q0 ⟨(List.replicate (c + 1) { cls := .none, data := .fields #[.none, .str q0 default] }).toArray, {}⟩ := by
    refine ⟨{ cls := .none, data := .fields #[.none, .str q0 default] }, #[.none, .str q0 default], default, ?_, rfl, rfl⟩
    simp [Heap.get?, List.getElem?_replicate]
  rw [← e2] at h1
  obtain ⟨_, o, es, h2, _, h3, _⟩ := h1
  have h4 : ∀ o, (Heap.mk (List.replicate (c + 1) { cls := .none, data := .fields #[.none, .str q0 default] }).toArray {}).get? a = some o → o.data = .fields #[.none, .str q0 default] := by
    intro o ho
    unfold Heap.get? at ho
    split at ho
    · cases ho
    · simp [List.getElem?_replicate, Array.getElem?_replicate] at ho
      rw [← ho.2]
      rfl
  rw [h4 _ h2] at h3
  cases h3⟩
def NTB (B : Hp) : Prop := ∀ a o, B a = some o → NT o
def TbK (H H' : Hp) : Prop := ∀ P, LamX.TabS H P q0 → LamX.TabS H' P q0
def Sub (B B' : Hp) : Prop := ∀ a o, B a = some o → B' a = some o
theorem Sub.refl (B : Hp) : Sub B B := fun _ _ h => h
theorem Sub.trans {B B1 B2 : Hp} (a : Sub B B1) (b : Sub B1 B2) : Sub B B2 := fun x o h => b x o (a x o h)
section
variable {K : PySem.W.Frag} {B B' H H' : Hp}
theorem Sub.sqT (h : Sub B B') {a : Addr} {vs : List V} (x : SqT K B a vs) : SqT K B' a vs := by
  rcases x with (x | ⟨o, x⟩) | x
  · exact .inl (.inl (h _ _ x))
  · exact .inl (.inr ⟨o, h _ _ x⟩)
  · exact .inr x
theorem Sub.sqL (h : Sub B B') {a : Addr} {vs : List V} (x : SqL K B a vs) : SqL K B' a vs := by
  rcases x with (x | ⟨o, x⟩) | x
  · exact .inl (.inl (h _ _ x))
  · exact .inl (.inr ⟨o, h _ _ x⟩)
  · exact .inr x
theorem ND.mono (h : Sub B B') {a : Addr} (d : ND K B a) : ND K B' a := by
  rcases d with ⟨o, vs, e, z⟩ | z
  · exact .inl ⟨o, vs, h _ _ e, z⟩
  · exact .inr z
theorem NDs.mono (h : Sub B B') {bs : List Bool} {vs : List V} (d : NDs K B bs vs) : NDs K B' bs vs := fun i e => by
  obtain ⟨b, e1, e2⟩ := d i e
  exact ⟨b, e1, e2.mono h⟩
mutual
theorem RF.mono (h : Sub B B') : ∀ {d : PyData} {v : V}, RF K B v d → RF K B' v d
  | _, _, .non => .non
  | _, _, .bl b => .bl b
  | _, _, .int i => .int i
  | _, _, .str x => .str x
  | _, _, .lst e r => .lst (h _ _ e) (RFs.mono h r)
  | _, _, .tup e r => .tup (h.sqT e) (RFs.mono h r)
  | _, _, .dic e r => .dic (h _ _ e) (RFd.mono h r)
  | _, _, .lm e d r => .lm (h _ _ e) (d.mono h) (RFs.mono h r)
theorem RFs.mono (h : Sub B B') : ∀ {ds : List PyData} {vs : List V}, RFs K B vs ds → RFs K B' vs ds
  | _, _, .nil => .nil
  | _, _, .cons r s => .cons (RF.mono h r) (RFs.mono h s)
theorem RFd.mono (h : Sub B B') : ∀ {ds : List (PyData × PyData)} {vs : List (Key × V)}, RFd K B vs ds → RFd K B' vs ds
  | _, _, .nil => .nil
  | _, _, .cons r s => .cons (RF.mono h r) (RFd.mono h s)
end
theorem XOk.mono (h : Sub B B') {C : Addr} {fs : List (Str × PyData)} {oe : Obj} (x : XOk K B C fs oe) : XOk K B' C fs oe := by
  obtain ⟨h1, h2, h3⟩ := x
  refine ⟨h1, h2, ?_⟩
  rcases h3 with h3 | ⟨dd, vs, e1, e2, e3, e4⟩
  · exact .inl h3
  · exact .inr ⟨dd, vs, e1, h _ _ e2, e3, e4.mono h⟩
theorem DqE.mono (h : Sub B B') : ∀ {xs : List (List Int × Addr × Value)} {ds : List (List Int × PyData)}, DqE K B xs ds → DqE K B' xs ds
  | _, _, .nil => .nil
  | _, _, .cons e r f t => .cons (h.sqT e) r (f.mono h) (t.mono h)
theorem NdE.mono (h : Sub B B') {vt : Bool} {xs : List (List Int × Addr × Value)} (d : NdE K B vt xs) : NdE K B' vt xs := fun x hx => ⟨(d x hx).1.mono h, fun z => let ⟨b, e, n⟩ := (d x hx).2 z; ⟨b, e, n.mono h⟩⟩
mutual
theorem RO.next (h : Sub B B') : ∀ {x : O} {v : V} {fp : List Addr}, RO K B H v x fp → (∀ a ∈ fp, ∀ o, H a = some o → NT o → H' a = some o) → RO K B' H' v x fp
  | _, _, _, .fz r, _ => .fz (r.mono h)
  | _, _, _, .hid, _ => .hid
  | _, _, _, .tn e d r, _ => .tn (h.sqT e) (d.mono h) (r.mono h)
  | _, _, _, .dl e q r, _ => .dl (h _ _ e) q (r.mono h)
  | _, _, _, .scr e, _ => .scr (h.sqL e)
  | _, _, _, .lf e r, k => .lf (k _ (List.mem_cons_self ..) _ e pl_lst.1) (r.mono h)
  | _, _, _, .df e q r, k => .df (k _ (List.mem_cons_self ..) _ e pl_dK.1) q (r.mono h)
  | _, _, _, .dt e q r, k => .dt (k _ (List.mem_cons_self ..) _ e pl_dT.1) q (r.mono h)
  | _, _, _, .dq e q r, k => .dq (k _ (List.mem_cons_self ..) _ e pl_dq.1) (q.mono h) r
  | _, _, _, .dn e q d r, k => .dn (k _ (List.mem_cons_self ..) _ e pl_dqP.1) (q.mono h) (d.mono h) r
  | _, _, _, .dz e q d r, k => .dz (h _ _ e) (q.mono h) (d.mono h) r
  | _, _, _, .fo n e q r, _ => .fo n (h _ _ e) q (r.mono h)
  | _, _, _, .fl e r, k => .fl (h _ _ e) (ROs.next h r k)
  | _, _, _, .al, _ => .al
  | _, _, _, .lb r, k => .lb (RO.next h r k)
  | _, _, _, .ol e r, k => .ol (k _ (List.mem_cons_self ..) _ e pl_lst.1) (ROs.next h r fun a ha => k a (List.mem_cons_of_mem _ ha))
  | _, _, _, .ot e r, k => .ot (h _ _ e) (ROs.next h r k)
  | _, _, _, .od e q r, k => .od (k _ (List.mem_cons_self ..) _ e pl_dK.1) q (ROs.next h r fun a ha => k a (List.mem_cons_of_mem _ ha))
  | _, _, _, .exn n e x, _ => .exn n (h _ _ e) (x.mono h)
  | _, _, _, .oi n e q r, k => .oi n (k _ (List.mem_cons_self ..) _ e pl_ins.1) q (ROs.next h r fun a ha => k a (List.mem_cons_of_mem _ ha))
theorem ROs.next (h : Sub B B') : ∀ {xs : List O} {vs : List V} {fp : List Addr}, ROs K B H vs xs fp → (∀ a ∈ fp, ∀ o, H a = some o → NT o → H' a = some o) → ROs K B' H' vs xs fp
  | _, _, _, .nil, _ => .nil
  | _, _, _, .cons r s, k => .cons (RO.next h r fun a ha => k a (List.mem_append_left _ ha)) (ROs.next h s fun a ha => k a (List.mem_append_right _ ha))
end
mutual
theorem RO.live : ∀ {x : O} {v : V} {fp : List Addr}, RO K B H v x fp → ∀ a ∈ fp, ∃ o, H a = some o
  | _, _, _, .fz _, a, ha => by cases ha
  | _, _, _, .hid, a, ha => by cases ha
  | _, _, _, .tn _ _ _, a, ha => by cases ha
  | _, _, _, .dl _ _ _, a, ha => by cases ha
  | _, _, _, .scr _, a, ha => by cases ha
  | _, _, _, .lf e _, a, ha => by rw [List.mem_singleton.mp ha]; exact ⟨_, e⟩
  | _, _, _, .df e _ _, a, ha => by rw [List.mem_singleton.mp ha]; exact ⟨_, e⟩
  | _, _, _, .dt e _ _, a, ha => by rw [List.mem_singleton.mp ha]; exact ⟨_, e⟩
  | _, _, _, .dq e _ _, a, ha => by rw [List.mem_singleton.mp ha]; exact ⟨_, e⟩
  | _, _, _, .dn e _ _ _, a, ha => by rw [List.mem_singleton.mp ha]; exact ⟨_, e⟩
  | _, _, _, .dz _ _ _ _, a, ha => by cases ha
  | _, _, _, .fo _ _ _ _, a, ha => by cases ha
  | _, _, _, .fl e r, a, ha => ROs.live r a ha
  | _, _, _, .al, a, ha => by cases ha
  | _, _, _, .lb r, a, ha => RO.live r a ha
  | _, _, _, .ol e r, a, ha => by
    rcases List.mem_cons.mp ha with rfl | ha
    · exact ⟨_, e⟩
    · exact ROs.live r a ha
  | _, _, _, .ot e r, a, ha => ROs.live r a ha
  | _, _, _, .od e q r, a, ha => by
    rcases List.mem_cons.mp ha with rfl | ha
    · exact ⟨_, e⟩
    · exact ROs.live r a ha
  | _, _, _, .exn _ _ _, a, ha => by cases ha
  | _, _, _, .oi n e q r, a, ha => by
    rcases List.mem_cons.mp ha with rfl | ha
    · exact ⟨_, e⟩
    · exact ROs.live r a ha
theorem ROs.live : ∀ {xs : List O} {vs : List V} {fp : List Addr}, ROs K B H vs xs fp → ∀ a ∈ fp, ∃ o, H a = some o
  | _, _, _, .nil, a, ha => by cases ha
  | _, _, _, .cons r s, a, ha => by
    rcases List.mem_append.mp ha with ha | ha
    · exact RO.live r a ha
    · exact ROs.live s a ha
end
mutual
theorem RO.liveP : ∀ {x : O} {v : V} {fp : List Addr}, RO K B H v x fp → ∀ a ∈ fp, ∃ o, H a = some o ∧ Pl o
  | _, _, _, .fz _, a, ha => by cases ha
  | _, _, _, .hid, a, ha => by cases ha
  | _, _, _, .tn _ _ _, a, ha => by cases ha
  | _, _, _, .dl _ _ _, a, ha => by cases ha
  | _, _, _, .scr _, a, ha => by cases ha
  | _, _, _, .lf e _, a, ha => by rw [List.mem_singleton.mp ha]; exact ⟨_, e, pl_lst⟩
  | _, _, _, .df e _ _, a, ha => by rw [List.mem_singleton.mp ha]; exact ⟨_, e, pl_dK⟩
  | _, _, _, .dt e _ _, a, ha => by rw [List.mem_singleton.mp ha]; exact ⟨_, e, pl_dT⟩
  | _, _, _, .dq e _ _, a, ha => by rw [List.mem_singleton.mp ha]; exact ⟨_, e, pl_dq⟩
  | _, _, _, .dn e _ _ _, a, ha => by rw [List.mem_singleton.mp ha]; exact ⟨_, e, pl_dqP⟩
  | _, _, _, .dz _ _ _ _, a, ha => by cases ha
  | _, _, _, .fo _ _ _ _, a, ha => by cases ha
  | _, _, _, .fl e r, a, ha => ROs.liveP r a ha
  | _, _, _, .al, a, ha => by cases ha
  | _, _, _, .lb r, a, ha => RO.liveP r a ha
  | _, _, _, .ol e r, a, ha => by
    rcases List.mem_cons.mp ha with rfl | ha
    · exact ⟨_, e, pl_lst⟩
    · exact ROs.liveP r a ha
  | _, _, _, .ot e r, a, ha => ROs.liveP r a ha
  | _, _, _, .od e q r, a, ha => by
    rcases List.mem_cons.mp ha with rfl | ha
    · exact ⟨_, e, pl_dK⟩
    · exact ROs.liveP r a ha
  | _, _, _, .exn _ _ _, a, ha => by cases ha
  | _, _, _, .oi n e q r, a, ha => by
    rcases List.mem_cons.mp ha with rfl | ha
    · exact ⟨_, e, pl_ins⟩
    · exact ROs.liveP r a ha
theorem ROs.liveP : ∀ {xs : List O} {vs : List V} {fp : List Addr}, ROs K B H vs xs fp → ∀ a ∈ fp, ∃ o, H a = some o ∧ Pl o
  | _, _, _, .nil, a, ha => by cases ha
  | _, _, _, .cons r s, a, ha => by
    rcases List.mem_append.mp ha with ha | ha
    · exact RO.liveP r a ha
    · exact ROs.liveP s a ha
end
theorem RFs.length : ∀ {ds : List PyData} {vs : List V}, RFs K B vs ds → vs.length = ds.length
  | _, _, .nil => rfl
  | _, _, .cons _ s => congrArg (· + 1) s.length
theorem RFs.append : ∀ {ds es : List PyData} {vs us : List V}, RFs K B vs ds → RFs K B us es → RFs K B (vs ++ us) (ds ++ es)
  | _, _, _, _, .nil, s => s
  | _, _, _, _, .cons r t, s => .cons r (t.append s)
theorem RFs.get : ∀ {ds : List PyData} {vs : List V} {i : Nat} {d : PyData}, RFs K B vs ds → ds[i]? = some d → ∃ v, vs[i]? = some v ∧ RF K B v d
  | _, _, _, _, .nil, e => by simp at e
  | _, _, 0, _, .cons r _, e => by simp at e; subst e; exact ⟨_, rfl, r⟩
  | _, _, i + 1, d, .cons _ t, e => by
    obtain ⟨v, h1, h2⟩ := RFs.get (i := i) (d := d) t (by simpa using e)
    exact ⟨v, by simpa using h1, h2⟩
theorem RFs.take : ∀ {ds : List PyData} {vs : List V} (n : Nat), RFs K B vs ds → RFs K B (vs.take n) (ds.take n)
  | _, _, 0, _ => .nil
  | _, _, _ + 1, .nil => .nil
  | _, _, n + 1, .cons r t => .cons r (t.take n)
theorem RFs.drop : ∀ {ds : List PyData} {vs : List V} (n : Nat), RFs K B vs ds → RFs K B (vs.drop n) (ds.drop n)
  | _, _, 0, r => r
  | _, _, _ + 1, .nil => .nil
  | _, _, n + 1, .cons r t => t.drop n
theorem RFs.reverse : ∀ {ds : List PyData} {vs : List V}, RFs K B vs ds → RFs K B vs.reverse ds.reverse
  | _, _, .nil => .nil
  | _, _, .cons r t => by
    rw [List.reverse_cons, List.reverse_cons]
    exact t.reverse.append (.cons r .nil)
theorem ROs.length : ∀ {xs : List O} {vs : List V} {fp : List Addr}, ROs K B H vs xs fp → vs.length = xs.length
  | _, _, _, .nil => rfl
  | _, _, _, .cons _ s => congrArg (· + 1) s.length
theorem ROs.append : ∀ {xs ys : List O} {vs us : List V} {f g : List Addr}, ROs K B H vs xs f → ROs K B H us ys g → ROs K B H (vs ++ us) (xs ++ ys) (f ++ g)
  | _, _, _, _, _, _, .nil, s => s
  | _, _, _, _, _, _, .cons r t, s => by
    rw [List.append_assoc]
    exact .cons r (t.append s)
theorem ROs.split_append : ∀ {xs ys : List O} {vs us : List V} {f : List Addr}, ROs K B H (vs ++ us) (xs ++ ys) f → vs.length = xs.length → ∃ f1 f2, f = f1 ++ f2 ∧ ROs K B H vs xs f1 ∧ ROs K B H us ys f2
  | [], _, [], _, f, r, _ => ⟨[], f, rfl, .nil, r⟩
  | [], _, _ :: _, _, _, _, e => by cases e
  | _ :: _, _, [], _, _, _, e => by cases e
  | x :: xs, ys, v :: vs, us, f, r, e => by
    cases r with
    | cons r s =>
      obtain ⟨f1, f2, rfl, a, b⟩ := ROs.split_append s (Nat.succ.inj e)
      exact ⟨_, f2, (List.append_assoc _ _ _).symm, .cons r a, b⟩
theorem ROs.fzs : ∀ {ds : List PyData} {vs : List V}, RFs K B vs ds → ROs K B H vs (ds.map O.fz) []
  | _, _, .nil => .nil
  | _, _, .cons r s => by
    have := ROs.cons (H := H) (RO.fz r) (ROs.fzs s)
    exact this
theorem ROs.unfz : ∀ {ds : List PyData} {vs : List V} {fp : List Addr}, ROs K B H vs (ds.map O.fz) fp → RFs K B vs ds ∧ fp = []
  | [], _, _, .nil => ⟨.nil, rfl⟩
  | d :: ds, _, _, .cons (.fz r) s => by
    obtain ⟨a, e⟩ := ROs.unfz (ds := ds) s
    subst e
    exact ⟨.cons r a, rfl⟩
theorem ROs.split : ∀ {xs : List O} {vs : List V} {fp : List Addr} {i : Nat} {x : O}, ROs K B H vs xs fp → xs[i]? = some x →
    ∃ v f1 f2, vs[i]? = some v ∧ RO K B H v x f1 ∧ ROs K B H vs (xs.set i .hid) f2 ∧ fp.Perm (f1 ++ f2)
  | _, _, _, _, _, .nil, e => by simp at e
  | x :: xs, v :: vs, _, 0, y, .cons (f1 := f1) (f2 := f2) r s, e => by
    have e' : x = y := by simpa using e
    subst e'
    exact ⟨v, f1, f2, rfl, r, .cons (f1 := []) .hid s, List.Perm.refl _⟩
  | x :: xs, v :: vs, _, i + 1, y, .cons (f1 := f1) (f2 := f2) r s, e => by
    obtain ⟨w, g1, g2, h1, h2, h3, h4⟩ := ROs.split (i := i) (x := y) s (by simpa using e)
    refine ⟨w, g1, f1 ++ g2, by simpa using h1, h2, .cons r h3, ?_⟩
    refine (List.Perm.append_left f1 h4).trans ?_
    rw [← List.append_assoc, ← List.append_assoc]
    exact List.Perm.append_right _ List.perm_append_comm
theorem ROs.put : ∀ {xs : List O} {vs : List V} {f2 : List Addr} {i : Nat} {x : O} {v : V} {f1 : List Addr}, ROs K B H vs xs f2 → xs[i]? = some O.hid → RO K B H v x f1 →
    ∃ fp, ROs K B H (vs.set i v) (xs.set i x) fp ∧ fp.Perm (f1 ++ f2)
  | _, _, _, _, _, _, _, .nil, e, _ => by simp at e
  | y :: xs, w :: vs, _, 0, x, v, f1, .cons (f1 := g1) (f2 := g2) r s, e, q => by
    have e' : y = .hid := by simpa using e
    subst e'
    cases r
    exact ⟨f1 ++ g2, .cons q s, List.Perm.refl _⟩
  | y :: xs, w :: vs, _, i + 1, x, v, f1, .cons (f1 := g1) (f2 := g2) r s, e, q => by
    obtain ⟨fp, h1, h2⟩ := ROs.put (i := i) s (by simpa using e) q
    refine ⟨g1 ++ fp, .cons r h1, ?_⟩
    refine (List.Perm.append_left g1 h2).trans ?_
    rw [← List.append_assoc, ← List.append_assoc]
    exact List.Perm.append_right _ List.perm_append_comm
theorem ROs.forget {xs : List O} {vs : List V} {fp : List Addr} (r : ROs K B H vs xs fp) (i : Nat) : ∃ f2, ROs K B H vs (xs.set i .hid) f2 ∧ (∀ a ∈ f2, a ∈ fp) ∧ (fp.Nodup → f2.Nodup) := by
  cases e : xs[i]? with
  | none =>
    have : xs.set i .hid = xs := List.set_eq_of_length_le (List.getElem?_eq_none_iff.mp e)
    rw [this]
    exact ⟨fp, r, fun _ h => h, fun h => h⟩
  | some x =>
    obtain ⟨v, f1, f2, _, _, h3, h4⟩ := r.split e
    refine ⟨f2, h3, fun a ha => h4.symm.subset (List.mem_append_right _ ha), fun h => ?_⟩
    exact ((List.nodup_append.mp (h4.nodup h)).2).1
theorem ROs.any : ∀ {xs : List O} {vs : List V} {fp : List Addr} {i : Nat} (v : V), ROs K B H vs xs fp → xs[i]? = some O.hid → ROs K B H (vs.set i v) xs fp
  | _, _, _, _, _, .nil, e => by simp at e
  | x :: xs, w :: vs, _, 0, v, .cons r s, e => by
    have e' : x = .hid := by simpa using e
    subst e'
    cases r
    exact .cons .hid s
  | x :: xs, w :: vs, _, i + 1, v, .cons r s, e => .cons r (ROs.any (i := i) v s (by simpa using e))
end
theorem TbK.refl (H : Hp) : TbK H H := fun _ h => h
theorem TbK.trans {H H1 H2 : Hp} (a : TbK H H1) (b : TbK H1 H2) : TbK H H2 := fun P h => b P (a P h)
theorem TbK.ext {H H' : Hp} (e : ∀ a o, H a = some o → H' a = some o) : TbK H H' := fun _ h => h.ext e
theorem TbK.upd {H : Hp} {p : Addr} {o' : HO} (h : ∀ o, H p = some o → Pl o) : TbK H (L2.upd H p o') := fun P hP => by
  obtain ⟨ps, h1, h2, h3⟩ := hP
  refine ⟨ps, ?_, h2, fun pos cv hc => ?_⟩
  · rw [upd_ne (fun z => by rw [z] at h1; exact (h _ h1).1 ps rfl)]
    exact h1
  · obtain ⟨c, e1, e2⟩ := h3 pos cv hc
    refine ⟨c, e1, ?_⟩
    rw [upd_ne (fun z => by rw [z] at e2; exact (h _ e2).2 _ rfl)]
    exact e2
structure Ex where
  cn : Str
  fs : List (Str × PyData)
def RX (K : PySem.W.Frag) (_ : Str → Option Value) (B : Hp) (cls : Value) (d : Option Addr) (x : Ex) : Prop :=
  ∃ C : Addr, cls = .ref C ∧ clsA K x.cn C ∧ ((x.fs = [] ∧ d = none) ∨ ∃ (dd : Addr) (vs : List (Str × V)), d = some dd ∧ B dd = some (.xd vs) ∧ vs.map (·.1) = x.fs.map (·.1) ∧ RFs K B (vs.map (·.2)) (x.fs.map (·.2)))
structure Ent where
  B : Hp
  H : Hp
  fp : List Addr
  T : List Addr
  tb : ∀ P ∈ T, LamX.TabS H P q0
  nt : NTB B
  W : WX := fun _ _ _ _ => False
  mg : Str → Option Value := fun _ => none
structure Nxt (B H : Hp) (fp : List Addr) (B' H' : Hp) (fp' : List Addr) : Prop where
  bsub : Sub B B'
  keep : ∀ a o, H a = some o → a ∉ fp → NT o → H' a = some o
  newB : ∀ a, B' a ≠ none → B a ≠ none ∨ H a = none ∨ a ∈ fp
  newF : ∀ a ∈ fp', a ∈ fp ∨ H a = none
  live : ∀ a, H' a = none → H a = none
  tabs : TbK H H'
  ntb : NTB B → NTB B'
theorem Nxt.refl (B H : Hp) (fp : List Addr) : Nxt B H fp B H fp := ⟨Sub.refl B, fun _ _ h _ _ => h, fun _ h => .inl h, fun _ h => .inl h, fun _ h => h, TbK.refl H, fun h => h⟩
theorem Nxt.less {B H B' H' : Hp} {fp f1 f2 : List Addr} (n : Nxt B H fp B' H' f1) (h : ∀ a ∈ f2, a ∈ f1) : Nxt B H fp B' H' f2 := ⟨n.bsub, n.keep, n.newB, fun a ha => n.newF a (h a ha), n.live, n.tabs, n.ntb⟩
theorem Nxt.self {B H : Hp} {fp fp' : List Addr} (h : ∀ a ∈ fp', a ∈ fp) : Nxt B H fp B H fp' := (Nxt.refl B H fp).less h
theorem Nxt.more {B H B' H' : Hp} {f1 f2 f : List Addr} (n : Nxt B H f1 B' H' f) (h : ∀ a ∈ f1, a ∈ f2) : Nxt B H f2 B' H' f :=
  ⟨n.bsub, fun a o e m => n.keep a o e fun z => m (h a z), fun a e => (n.newB a e).imp_right (·.imp_right (h a)), fun a ha => (n.newF a ha).imp_left (h a), n.live, n.tabs, n.ntb⟩
theorem Nxt.trans {B H B1 H1 B2 H2 : Hp} {fp f1 f2 : List Addr} (a : Nxt B H fp B1 H1 f1) (b : Nxt B1 H1 f1 B2 H2 f2) : Nxt B H fp B2 H2 f2 where
  bsub := a.bsub.trans b.bsub
  keep := fun x o e m t => b.keep x o (a.keep x o e m t) (fun z => by
    rcases a.newF x z with q | q
    · exact m q
    · rw [e] at q; cases q) t
  newB := fun x e => by
    rcases b.newB x e with q | q | q
    · exact a.newB x q
    · exact .inr (.inl (a.live x q))
    · rcases a.newF x q with q | q
      · exact .inr (.inr q)
      · exact .inr (.inl q)
  newF := fun x e => by
    rcases b.newF x e with q | q
    · exact a.newF x q
    · exact .inr (a.live x q)
  live := fun x e => a.live x (b.live x e)
  tabs := a.tabs.trans b.tabs
  ntb := fun h => b.ntb (a.ntb h)
def valsOf (σ : St) : List V := σ.map fun o => o.getD .non
structure Ok (K : PySem.W.Frag) (Z : Ent) (B H : Hp) (σ : St) (ρ : List O) (fp : List Addr) : Prop where
  sub : Sub B H
  un : ∀ i : Nat, σ[i]? = some none → ρ[i]? = some O.hid
  rs : ROs K B H (valsOf σ) ρ fp
  nd : fp.Nodup
  out : ∀ a ∈ fp, B a = none
  nx : Nxt Z.B Z.H Z.fp B H fp
section
variable {K : PySem.W.Frag} {Z : Ent} {B B1 H H1 : Hp} {σ τ : St} {ρ ρ' xs : List O} {fp f1 : List Addr} {v : V} {x : O}
theorem Ok.len (k : Ok K Z B H σ ρ fp) : σ.length = ρ.length := by
  have := k.rs.length
  unfold valsOf at this
  rwa [List.length_map] at this
theorem Ok.lives (k : Ok K Z B H σ ρ fp) : ∀ a ∈ fp, H a ≠ none := fun a ha e => by
  obtain ⟨o, h⟩ := k.rs.live a ha
  rw [h] at e; cases e
theorem valsOf_cons (v : V) (σ : St) : valsOf (some v :: σ) = v :: valsOf σ := rfl
theorem valsOf_append (σ τ : St) : valsOf (σ ++ τ) = valsOf σ ++ valsOf τ := List.map_append ..
theorem valsOf_get {i : Nat} : (valsOf σ)[i]? = (σ[i]?).map fun o => o.getD .non := List.getElem?_map ..
theorem Ok.part {f2 : List Addr} (k : Ok K Z B H σ ρ fp) (un : ∀ i : Nat, τ[i]? = some none → ρ'[i]? = some O.hid) (r : ROs K B H (valsOf τ) ρ' f2) (nd : f2.Nodup) (h : ∀ a ∈ f2, a ∈ fp) : Ok K Z B H τ ρ' f2 :=
  ⟨k.sub, un, r, nd, fun a ha => k.out a (h a ha), k.nx.less h⟩
theorem Ok.frame (k : Ok K Z B H (τ ++ σ) (xs ++ ρ) fp) (hl : τ.length = xs.length) : ∃ f1 f2, fp = f1 ++ f2 ∧ ROs K B H (valsOf τ) xs f1 ∧ Ok K Z B H σ ρ f2 ∧
    ∀ {B' H' : Hp} {σ' : St} {ρ' : List O} {g : List Addr}, Nxt B H f2 B' H' g → Ok K Z B' H' σ' ρ' g → Ok K Z B' H' (τ ++ σ') (xs ++ ρ') (f1 ++ g) ∧ Nxt B H fp B' H' (f1 ++ g) := by
  obtain ⟨sub, un, rs, nd, out, nx⟩ := k
  rw [valsOf_append] at rs
  obtain ⟨f1, f2, rfl, a, b⟩ := rs.split_append (by unfold valsOf; rw [List.length_map]; exact hl)
  obtain ⟨n1, n2, n3⟩ := List.nodup_append.mp nd
  have ok2 : Ok K Z B H σ ρ f2 := ⟨sub, fun i e => by
    have e2 := un (τ.length + i) (by rw [List.getElem?_append_right (Nat.le_add_right _ _), Nat.add_sub_cancel_left]; exact e)
    rwa [hl, List.getElem?_append_right (Nat.le_add_right _ _), Nat.add_sub_cancel_left] at e2, b, n2, fun a ha => out a (List.mem_append_right _ ha), nx.less fun a ha => List.mem_append_right _ ha⟩
  refine ⟨f1, f2, rfl, a, ok2, fun {B' H' σ' ρ' g} n k' => ?_⟩
  have dis : ∀ a ∈ f1, a ∉ f2 := fun a h h' => n3 a h a h' rfl
  have hk : ∀ a ∈ f1, ∀ o, H a = some o → NT o → H' a = some o := fun a ha o e => n.keep a o e (dis a ha)
  have fg : ∀ a ∈ f1, a ∉ g := fun x hx hg => by
    rcases n.newF x hg with q | q
    · exact dis x hx q
    · obtain ⟨o, e⟩ := a.live x hx
      rw [e] at q; cases q
  have nn : Nxt B H (f1 ++ f2) B' H' (f1 ++ g) := ⟨n.bsub, fun a o e m => n.keep a o e fun z => m (List.mem_append_right _ z), fun a e => (n.newB a e).imp_right (·.imp_right fun z => List.mem_append_right _ z), fun a ha => by
    rcases List.mem_append.mp ha with q | q
    · exact .inl (List.mem_append_left _ q)
    · exact (n.newF a q).imp_left fun z => List.mem_append_right _ z, n.live, n.tabs, n.ntb⟩
  refine ⟨⟨k'.sub, fun i e => ?_, ?_, ?_, fun x hx => ?_, nx.trans nn⟩, nn⟩
  · by_cases hi : i < τ.length
    · rw [List.getElem?_append_left hi] at e
      have := un i (by rw [List.getElem?_append_left hi]; exact e)
      rw [List.getElem?_append_left (by omega)] at this
      rw [List.getElem?_append_left (by omega)]
      exact this
    · rw [List.getElem?_append_right (by omega)] at e
      have := k'.un _ e
      rw [List.getElem?_append_right (by omega), ← hl]
      exact this
  · rw [valsOf_append]
    exact (a.next n.bsub hk).append k'.rs
  · exact List.nodup_append.mpr ⟨n1, k'.nd, fun a ha b hb e => fg a ha (e ▸ hb)⟩
  · rcases List.mem_append.mp hx with q | q
    · cases z : B' x with
      | none => rfl
      | some o =>
        rcases n.newB x (by rw [z]; exact fun h => nomatch h) with h | h | h
        · exact absurd (out x (List.mem_append_left _ q)) h
        · obtain ⟨o, e⟩ := a.live x q
          rw [e] at h; cases h
        · exact absurd h (dis x q)
    · exact k'.out x q
theorem Ok.drop (k : Ok K Z B H (τ ++ σ) (xs ++ ρ) fp) (hl : τ.length = xs.length) : ∃ f2, Ok K Z B H σ ρ f2 ∧ (∀ a ∈ f2, a ∈ fp) := by
  obtain ⟨f1, f2, rfl, _, h, _⟩ := k.frame hl
  exact ⟨f2, h, fun a ha => List.mem_append_right _ ha⟩
theorem Ok.drop1 (k : Ok K Z B H (some v :: σ) (x :: ρ) fp) : ∃ f2, Ok K Z B H σ ρ f2 ∧ (∀ a ∈ f2, a ∈ fp) := Ok.drop (τ := [some v]) (xs := [x]) k rfl
theorem Ok.addF {f : PyData} (k : Ok K Z B H σ ρ fp) (r : RF K B v f) : Ok K Z B H (some v :: σ) (.fz f :: ρ) fp :=
  ⟨k.sub, fun i e => by
    cases i with
    | zero => cases e
    | succ i => exact k.un i e, .cons (f1 := []) (.fz r) k.rs, k.nd, k.out, k.nx⟩
theorem Ok.addH (k : Ok K Z B H σ ρ fp) : Ok K Z B H (some v :: σ) (.hid :: ρ) fp :=
  ⟨k.sub, fun i e => by
    cases i with
    | zero => cases e
    | succ i => exact k.un i e, .cons (f1 := []) .hid k.rs, k.nd, k.out, k.nx⟩
theorem Ok.head (k : Ok K Z B H (some v :: σ) (x :: ρ) fp) : ∃ f, RO K B H v x f ∧ f.Nodup ∧ ∀ a ∈ f, a ∈ fp := by
  obtain ⟨_, _, rs, nd, _, _⟩ := k
  cases rs with
  | cons r s => exact ⟨_, r, (List.nodup_append.mp nd).1, fun a ha => List.mem_append_left _ ha⟩
theorem Ok.headF {f : PyData} (k : Ok K Z B H (some v :: σ) (.fz f :: ρ) fp) : RF K B v f := by
  obtain ⟨g, r, _⟩ := k.head
  cases r with
  | fz r => exact r
end
end Pt
namespace Pt
open PySem PySem.Spec L2
abbrev En := List O
abbrev WE := En → (O → En → Prop) → Prop
abbrev WT := En → (Bool → En → Prop) → Prop
structure DE where
  nx : En → Prop
  rt : O → En → Prop
  bk : En → Prop := fun _ => False
  ct : En → Prop := fun _ => False
  xc : Ex → En → Prop := fun _ _ => False
abbrev WS := DE → En → Prop
def nth : En → Nat → O
  | [], _ => .hid
  | x :: _, 0 => x
  | _ :: r, n + 1 => nth r n
theorem nth_eq : ∀ (ρ : En) (i : Nat), nth ρ i = (ρ[i]?).getD .hid
  | [], _ => by simp [nth]
  | x :: _, 0 => by simp [nth]
  | _ :: r, n + 1 => by simp [nth, nth_eq r n]
theorem nth_some {ρ : En} {i : Nat} {x : O} (h : nth ρ i = x) (hx : x ≠ .hid) : ρ[i]? = some x := by
  rw [nth_eq] at h
  cases e : ρ[i]? with
  | none => rw [e] at h; exact absurd h.symm hx
  | some y => rw [e] at h; exact congrArg some h
def asF : O → (PyData → Prop) → Prop
  | .fz f, k => k f
  | _, _ => False
def notHid : O → Prop → Prop
  | .hid, _ => False
  | _, p => p
theorem notHid_iff {x : O} {p : Prop} (h : notHid x p) : x ≠ .hid ∧ p := by
  cases x with
  | hid => exact False.elim h
  | _ => exact ⟨(fun e => nomatch e), h⟩
section
variable (K : PySem.W.Frag) (Z : Ent)
def tE (w : WE) : TE := fun σ H Q => ∃ B ρ fp R, Ok K Z B H σ ρ fp ∧ w ρ R ∧ ∀ d ρ', R d ρ' → ∀ v H' B' fp', Nxt B H fp B' H' fp' → Ok K Z B' H' (some v :: σ) (d :: ρ') fp' → Q v H'
def tT (w : WT) : TT := fun σ H Q => ∃ B ρ fp R, Ok K Z B H σ ρ fp ∧ w ρ R ∧ ∀ b ρ', R b ρ' → ∀ H' B' fp', Nxt B H fp B' H' fp' → Ok K Z B' H' σ ρ' fp' → Q b H'
inductive AD where
  | ex (w : WE)
  | nm (i : Nat)
def tAD : AD → TE
  | .ex w => tE K Z w
  | .nm i => tVar i
def tADs : List AD → TA
  | [] => tNil
  | a :: r => tCons (tAD K Z a) (tADs r)
end
def wADs : List AD → En → (List (Option O) → En → Prop) → Prop
  | [], ρ, R => R [] ρ
  | .ex w :: r, ρ, R => w ρ fun d ρ1 => wADs r ρ1 fun ds ρ2 => R (some d :: ds) ρ2
  | .nm i :: r, ρ, R => notHid (nth ρ i) (wADs r ρ fun ds ρ2 => R (none :: ds) ρ2)
def fillA : List AD → List (Option O) → En → List O
  | .ex _ :: r, some d :: ds, ρ => d :: fillA r ds ρ
  | .nm i :: r, _ :: ds, ρ => nth ρ i :: fillA r ds ρ
  | _, _, _ => []
inductive Got (σ : St) : List AD → List V → List (Option O) → St → List O → Prop
  | nil : Got σ [] [] [] [] []
  | ex {w : WE} {r : List AD} {v : V} {vs : List V} {d : O} {ds : List (Option O)} {τ : St} {xs : List O} : Got σ r vs ds τ xs → Got σ (.ex w :: r) (v :: vs) (some d :: ds) (some v :: τ) (d :: xs)
  | nm {i : Nat} {r : List AD} {v : V} {vs : List V} {ds : List (Option O)} {τ : St} {xs : List O} : (σ[i]? : Option (Option V)) = some (some v) → Got σ r vs ds τ xs → Got σ (.nm i :: r) (v :: vs) (none :: ds) τ xs
section
variable {K : PySem.W.Frag} {Z : Ent} {B H : Hp} {σ : St} {ρ : En} {fp : List Addr}
theorem Got.len {as : List AD} {vs : List V} {ds : List (Option O)} {τ : St} {xs : List O} (g : Got σ as vs ds τ xs) : τ.length = xs.length := by
  induction g with
  | nil => rfl
  | ex _ ih => exact congrArg (· + 1) ih
  | nm _ _ ih => exact ih
theorem Ok.slot (k : Ok K Z B H σ ρ fp) {i : Nat} {x : O} (h : nth ρ i = x) (hx : x ≠ .hid) : ∃ v f, (σ[i]? : Option (Option V)) = some (some v) ∧ RO K B H v x f ∧ ∀ a ∈ f, a ∈ fp := by
  have e := nth_some h hx
  obtain ⟨v, f1, f2, h1, h2, _, h4⟩ := k.rs.split e
  rw [valsOf_get] at h1
  cases q : (σ[i]? : Option (Option V)) with
  | none => rw [q] at h1; cases h1
  | some o =>
    cases o with
    | none => have := k.un i q; rw [e] at this; exact absurd (Option.some.inj this) hx
    | some u =>
      rw [q] at h1
      have e1 : u = v := Option.some.inj h1
      subst e1
      exact ⟨u, f1, rfl, h2, fun a ha => h4.symm.subset (List.mem_append_left _ ha)⟩
theorem args_ok : ∀ (as : List AD) {B H : Hp} {ρ : En} {fp : List Addr} {R : List (Option O) → En → Prop} {Q : List V → Hp → Prop}, Ok K Z B H σ ρ fp → wADs as ρ R →
    (∀ ds ρ', R ds ρ' → ∀ vs τ xs H' B' fp', Got σ as vs ds τ xs → Nxt B H fp B' H' fp' → Ok K Z B' H' (τ ++ σ) (xs ++ ρ') fp' → Q vs H') → tADs K Z as σ H Q
  | [], B, H, ρ, fp, R, Q, k, h, q => q [] ρ h [] [] [] H B fp .nil (Nxt.refl _ _ _) k
  | .ex w :: r, B, H, ρ, fp, R, Q, k, h, q => by
    refine ⟨B, ρ, fp, _, k, h, fun d ρ1 h1 v H1 B1 fp1 n1 k1 => ?_⟩
    obtain ⟨f1, f2, rfl, _, k1', fr⟩ := Ok.frame (τ := [some v]) (xs := [d]) k1 rfl
    refine args_ok r k1' h1 fun ds ρ2 h2 vs τ xs H2 B2 fp2 g n2 k2 => ?_
    obtain ⟨τ1, xs1, e1, e2⟩ : ∃ (τ1 : St) (xs1 : List O), some v :: τ = τ1 ∧ d :: xs = xs1 := ⟨_, _, rfl, rfl⟩
    obtain ⟨a, b⟩ := fr n2 k2
    exact q (some d :: ds) ρ2 h2 (v :: vs) (some v :: τ) (d :: xs) H2 B2 _ (.ex g) (n1.trans b) a
  | .nm i :: r, B, H, ρ, fp, R, Q, k, h, q => by
    obtain ⟨hx, h⟩ := notHid_iff h
    obtain ⟨v, f, e, _, _⟩ := k.slot rfl hx
    refine ⟨v, e, args_ok r k h fun ds ρ2 h2 vs τ xs H2 B2 fp2 g n2 k2 => ?_⟩
    exact q (none :: ds) ρ2 h2 (v :: vs) τ xs H2 B2 fp2 (.nm e g) n2 k2
theorem Got.reads {as : List AD} {vs : List V} {ds : List (Option O)} {τ : St} {xs : List O} (g : Got σ as vs ds τ xs) : ∀ {f : List Addr}, ROs K B H (valsOf τ) xs f → Ok K Z B H σ ρ fp → ∃ f', ROs K B H vs (fillA as ds ρ) f' := by
  induction g with
  | nil => exact fun _ _ => ⟨_, .nil⟩
  | ex g ih =>
    intro f r k
    rw [valsOf_cons] at r
    cases r with
    | cons r s =>
      obtain ⟨f', h⟩ := ih s k
      exact ⟨_, .cons r h⟩
  | @nm i r v vs ds τ xs e g ih =>
    intro f r k
    obtain ⟨f', h⟩ := ih r k
    cases q : nth ρ i with
    | hid => exact ⟨_, by unfold fillA; rw [q]; exact .cons .hid h⟩
    | _ =>
      obtain ⟨v', f1, e', h2, _⟩ := k.slot q (fun z => nomatch z)
      rw [e] at e'
      have e2 : v = v' := Option.some.inj (Option.some.inj e')
      subst e2
      exact ⟨_, by unfold fillA; rw [q]; exact .cons h2 h⟩
end
def Out (K : PySem.W.Frag) (B H : Hp) (u : V) (z : O) (B' H' : Hp) : Prop := ∃ g, Nxt B H [] B' H' g ∧ RO K B' H' u z g ∧ g.Nodup ∧ (∀ a ∈ g, B' a = none) ∧ Sub B' H'
section
variable {K : PySem.W.Frag} {Z : Ent} {B H B' H' : Hp} {σ : St} {ρ : En} {fp : List Addr} {u : V} {z : O}
theorem Out.here {f : PyData} (r : RF K B u f) (s : Sub B H) : Out K B H u (.fz f) B H := ⟨[], Nxt.refl _ _ _, .fz r, List.nodup_nil, fun _ h => (List.not_mem_nil h).elim, s⟩
theorem Out.ok (k : Ok K Z B H σ ρ fp) (o : Out K B H u z B' H') : ∃ g, Ok K Z B' H' (some u :: σ) (z :: ρ) g ∧ Nxt B H fp B' H' g := by
  obtain ⟨g, n, r, nd, out, sub⟩ := o
  have fresh : ∀ a ∈ g, H a = none := fun a ha => (n.newF a ha).resolve_left fun h => (List.not_mem_nil h).elim
  have nn : Nxt B H fp B' H' (g ++ fp) := ⟨n.bsub, fun a o e _ => n.keep a o e fun z => (List.not_mem_nil z).elim, fun a e => (n.newB a e).imp_right (·.imp_right fun z => (List.not_mem_nil z).elim), fun a ha => by
    rcases List.mem_append.mp ha with h | h
    · exact .inr (fresh a h)
    · exact .inl h, n.live, n.tabs, n.ntb⟩
  refine ⟨g ++ fp, ⟨sub, fun i e => ?_, ?_, ?_, fun a ha => ?_, k.nx.trans nn⟩, nn⟩
  · cases i with
    | zero => cases e
    | succ i => exact k.un i e
  · rw [valsOf_cons]
    exact .cons r (k.rs.next n.bsub fun a _ o e => n.keep a o e fun z => (List.not_mem_nil z).elim)
  · refine List.nodup_append.mpr ⟨nd, k.nd, fun a ha b hb e => ?_⟩
    subst e
    exact k.lives a hb (fresh a ha)
  · rcases List.mem_append.mp ha with h | h
    · exact out a h
    · cases q : B' a with
      | none => rfl
      | some o =>
        rcases n.newB a (by rw [q]; exact fun h => nomatch h) with h1 | h1 | h1
        · exact absurd (k.out a h) h1
        · exact absurd h1 (k.lives a h)
        · exact (List.not_mem_nil h1).elim
theorem Nxt.alloc {p : Addr} {o : HO} (hp : H p = none) : Nxt B H [] B (upd H p o) [p] := ⟨Sub.refl B, fun a o e _ _ => by rw [upd_ne (ne_of_none e hp)]; exact e, fun a e => .inl e, fun a ha => .inr (by rw [List.mem_singleton.mp ha]; exact hp), fun a e => by
  by_cases h : a = p
  · rw [h]; exact hp
  · rwa [upd_ne h] at e, TbK.upd fun o z => (by rw [hp] at z; cases z), fun h => h⟩
theorem Nxt.allocB {p : Addr} {o : HO} (hp : H p = none) (hB : B p = none) (ho : Pl o) : Nxt B H [] (upd B p o) (upd H p o) [] := ⟨fun a o e => by rw [upd_ne (ne_of_none e hB)]; exact e, fun a o e _ _ => by rw [upd_ne (ne_of_none e hp)]; exact e, fun a e => by
  by_cases h : a = p
  · rw [h]; exact .inr (.inl hp)
  · rw [upd_ne h] at e; exact .inl e, fun a ha => (List.not_mem_nil ha).elim, fun a e => by
  by_cases h : a = p
  · rw [h]; exact hp
  · rwa [upd_ne h] at e, TbK.upd fun o z => (by rw [hp] at z; cases z), fun n a u e => by
  by_cases h : a = p
  · rw [h, upd_same] at e; cases e; exact ho.1
  · rw [upd_ne h] at e; exact n a u e⟩
theorem Sub.free (s : Sub B H) {p : Addr} (hp : H p = none) : B p = none := by
  cases q : B p with
  | none => rfl
  | some o => rw [s p o q] at hp; cases hp
theorem Sub.upd (s : Sub B H) {p : Addr} {o : HO} : Sub (upd B p o) (upd H p o) := fun a u e => by
  by_cases h : a = p
  · subst h; rw [upd_same] at e ⊢; exact e
  · rw [upd_ne h] at e ⊢; exact s a u e
theorem Sub.updR (s : Sub B H) {p : Addr} {o : HO} (hp : B p = none) : Sub B (L2.upd H p o) := fun a u e => by rw [upd_ne (ne_of_none e hp)]; exact s a u e
theorem Out.lstO {vs : List V} {ds : List PyData} {p : Addr} (r : RFs K B vs ds) (s : Sub B H) (hp : H p = none) : Out K B H (.ref p) (.ol (ds.map O.fz)) B (upd H p (.lst vs)) :=
  ⟨[p], Nxt.alloc hp, .ol (fp := []) upd_same (ROs.fzs r), List.nodup_cons.mpr ⟨List.not_mem_nil, List.nodup_nil⟩, fun a ha => by rw [List.mem_singleton.mp ha]; exact s.free hp, s.updR (s.free hp)⟩
theorem Out.lst {vs : List V} {ds : List PyData} {p : Addr} (r : RFs K B vs ds) (s : Sub B H) (hp : H p = none) : Out K B H (.ref p) (.lf ds) B (upd H p (.lst vs)) :=
  ⟨[p], Nxt.alloc hp, .lf upd_same r, List.nodup_cons.mpr ⟨List.not_mem_nil, List.nodup_nil⟩, fun a ha => by rw [List.mem_singleton.mp ha]; exact s.free hp, s.updR (s.free hp)⟩
theorem Out.dct {kvs : List (Key × V)} {ds : List (Key × PyData)} {p : Addr} (e : kvs.map (·.1) = ds.map (·.1)) (r : RFs K B (kvs.map (·.2)) (ds.map (·.2))) (s : Sub B H) (hp : H p = none) : Out K B H (.ref p) (.df ds) B (upd H p (.dK kvs)) :=
  ⟨[p], Nxt.alloc hp, .df upd_same e r, List.nodup_cons.mpr ⟨List.not_mem_nil, List.nodup_nil⟩, fun a ha => by rw [List.mem_singleton.mp ha]; exact s.free hp, s.updR (s.free hp)⟩
theorem Out.tup {vs : List V} {ds : List PyData} {p : Addr} (r : RFs K B vs ds) (s : Sub B H) (hp : H p = none) : Out K B H (.ref p) (.fz (.tuple ds)) (upd B p (.tup vs)) (upd H p (.tup vs)) := by
  have sb : Sub B (upd B p (.tup vs)) := fun a o e => by rw [upd_ne (ne_of_none e (s.free hp))]; exact e
  exact ⟨[], Nxt.allocB hp (s.free hp) pl_tup, .fz (.tup (SqT.of upd_same) (r.mono sb)), List.nodup_nil, fun _ h => (List.not_mem_nil h).elim, s.upd⟩
end
def Rd (K : PySem.W.Frag) (r : List V → Hp → VK → Prop) (op : List O → (O → Prop) → Prop) : Prop :=
  ∀ (B H : Hp) (vs : List V) (xs : List O) (f : List Addr) (R : O → Prop) (Q : VK), Sub B H → ROs K B H vs xs f → op xs R → (∀ z, R z → ∀ u B' H', Out K B H u z B' H' → Q u H') → r vs H Q
def wRd (as : List AD) (op : List O → (O → Prop) → Prop) : WE := fun ρ R => wADs as ρ fun ds ρ1 => op (fillA as ds ρ1) fun z => R z ρ1
section
variable {K : PySem.W.Frag} {Z : Ent} {H : Hp} {σ : St}
theorem rd_glue {as : List AD} {op : List O → (O → Prop) → Prop} {r : List V → Hp → VK → Prop} {Q : VK} (hr : Rd K r op) (h : tE K Z (wRd as op) σ H Q) : tADs K Z as σ H fun vs H1 => r vs H1 Q := by
  obtain ⟨B, ρ, fp, R, k, h, q⟩ := h
  refine args_ok as k h fun ds ρ1 h1 vs τ xs H1 B1 fp1 g n1 k1 => ?_
  obtain ⟨f1, f2, rfl, r1, k2, _⟩ := k1.frame g.len
  obtain ⟨f', rr⟩ := g.reads r1 k2
  refine hr B1 H1 vs _ f' _ Q k1.sub rr h1 fun z hz u B' H' o => ?_
  obtain ⟨g', k3, n3⟩ := o.ok k2
  exact q z ρ1 hz u H' B' g' (n1.trans ((Nxt.self fun a ha => List.mem_append_right _ ha).trans n3)) k3
end
def r2L (r : R2) : List V → Hp → VK → Prop
  | [x, y] => r x y
  | _ => fun _ _ => False
def r1L (r : V → Hp → VK → Prop) : List V → Hp → VK → Prop
  | [x] => r x
  | _ => fun _ _ => False
section
variable {X : Cx} {Z : Ent} {e a b : Expr} {t t' : TE} {pos : Pos}
theorem pe_to (h : PE X e t) (i : ∀ σ H Q, t' σ H Q → t σ H Q) : PE X e t' := ⟨fun pins s σ H Q I q => h.run pins s σ H Q I (i σ H Q q)⟩
theorem pt_to {t t' : TT} (h : PT X e t) (i : ∀ σ H Q, t' σ H Q → t σ H Q) : PT X e t' := ⟨fun pins s σ H Q I q => h.run pins s σ H Q I (i σ H Q q)⟩
theorem pw_to {t t' : TT} (h : PW X e t) (i : ∀ σ H Q, t' σ H Q → t σ H Q) : PW X e t' := ⟨fun whole pins s σ H Q I q => h.run whole pins s σ H Q I (i σ H Q q)⟩
theorem ps_to {st : Stmt} {t t' : TS} (h : PS X st t) (i : ∀ D σ H, t' D σ H → t D σ H) : PS X st t' := ⟨fun pins s σ H D I q => h.run pins s σ H D I (i D σ H q)⟩
theorem pss_to {st : List Stmt} {t t' : TS} (h : PSs X st t) (i : ∀ D σ H, t' D σ H → t D σ H) : PSs X st t' := ⟨fun pins s σ H D I q => h.run pins s σ H D I (i D σ H q)⟩
theorem ad_ex {w : WE} (h : PE X e (tE X.K Z w)) : PE X e (tAD X.K Z (.ex w)) := h
theorem ad_nm (i : Nat) {x : Str} {pos : Pos} (hN : X.N[i]? = some x := by rfl) (hv : Vis X.env.scope x := by first | exact Or.inl rfl | exact Or.inr (Or.inl rfl) | exact Or.inr (Or.inr rfl)) (hd : (x == ("__debug__" : Str)) = false := by decide)
    (hcd : (x == ("__classdict__" : Str)) = false := by decide) : PE X (.Name x pos) (tAD X.K Z (.nm i)) := pe_var hN hv hd hcd
def wC (f : PyData) : WE := fun ρ R => R (.fz f) ρ
theorem tE_const {K : PySem.W.Frag} {v : V} {f : PyData} (r : ∀ B, RF K B v f) : ∀ σ H Q, tE K Z (wC f) σ H Q → tC v σ H Q := fun σ H Q h => by
  obtain ⟨B, ρ, fp, R, k, h, q⟩ := h
  exact q _ ρ h v H B fp (Nxt.refl _ _ _) (k.addF (r B))
theorem e_int {i j pos} : PE X (.Constant (.int i) j pos) (tE X.K Z (wC (.int i))) := pe_to pe_int (tE_const fun _ => .int i)
theorem e_bl {b j pos} : PE X (.Constant (.bool b) j pos) (tE X.K Z (wC (.bool b))) := pe_to pe_bl (tE_const fun _ => .bl b)
theorem e_gint {x : Str} {i : Int} {u : Value} {pos : Pos} (hg : Gl X x) (hm : X.mg x = some u) (r : RelV (.int i) u) (hd : (x == ("__debug__" : Str)) = false := by decide) : PE X (.Name x pos) (tE X.K Z (wC (.int i))) :=
  pe_to (pe_glob hg hm r hd) (tE_const fun _ => .int i)
def wV (i : Nat) : WE := fun ρ R => asF (nth ρ i) fun f => R (.fz f) ρ
theorem asF_iff {x : O} {k : PyData → Prop} (h : asF x k) : ∃ f, x = .fz f ∧ k f := by
  cases x with
  | fz f => exact ⟨f, rfl, h⟩
  | _ => exact False.elim h
theorem e_var (i : Nat) {x : Str} {pos : Pos} (hN : X.N[i]? = some x := by rfl) (hv : Vis X.env.scope x := by first | exact Or.inl rfl | exact Or.inr (Or.inl rfl) | exact Or.inr (Or.inr rfl)) (hd : (x == ("__debug__" : Str)) = false := by decide)
    (hcd : (x == ("__classdict__" : Str)) = false := by decide) : PE X (.Name x pos) (tE X.K Z (wV i)) := pe_to (pe_var hN hv hd hcd) fun σ H Q h => by
  obtain ⟨B, ρ, fp, R, k, h, q⟩ := h
  obtain ⟨f, e, h⟩ := asF_iff h
  obtain ⟨v, f1, e1, r, _⟩ := k.slot e (fun z => nomatch z)
  cases r with
  | fz r => exact ⟨v, e1, q _ ρ h v H B fp (Nxt.refl _ _ _) (k.addF r)⟩
def wM (i : Nat) : WE := fun ρ R => notHid (nth ρ i) (R (nth ρ i) (ρ.set i .hid))
theorem e_mov (i : Nat) {x : Str} {pos : Pos} (hN : X.N[i]? = some x := by rfl) (hv : Vis X.env.scope x := by first | exact Or.inl rfl | exact Or.inr (Or.inl rfl) | exact Or.inr (Or.inr rfl)) (hd : (x == ("__debug__" : Str)) = false := by decide)
    (hcd : (x == ("__classdict__" : Str)) = false := by decide) : PE X (.Name x pos) (tE X.K Z (wM i)) := pe_to (pe_var hN hv hd hcd) fun σ H Q h => by
  obtain ⟨B, ρ, fp, R, k, h, q⟩ := h
  obtain ⟨hx, h⟩ := notHid_iff h
  have e := nth_some rfl hx
  obtain ⟨v, f1, f2, h1, h2, h3, h4⟩ := k.rs.split e
  obtain ⟨v', f', e1, _, _⟩ := k.slot rfl hx
  rw [valsOf_get, e1] at h1
  have e2 : v' = v := Option.some.inj h1
  subst e2
  refine ⟨v', e1, q _ _ h v' H B (f1 ++ f2) (Nxt.self fun a ha => h4.symm.subset ha) ⟨k.sub, fun j z => ?_, ?_, h4.nodup k.nd, fun a ha => k.out a (h4.symm.subset ha), k.nx.less fun a ha => h4.symm.subset ha⟩⟩
  · cases j with
    | zero => cases z
    | succ j =>
      have := k.un j z
      show (ρ.set i .hid)[j]? = some O.hid
      rw [List.getElem?_set]
      split
      · rename_i hh
        have hj : i < ρ.length := (List.getElem?_eq_some_iff.mp e).1
        rw [if_pos hj]
      · exact this
  · rw [valsOf_cons]
    exact .cons h2 h3
theorem e_bin {op : Operator} {r : R2} {od : List O → (O → Prop) → Prop} {a1 a2 : AD} (ho : OpR X (binaryOp op) r) (hr : Rd X.K (r2L r) od) (ha : PE X a (tAD X.K Z a1)) (hb : PE X b (tAD X.K Z a2)) : PE X (.BinOp a op b pos) (tE X.K Z (wRd [a1, a2] od)) :=
  pe_to (pe_op ho ha hb) fun σ H Q h => rd_glue hr h
theorem e_cmp {op : CmpOp} {r : R2} {od : List O → (O → Prop) → Prop} {a1 a2 : AD} (ho : OpR X (compareOp op) r) (hr : Rd X.K (r2L r) od) (ha : PE X a (tAD X.K Z a1)) (hb : PE X b (tAD X.K Z a2)) (hm : behindInMarks op b = false) : PE X (.Compare a [op] [b] pos) (tE X.K Z (wRd [a1, a2] od)) :=
  pe_to (pe_cmpR ho ha hb hm) fun σ H Q h => rd_glue hr h
theorem e_un {op : UnaryOp} {r : V → Hp → VK → Prop} {od : List O → (O → Prop) → Prop} {a1 : AD} (ho : UnR X (unaryOp op) r) (hr : Rd X.K (r1L r) od) (ha : PE X a (tAD X.K Z a1)) : PE X (.UnaryOp op a pos) (tE X.K Z (wRd [a1] od)) :=
  pe_to (pe_un ho ha) fun σ H Q h => rd_glue hr h
theorem e_ix {r : R2} {od : List O → (O → Prop) → Prop} {a1 a2 : AD} (ho : IxR X r) (hr : Rd X.K (r2L r) od) (ha : PE X a (tAD X.K Z a1)) (hb : PE X b (tAD X.K Z a2)) (hs : PlainIx b) : PE X (.Subscript a b pos) (tE X.K Z (wRd [a1, a2] od)) :=
  pe_to (pe_ix ho ha hb hs) fun σ H Q h => rd_glue hr h
theorem e_callB {x : Str} {p : Pos} {es : List Expr} {as : List AD} {id : String} {r : List V → Hp → VK → Prop} {od : List O → (O → Prop) → Prop} (hc : CallR X (.builtin id) r) (hr : Rd X.K r od) (hg : Gl X x) (hm : X.mg x = none) (hv : bootBuiltins x = some (.builtin id)) (ha : PA X (e :: es) (tADs X.K Z as))
    (hn : x ≠ "__name__" := by decide) (hdb : (x == ("__debug__" : Str)) = false := by decide) (he : starEach (e :: es) X.env = (false, eval e X.env) :: starEach es X.env := by rfl) (hpl : (backTo pos (starEach es X.env)).any (·.1) = false := by rfl) : PE X (.Call (.Name x p) (e :: es) [] pos) (tE X.K Z (wRd as od)) :=
  pe_to (pe_callB hc hg hm hv ha hn hdb he hpl) fun σ H Q h => rd_glue hr h
theorem e_callT {x : Str} {p : Pos} {es : List Expr} {as : List AD} {T : String} {r : List V → Hp → VK → Prop} {od : List O → (O → Prop) → Prop} (hc : CallR X (.type T) r) (hr : Rd X.K r od) (hg : Gl X x) (hm : X.mg x = none) (hv : bootBuiltins x = some (.type T)) (ha : PA X (e :: es) (tADs X.K Z as))
    (hn : x ≠ "__name__" := by decide) (hdb : (x == ("__debug__" : Str)) = false := by decide) (he : starEach (e :: es) X.env = (false, eval e X.env) :: starEach es X.env := by rfl) (hpl : (backTo pos (starEach es X.env)).any (·.1) = false := by rfl) : PE X (.Call (.Name x p) (e :: es) [] pos) (tE X.K Z (wRd as od)) :=
  pe_to (pe_callTy hc hg hm hv ha hn hdb he hpl) fun σ H Q h => rd_glue hr h
end
end Pt
namespace Pt
open PySem PySem.Spec L2
def br (b : Bool) (P Q : Prop) : Prop := match b with
  | true => P
  | false => Q
theorem br_iff {b : Bool} {P Q : Prop} : br b P Q ↔ (b = true → P) ∧ (b = false → Q) := by
  cases b with
  | true => exact ⟨fun h => ⟨fun _ => h, (fun e => nomatch e)⟩, fun h => h.1 rfl⟩
  | false => exact ⟨fun h => ⟨(fun e => nomatch e), fun _ => h⟩, fun h => h.2 rfl⟩
theorem br_mk {b : Bool} {P Q : Prop} (h1 : b = true → P) (h2 : b = false → Q) : br b P Q := br_iff.mpr ⟨h1, h2⟩
def asB : O → (Bool → Prop) → Prop
  | .fz (.bool b), k => k b
  | _, _ => False
theorem asB_iff {x : O} {k : Bool → Prop} (h : asB x k) : ∃ b, x = .fz (.bool b) ∧ k b := by
  cases x with
  | fz f =>
    cases f with
    | bool b => exact ⟨b, rfl, h⟩
    | _ => exact False.elim h
  | _ => exact False.elim h
def asI : O → (Int → Prop) → Prop
  | .fz (.int i), k => k i
  | _, _ => False
theorem asI_iff {x : O} {k : Int → Prop} (h : asI x k) : ∃ b, x = .fz (.int b) ∧ k b := by
  cases x with
  | fz f =>
    cases f with
    | int b => exact ⟨b, rfl, h⟩
    | _ => exact False.elim h
  | _ => exact False.elim h
mutual
def frO : O → Option PyData
  | .fz f => some f
  | .ol xs => (frOs xs).map PyData.list
  | .ot xs => (frOs xs).map PyData.tuple
  | .od kvs => (frKs kvs).map PyData.dict
  | .oi _ _ => none
  | .exn _ _ => none
  | .scr _ => none
  | .lf ds => some (.list ds)
  | .df kvs => some (.dict (kvs.map fun p => (kD p.1, p.2)))
  | .tn ds => some (.tuple ds)
  | .dl _ => none
  | .dt _ => none
  | .dq _ => none
  | .dn _ _ => none
  | .dz _ _ => none
  | .fo _ _ => none
  | .fl _ => none
  | .al _ => none
  | .lb _ _ => none
  | .hid => none
def frOs : List O → Option (List PyData)
  | [] => some []
  | x :: xs => (frO x).bind fun d => (frOs xs).map (d :: ·)
def frKs : List (Key × O) → Option (List (PyData × PyData))
  | [] => some []
  | (k, x) :: xs => (frO x).bind fun d => (frKs xs).map ((kD k, d) :: ·)
end
section
variable {K : PySem.W.Frag} {B B' H : Hp}
theorem RFd.of : ∀ {kvs : List (Key × V)} {ds : List (Key × PyData)}, kvs.map (·.1) = ds.map (·.1) → RFs K B (kvs.map (·.2)) (ds.map (·.2)) → RFd K B kvs (ds.map fun p => (kD p.1, p.2))
  | [], [], _, _ => .nil
  | [], _ :: _, e, _ => by cases e
  | _ :: _, [], e, _ => by cases e
  | (k, v) :: kvs, (k2, d) :: ds, e, r => by
    have e1 : k = k2 := (List.cons.inj e).1
    have e2 := (List.cons.inj e).2
    subst e1
    cases r with
    | cons a b => exact .cons a (RFd.of e2 b)
mutual
theorem RO.freeze (s : Sub B B') : ∀ {x : O} {v : V} {fp : List Addr} {f : PyData}, RO K B H v x fp → frO x = some f → (∀ a ∈ fp, ∀ o, H a = some o → B' a = some o) → RF K B' v f
  | .fz _, _, _, _, .fz r, e, _ => by
    cases e
    exact r.mono s
  | .ol xs, _, _, f, .ol h r, e, k => by
    simp only [frO] at e
    cases q : frOs xs with
    | none => rw [q] at e; cases e
    | some ds =>
      rw [q] at e
      cases e
      exact .lst (k _ (List.mem_cons_self ..) _ h) (ROs.freeze s r q fun a ha => k a (List.mem_cons_of_mem _ ha))
  | .ot xs, _, _, f, .ot h r, e, k => by
    simp only [frO] at e
    cases q : frOs xs with
    | none => rw [q] at e; cases e
    | some ds =>
      rw [q] at e
      cases e
      exact .tup (SqT.of (s _ _ h)) (ROs.freeze s r q k)
  | .od kvs, _, _, f, .od (kvs := ks) h e1 r, e, k => by
    simp only [frO] at e
    cases q : frKs kvs with
    | none => rw [q] at e; cases e
    | some ds =>
      rw [q] at e
      cases e
      exact .dic (k _ (List.mem_cons_self ..) _ h) (ROs.freezeK s e1 r q fun a ha => k a (List.mem_cons_of_mem _ ha))
  | .oi _ _, _, _, _, _, e, _ => nomatch e
  | .exn _ _, _, _, _, _, e, _ => nomatch e
  | .scr _, _, _, _, _, e, _ => nomatch e
  | .lf _, _, _, _, .lf h r, e, k => by
    cases e
    exact .lst (k _ (List.mem_cons_self ..) _ h) (r.mono s)
  | .df _, _, _, _, .df h q r, e, k => by
    cases e
    exact .dic (k _ (List.mem_cons_self ..) _ h) (RFd.mono s (RFd.of q r))
  | .tn ds, _, _, _, .tn e1 _ r, e, _ => by
    cases e
    exact .tup (s.sqT e1) (r.mono s)
  | .hid, _, _, _, _, e, _ => nomatch e
  | .dl _, _, _, _, _, e, _ => nomatch e
  | .dt _, _, _, _, _, e, _ => nomatch e
  | .dq _, _, _, _, _, e, _ => nomatch e
  | .dn _ _, _, _, _, _, e, _ => nomatch e
  | .dz _ _, _, _, _, _, e, _ => nomatch e
  | .fo _ _, _, _, _, _, e, _ => nomatch e
  | .fl _, _, _, _, _, e, _ => nomatch e
  | .al _, _, _, _, _, e, _ => nomatch e
  | .lb _ _, _, _, _, _, e, _ => nomatch e
theorem ROs.freeze (s : Sub B B') : ∀ {xs : List O} {vs : List V} {fp : List Addr} {ds : List PyData}, ROs K B H vs xs fp → frOs xs = some ds → (∀ a ∈ fp, ∀ o, H a = some o → B' a = some o) → RFs K B' vs ds
  | [], _, _, _, .nil, e, _ => by
    cases e
    exact .nil
  | x :: xs, _, _, ds, .cons r t, e, k => by
    simp only [frOs] at e
    cases q : frO x with
    | none => rw [q] at e; cases e
    | some d =>
      rw [q] at e
      cases q2 : frOs xs with
      | none => rw [q2] at e; cases e
      | some es =>
        rw [q2] at e
        cases e
        exact .cons (RO.freeze s r q fun a ha => k a (List.mem_append_left _ ha)) (ROs.freeze s t q2 fun a ha => k a (List.mem_append_right _ ha))
theorem ROs.freezeK (s : Sub B B') : ∀ {kvs : List (Key × O)} {ks : List (Key × V)} {fp : List Addr} {ds : List (PyData × PyData)}, ks.map (·.1) = kvs.map (·.1) → ROs K B H (ks.map (·.2)) (kvs.map (·.2)) fp → frKs kvs = some ds → (∀ a ∈ fp, ∀ o, H a = some o → B' a = some o) → RFd K B' ks ds
  | [], [], _, _, _, _, e, _ => by
    cases e
    exact .nil
  | [], _ :: _, _, _, e1, _, _, _ => by cases e1
  | _ :: _, [], _, _, e1, _, _, _ => by cases e1
  | (k0, x) :: kvs, (k1, v) :: ks, _, ds, e1, r, e, k => by
    have e2 : k1 = k0 := (List.cons.inj e1).1
    have e3 := (List.cons.inj e1).2
    subst e2
    simp only [frKs] at e
    cases q : frO x with
    | none => rw [q] at e; cases e
    | some d =>
      rw [q] at e
      cases q2 : frKs kvs with
      | none => rw [q2] at e; cases e
      | some es =>
        rw [q2] at e
        cases e
        cases r with
        | cons r t => exact .cons (RO.freeze s r q fun a ha => k a (List.mem_append_left _ ha)) (ROs.freezeK s e3 t q2 fun a ha => k a (List.mem_append_right _ ha))
end
end
def addB (B H : Hp) (fp : List Addr) : Hp := fun a => if a ∈ fp then H a else B a
section
variable {K : PySem.W.Frag} {Z : Ent} {B H : Hp} {σ τ : St} {ρ xs : En} {fp f1 f2 : List Addr} {v : V} {x : O} {f : PyData}
theorem Sub.addB (s : Sub B H) (fp : List Addr) : Sub B (addB B H fp) := fun a o e => by
  unfold Pt.addB
  split
  · exact s a o e
  · exact e
theorem Nxt.addB (s : Sub B H) (hn : ∀ a ∈ f1, ∃ o, H a = some o ∧ Pl o) (h : ∀ a ∈ f1, a ∈ fp) (h2 : ∀ a ∈ f2, a ∈ fp) : Nxt B H fp (addB B H f1) H f2 := ⟨s.addB f1, fun _ _ e _ _ => e, fun a e => by
  unfold Pt.addB at e
  split at e
  · rename_i m; exact .inr (.inr (h a m))
  · exact .inl e, fun a ha => .inl (h2 a ha), fun _ e => e, TbK.refl H, fun n a o e => by
  unfold Pt.addB at e
  split at e
  · rename_i m
    obtain ⟨o', e', p⟩ := hn a m
    rw [e'] at e; cases e; exact p.1
  · exact n a o e⟩
theorem Ok.fr1 (k : Ok K Z B H (some v :: σ) (x :: ρ) fp) (e : frO x = some f) : ∃ B' f2, Nxt B H fp B' H f2 ∧ Ok K Z B' H (some v :: σ) (.fz f :: ρ) f2 := by
  obtain ⟨f1, f2, rfl, r, k2, fr⟩ := Ok.frame (τ := [some v]) (xs := [x]) k rfl
  obtain ⟨n1, n2, n3⟩ := List.nodup_append.mp k.nd
  rw [show valsOf [some v] = [v] from rfl] at r
  cases r with
  | @cons _ _ _ _ g1 g2 r t =>
    cases t
    rw [List.append_nil] at *
    have n : Nxt B H (g1 ++ f2) (addB B H g1) H f2 := Nxt.addB k.sub r.liveP (fun a ha => List.mem_append_left _ ha) (fun a ha => List.mem_append_right _ ha)
    refine ⟨addB B H g1, f2, n, ?_⟩
    have k3 : Ok K Z (addB B H g1) H σ ρ f2 := ⟨fun a o e => ?_, k2.un, k2.rs.next (k.sub.addB g1) fun _ _ _ e _ => e, k2.nd, fun a ha => ?_, k.nx.trans n⟩
    · refine k3.addF (r.freeze (k.sub.addB g1) e fun a ha o q => ?_)
      unfold addB
      rw [if_pos ha]
      exact q
    · unfold addB at e
      split at e
      · exact e
      · exact k.sub a o e
    · unfold addB
      rw [if_neg fun h => n3 a h a ha rfl]
      exact k2.out a ha
theorem Ok.frS (k : Ok K Z B H σ ρ fp) {i : Nat} (h : frO (nth ρ i) = some f) : ∃ B' f2, Nxt B H fp B' H f2 ∧ Ok K Z B' H σ (ρ.set i (.fz f)) f2 := by
  have hx : nth ρ i ≠ .hid := fun e => by rw [e] at h; cases h
  have e := nth_some rfl hx
  obtain ⟨v, g1, g2, h1, r, t, p⟩ := k.rs.split e
  have m1 : ∀ a ∈ g1, a ∈ fp := fun a ha => p.symm.subset (List.mem_append_left _ ha)
  have m2 : ∀ a ∈ g2, a ∈ fp := fun a ha => p.symm.subset (List.mem_append_right _ ha)
  obtain ⟨n1, n2, n3⟩ := List.nodup_append.mp (p.nodup k.nd)
  have n : Nxt B H fp (addB B H g1) H g2 := Nxt.addB k.sub r.liveP m1 m2
  have hi : i < ρ.length := (List.getElem?_eq_some_iff.mp e).1
  have rf : RF K (addB B H g1) v f := r.freeze (k.sub.addB g1) h fun a ha o q => by
    unfold addB
    rw [if_pos ha]
    exact q
  have t2 := t.next (B' := addB B H g1) (H' := H) (k.sub.addB g1) fun _ _ _ e _ => e
  obtain ⟨g3, w1, w2⟩ := ROs.put (i := i) t2 (by rw [List.getElem?_set_self hi]) (RO.fz (H := H) rf)
  rw [List.nil_append] at w2
  rw [List.set_set] at w1
  have ev : (valsOf σ).set i v = valsOf σ := by
    obtain ⟨hl, hg⟩ := List.getElem?_eq_some_iff.mp h1
    rw [← hg]
    exact List.set_getElem_self hl
  rw [ev] at w1
  refine ⟨addB B H g1, g3, n.less fun a ha => w2.subset ha, ⟨fun a o e => ?_, fun j z => ?_, w1, w2.symm.nodup n2, fun a ha => ?_, k.nx.trans (n.less fun a ha => w2.subset ha)⟩⟩
  · unfold addB at e
    split at e
    · exact e
    · exact k.sub a o e
  · have q := k.un j z
    by_cases hj : i = j
    · subst hj
      rw [e] at q
      exact absurd (Option.some.inj q) hx
    · rw [List.getElem?_set_ne hj]
      exact q
  · have ha' := w2.subset ha
    unfold addB
    rw [if_neg fun h => n3 a h a ha' rfl]
    exact k.out a (m2 a ha')
theorem Ok.store (k : Ok K Z B H (some v :: σ) (x :: ρ) fp) (i : Nat) : ∃ f2, Ok K Z B H (σ.set i (some v)) (ρ.set i x) f2 ∧ ∀ a ∈ f2, a ∈ fp := by
  by_cases hi : i < ρ.length
  · obtain ⟨f1, f2, rfl, r, k2, _⟩ := Ok.frame (τ := [some v]) (xs := [x]) k rfl
    obtain ⟨n1, n2, n3⟩ := List.nodup_append.mp k.nd
    rw [show valsOf [some v] = [v] from rfl] at r
    cases r with
    | @cons _ _ _ _ g1 g2 r t =>
      cases t
      rw [List.append_nil] at *
      obtain ⟨f3, t1, t2, t3⟩ := k2.rs.forget i
      obtain ⟨f4, w1, w2⟩ := ROs.put (i := i) t1 (by rw [List.getElem?_set_self hi]) r
      rw [List.set_set] at w1
      have hl := k2.len
      have ev : (valsOf σ).set i v = valsOf (σ.set i (some v)) := by
        unfold valsOf
        rw [List.map_set]
        rfl
      rw [ev] at w1
      have hm : ∀ a ∈ f4, a ∈ g1 ++ f2 := fun a ha => by
        rcases List.mem_append.mp (w2.subset ha) with h | h
        · exact List.mem_append_left _ h
        · exact List.mem_append_right _ (t2 a h)
      refine ⟨f4, k.part (fun j z => ?_) w1 (w2.symm.nodup (List.nodup_append.mpr ⟨n1, t3 n2, fun a ha b hb e => n3 a ha b (t2 b hb) e⟩)) hm, hm⟩
      by_cases hj : i = j
      · subst hj
        rw [List.getElem?_set_self (by omega)] at z
        cases z
      · rw [List.getElem?_set_ne hj] at z
        rw [List.getElem?_set_ne hj]
        exact k2.un j z
  · obtain ⟨f2, k2, h⟩ := k.drop1
    have hl := k2.len
    have hl' : σ.length = ρ.length := hl
    rw [List.set_eq_of_length_le (by omega), List.set_eq_of_length_le (by omega)]
    exact ⟨f2, k2, h⟩
end
def Pin (ps : List Nat) (σ σ' : St) : Prop := ∀ k ∈ ps, (σ'[k]? : Option (Option V)) = σ[k]?
theorem Pin.refl (ps : List Nat) (σ : St) : Pin ps σ σ := fun _ _ => rfl
theorem Pin.trans {ps : List Nat} {σ σ1 σ2 : St} (a : Pin ps σ σ1) (b : Pin ps σ1 σ2) : Pin ps σ σ2 := fun k h => (b k h).trans (a k h)
theorem Pin.set {ps : List Nat} {σ : St} {i : Nat} {v : Option V} (h : ps.contains i = false) : Pin ps σ (σ.set i v) := fun k hk => by
  have hne : i ≠ k := fun e => by
    subst e
    have : ps.contains i = true := List.elem_eq_true_of_mem hk
    rw [h] at this; cases this
  exact List.getElem?_set_ne hne
structure Post (K : PySem.W.Frag) (Z : Ent) (ps : List Nat) (B H : Hp) (fp : List Addr) (σ : St) (E : DE) (D : Ends) : Prop where
  nx : ∀ ρ', E.nx ρ' → ∀ σ' H' B' fp', Nxt B H fp B' H' fp' → Ok K Z B' H' σ' ρ' fp' → Pin ps σ σ' → D.nx σ' H'
  rt : ∀ d ρ', E.rt d ρ' → ∀ v σ' H' B' fp', Nxt B H fp B' H' fp' → Ok K Z B' H' (some v :: σ') (d :: ρ') fp' → Pin ps σ σ' → D.rt v H'
  bk : ∀ ρ', E.bk ρ' → ∀ σ' H' B' fp', Nxt B H fp B' H' fp' → Ok K Z B' H' σ' ρ' fp' → Pin ps σ σ' → D.bk σ' H'
  ct : ∀ ρ', E.ct ρ' → ∀ σ' H' B' fp', Nxt B H fp B' H' fp' → Ok K Z B' H' σ' ρ' fp' → Pin ps σ σ' → D.ct σ' H'
  xc : ∀ x ρ', E.xc x ρ' → ∀ cls d σ' H' B' fp', Nxt B H fp B' H' fp' → Ok K Z B' H' σ' ρ' fp' → Pin ps σ σ' → RX K Z.mg B' cls d x → Z.W cls d σ' H'
section
variable {K : PySem.W.Frag} {Z : Ent} {ps : List Nat} {B H B1 H1 : Hp} {fp f1 : List Addr} {σ σ1 : St} {E : DE} {D : Ends}
theorem Post.step (p : Post K Z ps B H fp σ E D) (n : Nxt B H fp B1 H1 f1) (q : Pin ps σ σ1) : Post K Z ps B1 H1 f1 σ1 E D :=
  ⟨fun ρ' h σ' H' B' fp' n' k' q' => p.nx ρ' h σ' H' B' fp' (n.trans n') k' (q.trans q'), fun d ρ' h v σ' H' B' fp' n' k' q' => p.rt d ρ' h v σ' H' B' fp' (n.trans n') k' (q.trans q'),
    fun ρ' h σ' H' B' fp' n' k' q' => p.bk ρ' h σ' H' B' fp' (n.trans n') k' (q.trans q'), fun ρ' h σ' H' B' fp' n' k' q' => p.ct ρ' h σ' H' B' fp' (n.trans n') k' (q.trans q'),
    fun x ρ' h cls d σ' H' B' fp' n' k' q' => p.xc x ρ' h cls d σ' H' B' fp' (n.trans n') k' (q.trans q')⟩
end
def tS (K : PySem.W.Frag) (Z : Ent) (ps : List Nat) (w : WS) : TS := fun D σ H => ∃ B ρ fp E, Ok K Z B H σ ρ fp ∧ w E ρ ∧ Post K Z ps B H fp σ E D
section
variable {X : Cx} {Z : Ent} {ps : List Nat} {e a b : Expr} {pos : Pos} {w : WE} {st : Stmt} {sts sts2 : List Stmt} {s s2 : WS} {wt wt2 : WT}
def wTb (w : WE) : WT := fun ρ R => w ρ fun d ρ1 => asB d fun b => R b ρ1
theorem tT_tE {K : PySem.W.Frag} {σ : St} {H : Hp} {Q : Bool → Hp → Prop} (h : tT K Z (wTb w) σ H Q) : tE K Z w σ H fun x H' => ∃ k, x = .bl k ∧ Q k H' := by
  obtain ⟨B, ρ, fp, R, k, h, q⟩ := h
  refine ⟨B, ρ, fp, _, k, h, fun d ρ' h1 v H' B' fp' n k1 => ?_⟩
  obtain ⟨b, rfl, h2⟩ := asB_iff h1
  have r := k1.headF
  obtain ⟨f2, k2, hs⟩ := k1.drop1
  cases r
  exact ⟨b, rfl, q b ρ' h2 H' B' f2 (n.less hs) k2⟩
theorem t_val (h : PE X e (tE X.K Z w)) (he : ∀ whole, isTrue e X.env whole = (do let v ← whole; standAt e.pos; holding [v] (truthy v)) := by intro _; rfl) : PT X e (tT X.K Z (wTb w)) :=
  pt_to (pt_val h he) fun σ H Q q => tT_tE q
theorem t_cmp {op : CmpOp} {r : R2} {od : List O → (O → Prop) → Prop} {a1 a2 : AD} (ho : OpR X (compareOp op) r) (hr : Rd X.K (r2L r) od) (ha : PE X a (tAD X.K Z a1)) (hb : PE X b (tAD X.K Z a2)) (hm : behindInMarks op b = false) : PT X (.Compare a [op] [b] pos) (tT X.K Z (wTb (wRd [a1, a2] od))) :=
  pt_to (pt_cmpR ho ha hb hm) fun σ H Q q => rd_glue hr (tT_tE q)
def wTnot (w : WT) : WT := fun ρ R => w ρ fun b ρ1 => R (!b) ρ1
theorem t_not (h : PT X a (tT X.K Z wt)) : PT X (.UnaryOp .Not a pos) (tT X.K Z (wTnot wt)) := pt_to (pt_not h) fun σ H Q q => by
  obtain ⟨B, ρ, fp, R, k, h, q⟩ := q
  exact ⟨B, ρ, fp, _, k, h, fun b ρ' h1 H' B' fp' n k1 => q (!b) ρ' h1 H' B' fp' n k1⟩
def wTand (w w2 : WT) : WT := fun ρ R => w ρ fun b ρ1 => br b (w2 ρ1 R) (R false ρ1)
def wTor (w w2 : WT) : WT := fun ρ R => w ρ fun b ρ1 => br b (R true ρ1) (w2 ρ1 R)
theorem tT_or {K : PySem.W.Frag} {σ : St} {H : Hp} {Q : Bool → Hp → Prop} (h : tT K Z (wTor wt wt2) σ H Q) : tOr (tT K Z wt) (tT K Z wt2) σ H Q := by
  obtain ⟨B, ρ, fp, R, k, h, q⟩ := h
  refine ⟨B, ρ, fp, _, k, h, fun b ρ' h1 H' B' fp' n k1 => ?_⟩
  cases b with
  | false =>
    rw [if_neg Bool.false_ne_true]
    exact ⟨B', ρ', fp', R, k1, h1, fun b ρ2 h2 H2 B2 fp2 n2 k2 => q b ρ2 h2 H2 B2 fp2 (n.trans n2) k2⟩
  | true =>
    rw [if_pos rfl]
    exact q true ρ' h1 H' B' fp' n k1
variable {rest : List Expr}
theorem tw_or1 (ha : PT X a (tT X.K Z wt)) : PW X (.BoolOp .Or [a] pos) (tT X.K Z wt) := pw_or1 ha
theorem tw_or (ha : PT X a (tT X.K Z wt)) (hb : PW X (.BoolOp .Or (b :: rest) pos) (tT X.K Z wt2)) : PW X (.BoolOp .Or (a :: b :: rest) pos) (tT X.K Z (wTor wt wt2)) := pw_to (pw_or ha hb) fun _ _ _ q => tT_or q
def wAndV (w w2 : WE) : WE := fun ρ R => w ρ fun d ρ1 => asB d fun b => br b (w2 ρ1 R) (R (.fz (.bool false)) ρ1)
def wOrV (w w2 : WE) : WE := fun ρ R => w ρ fun d ρ1 => asB d fun b => br b (R (.fz (.bool true)) ρ1) (w2 ρ1 R)
def wNotV (w : WE) : WE := fun ρ R => w ρ fun d ρ1 => asB d fun b => R (.fz (.bool (!b))) ρ1
variable {w2 : WE}
theorem e_one {op} (h : PE X a (tE X.K Z w)) : PE X (.BoolOp op [a] pos) (tE X.K Z w) := pe_one h
theorem e_and (ha : PE X a (tE X.K Z w)) (hb : PE X (.BoolOp .And (b :: rest) pos) (tE X.K Z w2)) : PE X (.BoolOp .And (a :: b :: rest) pos) (tE X.K Z (wAndV w w2)) := pe_to (pe_and ha hb) fun σ H Q q => by
  obtain ⟨B, ρ, fp, R, k, h, q⟩ := q
  refine ⟨B, ρ, fp, _, k, h, fun d ρ' h1 v H' B' fp' n k1 => ?_⟩
  obtain ⟨c, rfl, h2⟩ := asB_iff h1
  have r := k1.headF
  obtain ⟨f2, k2, hs⟩ := k1.drop1
  cases r
  refine ⟨c, rfl, ?_⟩
  cases c with
  | true =>
    rw [if_pos rfl]
    exact ⟨B', ρ', f2, R, k2, h2, fun d ρ2 h3 v H2 B2 fp2 n2 k3 => q d ρ2 h3 v H2 B2 fp2 ((n.less hs).trans n2) k3⟩
  | false =>
    rw [if_neg Bool.false_ne_true]
    exact q _ ρ' h2 _ H' B' f2 (n.less hs) (k2.addF (.bl false))
theorem e_not (ha : PE X a (tE X.K Z w)) : PE X (.UnaryOp .Not a pos) (tE X.K Z (wNotV w)) := pe_to (pe_not ha) fun σ H Q q => by
  obtain ⟨B, ρ, fp, R, k, h, q⟩ := q
  refine ⟨B, ρ, fp, _, k, h, fun d ρ' h1 v H' B' fp' n k1 => ?_⟩
  obtain ⟨c, rfl, h2⟩ := asB_iff h1
  have r := k1.headF
  obtain ⟨f2, k2, hs⟩ := k1.drop1
  cases r
  exact ⟨c, rfl, q _ ρ' h2 _ H' B' f2 (n.less hs) (k2.addF (.bl _))⟩
def wIf (wt : WT) (w w2 : WE) : WE := fun ρ R => wt ρ fun b ρ1 => br b (w ρ1 R) (w2 ρ1 R)
def sNext : WS := fun E ρ => E.nx ρ
def sSeq (s s2 : WS) : WS := fun E ρ => s { E with nx := s2 E } ρ
theorem ss_nil : PSs X [] (tS X.K Z ps sNext) := pss_to pss_nil fun D σ H h => by
  obtain ⟨B, ρ, fp, E, k, h, p⟩ := h
  exact p.nx ρ h σ H B fp (Nxt.refl _ _ _) k (Pin.refl _ _)
theorem ss_one (h : PS X st (tS X.K Z ps s)) : PSs X [st] (tS X.K Z ps s) := pss_one h
theorem ss_cons (h : PS X st (tS X.K Z ps s)) (h2 : PSs X sts (tS X.K Z ps s2)) : PSs X (st :: sts) (tS X.K Z ps (sSeq s s2)) := pss_to (pss_cons h h2) fun D σ H q => by
  obtain ⟨B, ρ, fp, E, k, q, p⟩ := q
  exact ⟨B, ρ, fp, _, k, q, ⟨fun ρ' h σ' H' B' fp' n k' pn => ⟨B', ρ', fp', E, k', h, p.step n pn⟩, p.rt, p.bk, p.ct, p.xc⟩⟩
def sBreak : WS := fun E ρ => E.bk ρ
def sCont : WS := fun E ρ => E.ct ρ
def sNever : WS := fun _ _ => False
theorem s_never : PS X st (tS X.K Z ps sNever) := ps_to ps_never fun D σ H h => by
  obtain ⟨B, ρ, fp, E, k, h, p⟩ := h
  exact h
def sDrop (w : WE) : WS := fun E ρ => w ρ fun _ ρ1 => E.nx ρ1
theorem s_expr (h : PE X e (tE X.K Z w)) (hs : swapsWith e none pos.line X.env = pure false := by rfl) : PS X (.Expr e pos) (tS X.K Z ps (sDrop w)) := ps_to (ps_expr h hs) fun D σ H q => by
  obtain ⟨B, ρ, fp, E, k, q, p⟩ := q
  refine ⟨B, ρ, fp, _, k, q, fun d ρ' h1 v H' B' fp' n k1 => ?_⟩
  obtain ⟨f2, k2, hs⟩ := k1.drop1
  exact p.nx ρ' h1 σ H' B' f2 (n.less hs) k2 (Pin.refl _ _)
def sRet (w : WE) : WS := fun E ρ => w ρ fun d ρ1 => E.rt d ρ1
theorem s_ret (h : PE X e (tE X.K Z w)) : PS X (.Return (some e) pos) (tS X.K Z ps (sRet w)) := ps_to (ps_ret h) fun D σ H q => by
  obtain ⟨B, ρ, fp, E, k, q, p⟩ := q
  exact ⟨B, ρ, fp, _, k, q, fun d ρ' h1 v H' B' fp' n k1 => p.rt d ρ' h1 v σ H' B' fp' n k1 (Pin.refl _ _)⟩
def sRetN : WS := fun E ρ => E.rt (.fz .none) ρ
def sIf (wt : WT) (s s2 : WS) : WS := fun E ρ => wt ρ fun b ρ1 => br b (s E ρ1) (s2 E ρ1)
theorem s_if {c : Expr} (hc : PT X c (tT X.K Z wt)) (ha : PSs X sts (tS X.K Z ps s)) (hb : PSs X sts2 (tS X.K Z ps s2)) : PS X (.If c sts sts2 pos) (tS X.K Z ps (sIf wt s s2)) := ps_to (ps_if hc ha hb) fun D σ H q => by
  obtain ⟨B, ρ, fp, E, k, q, p⟩ := q
  refine ⟨B, ρ, fp, _, k, q, fun c ρ' h1 H' B' fp' n k1 => ?_⟩
  cases c with
  | true =>
    rw [if_pos rfl]
    exact ⟨B', ρ', fp', E, k1, h1, p.step n (Pin.refl _ _)⟩
  | false =>
    rw [if_neg Bool.false_ne_true]
    exact ⟨B', ρ', fp', E, k1, h1, p.step n (Pin.refl _ _)⟩
def sStore (i : Nat) (w : WE) : WS := fun E ρ => w ρ fun d ρ1 => E.nx (ρ1.set i d)
theorem sStore_ok {K : PySem.W.Frag} {i : Nat} {D : Ends} {σ : St} {H : Hp} (hp : ps.contains i = false) (q : tS K Z ps (sStore i w) D σ H) : tE K Z w σ H fun v H1 => D.nx (σ.set i (some v)) H1 := by
  obtain ⟨B, ρ, fp, E, k, q, p⟩ := q
  refine ⟨B, ρ, fp, _, k, q, fun d ρ' h1 v H' B' fp' n k1 => ?_⟩
  obtain ⟨f2, k2, hs⟩ := k1.store i
  exact p.nx _ h1 _ H' B' f2 (n.less hs) k2 (Pin.set hp)
theorem s_set {i : Nat} {x : Str} {pos' : Pos} (hN : X.N.Nodup) (hi : X.N[i]? = some x) (hx : Loc X.env.scope x) (hp : ps.contains i = false) (he : PE X e (tE X.K Z w)) (hs : swapsWith e (some (.Name x pos')) pos.line X.env = pure false := by rfl)
    (hf : X.fn x = true ∨ X.env.scope.names.lookup x = some .local := by first | exact .inl rfl | exact .inr rfl | assumption)
    (hw : swappedStores [.Name x pos'] e X.env = pure none := by rfl) : PS X (.Assign [.Name x pos'] e pos) (tS X.K Z ps (sStore i w)) :=
  ps_to (ps_asg he (pg_name hN hi hx hf) hs hw) fun D σ H q => sStore_ok hp q
def wFz (w : WE) : WE := fun ρ R => w ρ fun d ρ1 => ∃ f, frO d = some f ∧ R (.fz f) ρ1
theorem e_fz (h : PE X e (tE X.K Z w)) : PE X e (tE X.K Z (wFz w)) := pe_to h fun σ H Q q => by
  obtain ⟨B, ρ, fp, R, k, h, q⟩ := q
  refine ⟨B, ρ, fp, _, k, h, fun d ρ' h1 v H' B' fp' n k1 => ?_⟩
  obtain ⟨f, e, h2⟩ := h1
  obtain ⟨B2, f2, n2, k2⟩ := k1.fr1 e
  exact q _ ρ' h2 v H' B2 f2 (n.trans n2) k2
def sGf (i : Nat) (s : WS) : WS := fun E ρ => ∃ f, frO (nth ρ i) = some f ∧ s E (ρ.set i (.fz f))
theorem tS_gf {K : PySem.W.Frag} {i : Nat} {D : Ends} {σ : St} {H : Hp} (q : tS K Z ps (sGf i s) D σ H) : tS K Z ps s D σ H := by
  obtain ⟨B, ρ, fp, E, k, q, p⟩ := q
  obtain ⟨f, e, h⟩ := q
  obtain ⟨B2, f2, n2, k2⟩ := k.frS e
  exact ⟨B2, _, f2, E, k2, h, p.step n2 (Pin.refl _ _)⟩
theorem s_gf (i : Nat) (h : PS X st (tS X.K Z ps s)) : PS X st (tS X.K Z ps (sGf i s)) := ps_to h fun _ _ _ q => tS_gf q
def whileN (wt : WT) (s : WS) (E : DE) : Nat → En → Prop
  | 0, _ => False
  | n + 1, ρ => wt ρ fun b ρ1 => br b (s { E with nx := whileN wt s E n, ct := whileN wt s E n, bk := E.nx } ρ1) (E.nx ρ1)
def sWhile (wt : WT) (s : WS) : WS := fun E ρ => ∃ n, whileN wt s E n ρ
theorem s_while {c : Expr} (hp : PassesOwn (model X.prog X.w) X.A X.env X.xe) (hc : PT X c (tT X.K Z wt)) (hb : PSs X sts (tS X.K Z ps s)) : PS X (.While c sts [] pos) (tS X.K Z ps (sWhile wt s)) := ps_to (ps_while hp hc hb) fun D σ H q => by
  obtain ⟨B, ρ, fp, E, k, ⟨m, q⟩, p⟩ := q
  refine ⟨fun m σ' H' => ∃ B' ρ' fp', Nxt B H fp B' H' fp' ∧ Ok X.K Z B' H' σ' ρ' fp' ∧ Pin ps σ σ' ∧ whileN wt s E m ρ', ⟨m, B, ρ, fp, Nxt.refl _ _ _, k, Pin.refl _ _, q⟩, fun m σ' H' hW => ?_⟩
  obtain ⟨B1, ρ1, f1, n1, k1, pn, h⟩ := hW
  cases m with
  | zero => exact False.elim h
  | succ m =>
    refine ⟨B1, ρ1, f1, _, k1, h, fun b ρ2 h2 H2 B2 f2 n2 k2 => ?_⟩
    cases b with
    | true =>
      rw [if_pos rfl]
      refine ⟨fun σ' H' => ∃ B' ρ' fp', Nxt B H fp B' H' fp' ∧ Ok X.K Z B' H' σ' ρ' fp' ∧ Pin ps σ σ' ∧ whileN wt s E m ρ', fun σ3 H3 h3 => ⟨m, Nat.lt_succ_self m, h3⟩, ?_⟩
      have go : ∀ ρ', whileN wt s E m ρ' → ∀ σ' H' B' fp', Nxt B2 H2 f2 B' H' fp' → Ok X.K Z B' H' σ' ρ' fp' → Pin ps σ' σ' → Pin ps σ σ' → ∃ B' ρ' fp', Nxt B H fp B' H' fp' ∧ Ok X.K Z B' H' σ' ρ' fp' ∧ Pin ps σ σ' ∧ whileN wt s E m ρ' :=
        fun ρ' h' σ' H' B' fp' n' k' _ p' => ⟨B', ρ', fp', (n1.trans n2).trans n', k', p', h'⟩
      have p2 := p.step (n1.trans n2) pn
      refine ⟨B2, ρ2, f2, _, k2, h2, ⟨fun ρ' h' σ3 H' B' fp' n' k' q' => ⟨B', ρ', fp', (n1.trans n2).trans n', k', pn.trans q', h'⟩, p2.rt, p2.nx, fun ρ' h' σ3 H' B' fp' n' k' q' => ⟨B', ρ', fp', (n1.trans n2).trans n', k', pn.trans q', h'⟩, p2.xc⟩⟩
    | false =>
      rw [if_neg Bool.false_ne_true]
      exact p.nx ρ2 h2 σ' H2 B2 f2 (n1.trans n2) k2 pn
end
end Pt
namespace Pt
open PySem PySem.Spec L2
open PyProof.Rows (envOfC IntsAre AllBare)
structure FnG (P : Program) (w : World) (K : PySem.W.Frag) (mg : Str → Option Value) (base : Heap) (CX : CXT) (k : Nat) (f : Addr) (fd : FuncData) (ps : List Str) (sp : Sp) : Prop where
  len : ∀ vs H Q E, sp vs H Q E → vs.length = ps.length
  run : ∀ (A : Around) (outer : List Env) (s : Shared) (H : Hp) (args : Args) (us : List Value) (vs : List V) (Q : VK) (E : XK), A.guards = some [] → Room k A → Env0 P w K mg base A outer s H →
    BindsTo s fd args (ps.zip us) → Vals vs us → sp vs H Q E → codeAny (model P w) A (.call (.ref f) args) (CR CX outer P w H s Q E) s
section
variable {P : Program} {w : World} {K : PySem.W.Frag} {mg : Str → Option Value} {base : Heap} {CX : CXT} {k j : Nat} {f : Addr} {fd : FuncData} {ps : List Str} {sp sp' : Sp}
theorem FnG.mono (F : FnG P w K mg base CX j f fd ps sp) (h : j ≤ k) : FnG P w K mg base CX k f fd ps sp :=
  ⟨F.len, fun A outer s H args us vs Q E g r e b v q => F.run A outer s H args us vs Q E g (r.mono h) e b v q⟩
theorem FnG.imp (F : FnG P w K mg base CX k f fd ps sp) (h : ∀ vs H Q E, sp' vs H Q E → sp vs H Q E) : FnG P w K mg base CX k f fd ps sp' :=
  ⟨fun vs H Q E q => F.len vs H Q E (h vs H Q E q), fun A outer s H args us vs Q E g r e b v q => F.run A outer s H args us vs Q E g r e b v (h vs H Q E q)⟩
theorem FnG.of {x qual : Str} {st : Stmt} {N qs : List Str} (F : Fun K x qual st f fd) (S : FnScope N qs (defScope st)) (len : ∀ vs H Q E, sp vs H Q E → vs.length = qs.length)
    (hb : ∀ (cdv : Value) (A : Around) (outer : List Env) (s : Shared) (H : Hp) (vs : List V) (Q : VK) (E : XK), fd.code = cdv → A.guards = some [] → Room k (A.deeper (envOfC qual (defScope st) s.heap.objs.size f cdv)) → sp vs H Q E →
      ∃ t, PSs (cxOf CX P w K mg base N qual (defScope st) f cdv A outer s H E) (defBody st) t ∧ t { nx := fun _ H' => Q .non H', rt := Q } (L2.start N vs) H) : FnG P w K mg base CX (k + 1) f fd qs sp := by
  obtain ⟨oc, od, kV, doc, pm, an, cdv, ct, osl, rfl, lk, hcd⟩ := F.ex
  refine ⟨len, fun A outer s H args us vs Q E hgd hr e0 hbi r hsp => ?_⟩
  have n1 := len _ _ _ _ hsp
  have inK : K.In s.heap := e0.mod.kin.keeps fun b o e => (e0.bs b o e).1
  have nolim : s.heap.NoLimit := e0.mod.nolimit.keeps fun b o e => (e0.bs b o e).1
  have kinds : ∀ y ∈ qs.zip us, (defScope st).names.lookup y.1 = some .local ∨ ((defScope st).names.lookup y.1 = some .cell ∧ ((cellsFrom (s.heap.objs.size + 1) (defScope st).names []).lookup y.1).isSome = true) := fun ⟨n, v⟩ hy => by
    have hm := S.par n (List.of_mem_zip hy).1
    cases hm with
    | inl q => exact Or.inl q
    | inr q => exact Or.inr ⟨q, PySem.W.cellsFrom_some _ _ _ (Or.inl q)⟩
  refine codeAny_call_function hr.depth (inK _ _ lk) rfl S.co S.gen rfl (PySem.W.codeRec_of inK hcd) (hbi _ _ _ _ ?_)
  refine wpAny_newFunctionEnv_cells S.kind kinds fun env eq s1 cells => ?_
  subst eq
  refine ⟨nolim.keeps cells.toInCall.keep, codeAny_func ?_⟩
  obtain ⟨t, ht, hq⟩ := hb cdv A outer s H vs Q E rfl hgd (hr.deeper _) hsp
  have J0 : L2.Inv (cxOf CX P w K mg base N qual (defScope st) f cdv A outer s H E) [] (L2.start N vs) H s1 := inv_start S hr.hd e0 n1 r cells
  refine wpAny_mono (ht.run [] s1 (L2.start N vs) H _ J0 hq) (fun fl s' hs => ?_) fun e s' hs => hs
  have close : ∀ {σ' : L2.St} {H' : Hp} {v : V} {u : Value}, L2.Inv (cxOf CX P w K mg base N qual (defScope st) f cdv A outer s H E) [] σ' H' s' → RelV v u → Q v H' → CE outer P w H s Q u s' :=
    fun {σ' H' v u} J rv q => ⟨v, H', J.os, J.bare, J.base, J.hok, rv, q⟩
  cases fl with
  | ret u => obtain ⟨v, σ', H', J, rv, q⟩ := hs; exact close J rv q
  | next => obtain ⟨σ', H', J, q⟩ := hs; exact close (v := V.non) (u := Value.none) J rfl q
  | brk => obtain ⟨_, _, _, q⟩ := hs; exact q.elim
  | cont => obtain ⟨_, _, _, q⟩ := hs; exact q.elim
end
section
variable {X : Cx} {CX : CXT} {k : Nat} {f C : Addr} {fd : FuncData} {ps : List Str} {sp : Sp} {dvs : List V} {ds : List Value} {E : XK} {x m : Str} {p pos apos : Pos} {e o : Expr} {es : List Expr} {ta : TE} {t : TA}
theorem g_run {pins : List (Addr × Obj)} {σ : L2.St} {H : Hp} {s : Shared} {Q : VK} {us : List Value} {vs : List V} (F : FnG X.prog X.w X.K X.mg X.base CX k f fd ps sp) (gd : X.A.guards = some []) (hr : Room k X.A) (hb : Binds X.K fd ps ds) (hd : Vals dvs ds)
    (hx : Passes CX X E) (I : L2.Inv X pins σ H s) (r : Vals vs us) (h : sp (vs ++ dvs) H Q E) : wpAny (model X.prog X.w) X.A (call (.ref f) us) (EP X pins σ Q) X.xe s := by
  have rr : Vals (vs ++ dvs) (us ++ ds) := r.append hd
  have n1 : (us ++ ds).length = ps.length := by rw [← rr.length]; exact F.len _ _ _ _ h
  refine wpAny_call (codeAny_mono (F.run X.A X.stack s H ⟨us, []⟩ (us ++ ds) (vs ++ dvs) Q E gd hr I.env0 (hb s us I.kIn n1) rr h) fun r s' hq => ?_)
  cases r with
  | error e => exact hx pins σ H s e s' I hq
  | ok fl =>
    cases fl with
    | ret u => exact I.after hq
    | next => exact hq.elim
    | brk => exact hq.elim
    | cont => exact hq.elim
theorem g_call (F : FnG X.prog X.w X.K X.mg X.base CX k f fd ps sp) (gd : X.A.guards = some []) (hr : Room k X.A) (hg : Gl X x) (hm : X.mg x = some (.ref f)) (hk : PySem.W.keepIn X.K (.ref f) = true) (hb : Binds X.K fd ps ds) (hd : Vals dvs ds) (hx : Passes CX X E)
    (ha : PA X (e :: es) t) (hdb : (x == ("__debug__" : Str)) = false := by decide) (he : starEach (e :: es) X.env = (false, eval e X.env) :: starEach es X.env := by rfl) (hpl : (backTo pos (starEach es X.env)).any (·.1) = false := by rfl) : PE X (.Call (.Name x p) (e :: es) [] pos) (tCall sp dvs E t) :=
  ⟨fun pins s σ H Q I h => wpAny_Call_Name_kw (ld_glob I hg hm (PySem.W.callWith_K (h₀ := X.base) I.ok.mod.kin hk (thn (ha.run pos pins s σ H _ I h) fun us s1 ⟨vs, H1, I1, r, q⟩ => ⟨I1.kIn, g_run F gd hr hb hd hx I1 r q⟩) he hpl) hdb)⟩
end
section
variable {P : Program} {w : World} {K : PySem.W.Frag} {mg mb : Str → Option Value} {CX : CXT} {k : Nat} {fa a : Addr} {fd : FuncData} {x : Str} {sp : Sp} {s1 : Shared} {vs : List Value} {ns : List Int}
end
end Pt
namespace Pt
open PySem PySem.Spec L2
abbrev WF := List O → (O → En → Prop) → Prop
def keepP (ps : List Nat) : Nat → Nat → List O → List O
  | _, 0, _ => []
  | i, n + 1, [] => .hid :: keepP ps (i + 1) n []
  | i, n + 1, x :: r => (if ps.contains i then x else .hid) :: keepP ps (i + 1) n r
def hd0 : List O → O
  | [] => .hid
  | x :: _ => x
theorem keepP_cons (ps : List Nat) (i n : Nat) (r : List O) : keepP ps i (n + 1) r = (if ps.contains i then hd0 r else .hid) :: keepP ps (i + 1) n r.tail := by
  cases r with
  | nil =>
    show O.hid :: keepP ps (i + 1) n [] = _
    split <;> rfl
  | cons x r => rfl
section
variable {K : PySem.W.Frag} {B H : Hp}
theorem keepP_ok {ps : List Nat} : ∀ {n i : Nat} {vs us : List V} {r : List O} {fp : List Addr}, ROs K B H us r fp → vs.length = n → (∀ j, j < n → ps.contains (i + j) = true → us[j]? = vs[j]?) →
    ∃ f2, ROs K B H vs (keepP ps i n r) f2 ∧ (∀ a ∈ f2, a ∈ fp) ∧ (fp.Nodup → f2.Nodup)
  | 0, i, [], us, r, fp, _, _, _ => ⟨[], .nil, fun _ h => (List.not_mem_nil h).elim, fun _ => List.nodup_nil⟩
  | 0, i, _ :: _, us, r, fp, _, e, _ => by cases e
  | n + 1, i, [], us, r, fp, _, e, _ => by cases e
  | n + 1, i, v :: vs, [], [], _, .nil, e, h => by
    obtain ⟨f2, h1, h2, h3⟩ := keepP_ok (n := n) (i := i + 1) (vs := vs) (us := []) (r := []) (ROs.nil (K := K) (B := B) (H := H)) (Nat.succ.inj e) fun j hj hc => by
      have := h (j + 1) (by omega) (by rw [← hc]; congr 1; omega)
      simpa using this
    exact ⟨[] ++ f2, .cons .hid h1, h2, h3⟩
  | n + 1, i, v :: vs, u :: us, x :: r, _, .cons (f1 := g1) (f2 := g2) a b, e, h => by
    obtain ⟨f2, h1, h2, h3⟩ := keepP_ok (n := n) (i := i + 1) b (Nat.succ.inj e) fun j hj hc => by
      have := h (j + 1) (by omega) (by rw [← hc]; congr 1; omega)
      simpa using this
    by_cases hc : ps.contains i = true
    · have e0 := h 0 (by omega) hc
      have e1 : u = v := by simpa using e0
      subst e1
      refine ⟨g1 ++ f2, by unfold keepP; rw [if_pos hc]; exact .cons a h1, fun y hy => ?_, fun nd => ?_⟩
      · rcases List.mem_append.mp hy with q | q
        · exact List.mem_append_left _ q
        · exact List.mem_append_right _ (h2 y q)
      · obtain ⟨n1, n2, n3⟩ := List.nodup_append.mp nd
        exact List.nodup_append.mpr ⟨n1, h3 n2, fun a ha b hb e => n3 a ha b (h2 b hb) e⟩
    · refine ⟨[] ++ f2, by unfold keepP; rw [if_neg hc]; exact .cons .hid h1, fun y hy => List.mem_append_right _ (h2 y hy), fun nd => h3 (List.nodup_append.mp nd).2.1⟩
end
abbrev ent0 (T : List Addr) (B H : Hp) (fp : List Addr) (tb : ∀ P ∈ T, LamX.TabS H P q0) (nt : NTB B) (W : WX) (mg : Str → Option Value) : Ent := ⟨B, H, fp, T, tb, nt, W, mg⟩
theorem passLN {X : Cx} : Passes (L2N.CX X.prog X.w) X E0 := fun _ _ _ _ _ _ _ c => by
  obtain ⟨_, _, _, _, _, _, _, _, _, _, _, _, h⟩ := c
  exact h.elim
abbrev WFX := List O → (Ex → En → Prop) → (O → En → Prop) → Prop
def spAt (K : PySem.W.Frag) (T : List Addr) (mg : Str → Option Value) (n : Nat) (ps : List Nat) (g : WFX) (B : Hp) : Sp := fun vs H Q E => ∃ ds fp R Rx, ∃ (tb : ∀ P ∈ T, LamX.TabS H P q0) (nt : NTB B), Ok K (ent0 T B H fp tb nt (fun c d _ H => E c d H) mg) B H (vs.map some) ds fp ∧ g ds Rx R ∧
  (∀ d ρ, R d ρ → ∀ v H' B' fp', Nxt B H fp B' H' fp' → Ok K (ent0 T B H fp tb nt (fun c d _ H => E c d H) mg) B' H' (some v :: vs.map some) (d :: keepP ps 0 n ρ) fp' → Q v H') ∧
  ∀ x ρ, Rx x ρ → ∀ cls d H' B' fp', Nxt B H fp B' H' fp' → Ok K (ent0 T B H fp tb nt (fun c d _ H => E c d H) mg) B' H' (vs.map some) (keepP ps 0 n ρ) fp' → RX K mg B' cls d x → E cls d H'
def spX (K : PySem.W.Frag) (T : List Addr) (mg : Str → Option Value) (n : Nat) (ps : List Nat) (g : WFX) : Sp := fun vs H Q E => vs.length = n ∧ ∃ B, spAt K T mg n ps g B vs H Q E
def noX (g : WF) : WFX := fun ds _ R => g ds R
abbrev spD (K : PySem.W.Frag) (T : List Addr) (mg : Str → Option Value) (n : Nat) (ps : List Nat) (g : WF) : Sp := spX K T mg n ps (noX g)
theorem valsOf_some (vs : List V) : valsOf (vs.map some) = vs := by
  unfold valsOf
  rw [List.map_map]
  exact List.map_id'' (fun _ => rfl) vs
section
variable {K : PySem.W.Frag} {Z : Ent} {B H : Hp} {n : Nat} {ps : List Nat} {vs : List V} {N : List Str}
theorem keep_fin {σ' : St} {ρ' : En} {f2 : List Addr} (hl : vs.length = n) (hn : n ≤ N.length) (hps : ∀ i ∈ ps, i < n) (k2 : Ok K Z B H σ' ρ' f2) (pn : Pin ps (L2.start N vs) σ') : ∃ f3, Ok K Z B H (vs.map some) (keepP ps 0 n ρ') f3 ∧ ∀ a ∈ f3, a ∈ f2 := by
  obtain ⟨f3, h1, h2, h3⟩ := keepP_ok (ps := ps) (n := n) (i := 0) (vs := vs) k2.rs hl fun j hj hc => by
    rw [Nat.zero_add] at hc
    have hm : j ∈ ps := List.contains_iff_mem.mp hc
    have e := pn j hm
    rw [valsOf_get, e]
    unfold L2.start
    rw [List.getElem?_append_left (by rw [List.length_map]; omega), List.getElem?_map]
    cases vs[j]? <;> rfl
  refine ⟨f3, k2.part (fun j z => ?_) (by rw [valsOf_some]; exact h1) (h3 k2.nd) h2, h2⟩
  exfalso
  have z' : ((vs.map some)[j]? : Option (Option V)) = some none := z
  rw [List.getElem?_map] at z'
  cases q : vs[j]? with
  | none => rw [q] at z'; cases z'
  | some y => rw [q] at z'; cases z'
end
theorem fn_fin_at {K : PySem.W.Frag} {T : List Addr} {mg : Str → Option Value} {N : List Str} {n : Nat} {ps : List Nat} {g : WFX} {s : WS} {vs : List V} {H B : Hp} {Q : VK} {E : XK} (hn : n ≤ N.length) (hps : ∀ i ∈ ps, i < n) (hl : vs.length = n) (h : spAt K T mg n ps g B vs H Q E)
    (hg : ∀ ds Rx R, ds.length = n → g ds Rx R → ∃ Rx', (∀ x ρ, Rx' x ρ → Rx x ρ) ∧ s ⟨fun ρ => R (.fz .none) ρ, R, fun _ => False, fun _ => False, Rx'⟩ (ds ++ List.replicate (N.length - n) .hid)) :
    ∃ Z : Ent, Z.B = B ∧ (Z.W = fun c d _ H => E c d H) ∧ Z.mg = mg ∧ Z.T = T ∧ tS K Z ps s { nx := fun _ H' => Q .non H', rt := Q } (L2.start N vs) H := by
  obtain ⟨ds, fp, R, Rx, tb, nt, k, hgd, q, qx⟩ := h
  have hds : ds.length = n := by
    have := k.len
    rw [List.length_map] at this
    omega
  obtain ⟨Rx', hRx, hgs⟩ := hg ds Rx R hds hgd
  refine ⟨ent0 T B H fp tb nt (fun c d _ H => E c d H) mg, rfl, rfl, rfl, rfl, B, ds ++ List.replicate (N.length - n) .hid, fp, _, ?_, hgs, ?_⟩
  · obtain ⟨sub, un, rs, nd, out, nx⟩ := k
    refine ⟨sub, fun i e => ?_, ?_, nd, out, nx⟩
    · unfold L2.start at e
      rw [hl] at e
      by_cases hi : i < n
      · rw [List.getElem?_append_left (by rw [List.length_map]; omega)] at e
        have := un i e
        rw [List.getElem?_append_left (by omega)]
        exact this
      · rw [List.getElem?_append_right (by omega)]
        rw [List.getElem?_append_right (by rw [List.length_map]; omega), List.length_map] at e
        have hj := (List.getElem?_eq_some_iff.mp e).1
        rw [List.length_replicate] at hj
        rw [List.getElem?_replicate, if_pos (by omega)]
    · unfold L2.start
      rw [valsOf_append, hl]
      have e : ∀ m, ROs K B H (valsOf (List.replicate m none)) (List.replicate m O.hid) [] := fun m => by
        induction m with
        | zero => exact .nil
        | succ m ih => exact .cons (f1 := []) .hid ih
      have := rs.append (e (N.length - n))
      rwa [List.append_nil] at this
  · have fin : ∀ d ρ', R d ρ' → ∀ v σ' H' B' fp', Nxt B H fp B' H' fp' → Ok K (ent0 T B H fp tb nt (fun c d _ H => E c d H) mg) B' H' (some v :: σ') (d :: ρ') fp' → Pin ps (L2.start N vs) σ' → Q v H' := fun d ρ' hr v σ' H' B' fp' n' k' pn => by
      obtain ⟨f1, f2, rfl, r, k2, _⟩ := Ok.frame (τ := [some v]) (xs := [d]) k' rfl
      obtain ⟨n1, n2, n3⟩ := List.nodup_append.mp k'.nd
      obtain ⟨f3, h1, h2, h3⟩ := keepP_ok (ps := ps) (n := n) (i := 0) (vs := vs) k2.rs hl fun j hj hc => by
        rw [Nat.zero_add] at hc
        have hm : j ∈ ps := List.contains_iff_mem.mp hc
        have e := pn j hm
        rw [valsOf_get, e]
        unfold L2.start
        rw [List.getElem?_append_left (by rw [List.length_map]; omega), List.getElem?_map]
        cases vs[j]? <;> rfl
      have hsub : ∀ a ∈ f1 ++ f3, a ∈ f1 ++ f2 := fun a ha => by
        rcases List.mem_append.mp ha with z | z
        · exact List.mem_append_left _ z
        · exact List.mem_append_right _ (h2 a z)
      refine q d ρ' hr v H' B' (f1 ++ f3) (n'.less hsub) (k'.part (fun j z => ?_) ?_ (List.nodup_append.mpr ⟨n1, h3 n2, fun a ha b hb e => n3 a ha b (h2 b hb) e⟩) hsub)
      · cases j with
        | zero => cases z
        | succ j =>
          exfalso
          have z' : ((vs.map some)[j]? : Option (Option V)) = some none := z
          rw [List.getElem?_map] at z'
          cases q : vs[j]? with
          | none => rw [q] at z'; cases z'
          | some y => rw [q] at z'; cases z'
      · rw [valsOf_cons, valsOf_some]
        exact r.append h1
    exact ⟨fun ρ' h σ' H' B' fp' n' k' pn => fin _ ρ' h .non σ' H' B' fp' n' (k'.addF .non) pn, fin, fun _ h => h.elim, fun _ h => h.elim,
      fun x ρ' hx cls d σ' H' B' fp' n' k' pn rx => by
        obtain ⟨f3, k3, h3⟩ := keep_fin (N := N) hl hn hps k' pn
        exact qx x ρ' (hRx x ρ' hx) cls d H' B' f3 (n'.less h3) k3 rx⟩
theorem fn_finX {K : PySem.W.Frag} {T : List Addr} {mg : Str → Option Value} {N : List Str} {n : Nat} {ps : List Nat} {g : WFX} {s : WS} {vs : List V} {H : Hp} {Q : VK} {E : XK} (hn : n ≤ N.length) (hps : ∀ i ∈ ps, i < n) (h : spX K T mg n ps g vs H Q E)
    (hg : ∀ ds Rx R, ds.length = n → g ds Rx R → ∃ Rx', (∀ x ρ, Rx' x ρ → Rx x ρ) ∧ s ⟨fun ρ => R (.fz .none) ρ, R, fun _ => False, fun _ => False, Rx'⟩ (ds ++ List.replicate (N.length - n) .hid)) :
    ∃ Z : Ent, (Z.W = fun c d _ H => E c d H) ∧ Z.mg = mg ∧ Z.T = T ∧ tS K Z ps s { nx := fun _ H' => Q .non H', rt := Q } (L2.start N vs) H := by
  obtain ⟨hl, B, h⟩ := h
  obtain ⟨Z, _, h⟩ := fn_fin_at hn hps hl h hg
  exact ⟨Z, h⟩
def posNm : Nat → List AD → List Nat
  | _, [] => []
  | i, .ex _ :: r => posNm (i + 1) r
  | i, .nm _ :: r => i :: posNm (i + 1) r
def callA : List AD → List (Option O) → En → (List O → En → Prop) → Prop
  | .ex _ :: r, some d :: ds, ρ, k => callA r ds ρ fun xs ρ' => k (d :: xs) ρ'
  | .nm i :: r, _ :: ds, ρ, k => notHid (nth ρ i) (callA r ds (ρ.set i .hid) fun xs ρ' => k (nth ρ i :: xs) ρ')
  | [], _, ρ, k => k [] ρ
  | .ex _ :: _, _, _, _ => False
  | .nm _ :: _, [], _, _ => False
def backA : List AD → List O → En → En
  | [], _, ρ => ρ
  | .ex _ :: r, xs, ρ => backA r xs.tail ρ
  | .nm i :: r, xs, ρ => backA r xs.tail (ρ.set i (hd0 xs))
def wCall (as : List AD) (g : WF) : WE := fun ρ R => wADs as ρ fun ds ρ1 => callA as ds ρ1 fun xs ρ2 => g xs fun d ρf => R d (backA as ρf ρ2)
section
variable {K : PySem.W.Frag} {Z : Ent} {B H : Hp} {σ : St}
theorem call_split {as : List AD} {vs : List V} {ds : List (Option O)} {τ : St} {xs : List O} (g : Got σ as vs ds τ xs) : ∀ {ρ : En} {f1 f2 : List Addr} {k : List O → En → Prop}, ROs K B H (valsOf τ) xs f1 → ROs K B H (valsOf σ) ρ f2 → (∀ i : Nat, σ[i]? = some none → ρ[i]? = some O.hid) →
    callA as ds ρ k → ∃ args ρr fc fr, k args ρr ∧ args.length = vs.length ∧ ROs K B H vs args fc ∧ ROs K B H (valsOf σ) ρr fr ∧ (f1 ++ f2).Perm (fc ++ fr) ∧ (∀ i : Nat, σ[i]? = some none → ρr[i]? = some O.hid) ∧ (∀ i : Nat, AD.nm i ∈ as → ρr[i]? = some O.hid) ∧ (∀ i : Nat, ρ[i]? = some O.hid → ρr[i]? = some O.hid) := by
  induction g with
  | nil =>
    intro ρ f1 f2 k r1 r2 un h
    cases r1
    exact ⟨[], ρ, [], f2, h, rfl, .nil, r2, List.Perm.refl _, un, fun i z => (List.not_mem_nil z).elim, fun _ z => z⟩
  | @ex w r v vs d ds τ xs g ih =>
    intro ρ f1 f2 k r1 r2 un h
    rw [valsOf_cons] at r1
    cases r1 with
    | @cons _ _ _ _ g1 g2 a b =>
      obtain ⟨args, ρr, fc, fr, h1, h2, h3, h4, h5, h6, h7, h8⟩ := ih b r2 un h
      refine ⟨d :: args, ρr, g1 ++ fc, fr, h1, congrArg (· + 1) h2, .cons a h3, h4, ?_, h6, fun i z => ?_, h8⟩
      · rw [List.append_assoc, List.append_assoc]
        exact List.Perm.append_left g1 h5
      · rcases List.mem_cons.mp z with z | z
        · cases z
        · exact h7 i z
  | @nm i r v vs ds τ xs e g ih =>
    intro ρ f1 f2 k r1 r2 un h
    obtain ⟨hx, h⟩ := notHid_iff h
    have e0 := nth_some rfl hx
    obtain ⟨u, a1, a2, u1, u2, u3, u4⟩ := r2.split e0
    rw [valsOf_get, e] at u1
    have eu : v = u := Option.some.inj u1
    subst eu
    have hi : i < ρ.length := (List.getElem?_eq_some_iff.mp e0).1
    obtain ⟨args, ρr, fc, fr, h1, h2, h3, h4, h5, h6, h7, h8⟩ := ih r1 u3 (fun j z => by
      by_cases hj : i = j
      · subst hj; rw [List.getElem?_set_self hi]
      · rw [List.getElem?_set_ne hj]; exact un j z) h
    refine ⟨nth ρ i :: args, ρr, a1 ++ fc, fr, h1, congrArg (· + 1) h2, .cons u2 h3, h4, ?_, h6, fun j z => ?_, fun j z => h8 j ?_⟩
    · refine (List.Perm.append_left f1 u4).trans ?_
      rw [List.append_assoc]
      refine List.Perm.trans ?_ (List.Perm.append_left a1 h5)
      rw [← List.append_assoc, ← List.append_assoc]
      exact List.Perm.append_right _ List.perm_append_comm
    · rcases List.mem_cons.mp z with z | z
      · cases z
        exact h8 i (by rw [List.getElem?_set_self hi])
      · exact h7 j z
    · by_cases hj : i = j
      · subst hj; rw [List.getElem?_set_self hi]
      · rw [List.getElem?_set_ne hj]; exact z
theorem perm3 {a b c : List Addr} : (a ++ (b ++ c)).Perm (b ++ (a ++ c)) := by
  rw [← List.append_assoc, ← List.append_assoc]
  exact List.Perm.append_right _ List.perm_append_comm
theorem call_join {as : List AD} {vs : List V} {ds : List (Option O)} {τ : St} {xs : List O} (g : Got σ as vs ds τ xs) : ∀ {ρ : En} {i0 : Nat} {ρf : List O} {fc fr : List Addr}, ROs K B H vs (keepP (posNm i0 as) i0 vs.length ρf) fc → ROs K B H (valsOf σ) ρ fr → (fc ++ fr).Nodup → (∀ i : Nat, AD.nm i ∈ as → ρ[i]? = some O.hid) → (∀ i : Nat, σ[i]? = some none → ρ[i]? = some O.hid) → (as.filterMap fun | .nm i => some i | _ => none).Nodup →
    ∃ f, ROs K B H (valsOf σ) (backA as ρf ρ) f ∧ f.Nodup ∧ (∀ a ∈ f, a ∈ fc ++ fr) ∧ (∀ i : Nat, σ[i]? = some none → (backA as ρf ρ)[i]? = some O.hid) := by
  have shift : ∀ (ps : List Nat) (p : Nat) (m n : Nat) (r : List O), p < m → keepP (p :: ps) m n r = keepP ps m n r := by
    intro ps p m n
    induction n generalizing m with
    | zero => intro r _; rfl
    | succ n ih =>
      intro r hp
      have hc : (p :: ps).contains m = ps.contains m := by
        rw [List.contains_cons]
        rw [beq_eq_false_iff_ne.mpr (by omega : m ≠ p), Bool.false_or]
      cases r with
      | nil => unfold keepP; rw [ih (m + 1) [] (by omega)]
      | cons x r => unfold keepP; rw [ih (m + 1) r (by omega), hc]
  have tl : ∀ (ps : List Nat) (m n : Nat) (r : List O), ∃ x, keepP ps m (n + 1) r = x :: keepP ps (m + 1) n r.tail := by
    intro ps m n r
    cases r with
    | nil => exact ⟨_, rfl⟩
    | cons x r => exact ⟨_, rfl⟩
  induction g with
  | nil =>
    intro ρ i0 ρf fc fr r1 r2 nd hh un _
    exact ⟨fr, r2, (List.nodup_append.mp nd).2.1, fun a ha => List.mem_append_right _ ha, un⟩
  | @ex w r v vs d ds τ xs g ih =>
    intro ρ i0 ρf fc fr r1 r2 nd hh un nn
    obtain ⟨x, e⟩ := tl (posNm i0 (.ex w :: r)) i0 vs.length ρf
    rw [List.length_cons, e] at r1
    cases r1 with
    | @cons _ _ _ _ g1 g2 a b =>
      rw [List.append_assoc] at nd
      obtain ⟨_, nd2, _⟩ := List.nodup_append.mp nd
      obtain ⟨f, h1, h2, h3, h4⟩ := ih (i0 := i0 + 1) b r2 nd2 (fun i z => hh i (List.mem_cons_of_mem _ z)) un nn
      exact ⟨f, h1, h2, fun y hy => by rw [List.append_assoc]; exact List.mem_append_right _ (h3 y hy), h4⟩
  | @nm i r v vs ds τ xs e g ih =>
    intro ρ i0 ρf fc fr r1 r2 nd hh un nn
    obtain ⟨nn1, nn2⟩ := List.nodup_cons.mp (show (i :: r.filterMap fun | .nm i => some i | _ => none).Nodup from nn)
    have e1 : keepP (posNm i0 (.nm i :: r)) i0 (vs.length + 1) ρf = hd0 ρf :: keepP (posNm (i0 + 1) r) (i0 + 1) vs.length ρf.tail := by
      show keepP (i0 :: posNm (i0 + 1) r) i0 (vs.length + 1) ρf = _
      rw [keepP_cons, shift _ _ _ _ _ (Nat.lt_succ_self i0), if_pos (by rw [List.contains_cons, beq_self_eq_true, Bool.true_or])]
    rw [List.length_cons, e1] at r1
    cases r1 with
    | @cons _ _ _ _ g1 g2 a b =>
      have hρ := hh i (List.mem_cons_self ..)
      have hi : i < ρ.length := (List.getElem?_eq_some_iff.mp hρ).1
      obtain ⟨f4, p1, p2⟩ := r2.put hρ a
      have ev : (valsOf σ).set i v = valsOf σ := by
        have q : (valsOf σ)[i]? = some v := by rw [valsOf_get, e]; rfl
        obtain ⟨hl, hg⟩ := List.getElem?_eq_some_iff.mp q
        rw [← hg]
        exact List.set_getElem_self hl
      rw [ev] at p1
      have pm : (g1 ++ g2 ++ fr).Perm (g2 ++ f4) := by
        rw [List.append_assoc]
        exact perm3.trans (List.Perm.append_left g2 p2.symm)
      obtain ⟨f, h1, h2, h3, h4⟩ := ih (i0 := i0 + 1) (ρ := ρ.set i (hd0 ρf)) b p1 (pm.nodup nd) (fun j z => by
        have hne : i ≠ j := fun q => by
          subst q
          exact nn1 (List.mem_filterMap.mpr ⟨_, z, rfl⟩)
        rw [List.getElem?_set_ne hne]
        exact hh j (List.mem_cons_of_mem _ z)) (fun j z => by
        have hne : i ≠ j := fun q => by
          subst q
          rw [e] at z
          cases z
        rw [List.getElem?_set_ne hne]
        exact un j z) nn2
      exact ⟨f, h1, h2, fun y hy => pm.symm.subset (h3 y hy), h4⟩
end
structure FdX (P : Program) (w : World) (K : PySem.W.Frag) (mg : Str → Option Value) (base : Heap) (T : List Addr) (A : Around) (x : Str) (n : Nat) (ps : List Nat) (g : WFX) : Prop where
  ex : ∃ (k : Nat) (f : Addr) (fd : FuncData) (qs : List Str), FnG P w K mg base (L2N.CX P w) k f fd qs (spX K T mg n ps g) ∧ A.guards = some [] ∧ Room k A ∧ mg x = some (.ref f) ∧ PySem.W.keepIn K (.ref f) = true ∧ Binds K fd qs []
structure FgX (P : Program) (w : World) (K : PySem.W.Frag) (mg : Str → Option Value) (base : Heap) (T : List Addr) (k : Nat) (x : Str) (n : Nat) (ps : List Nat) (g : WFX) : Prop where
  ex : ∃ (f : Addr) (fd : FuncData) (qs : List Str), FnG P w K mg base (L2N.CX P w) k f fd qs (spX K T mg n ps g) ∧ mg x = some (.ref f) ∧ PySem.W.keepIn K (.ref f) = true ∧ Binds K fd qs []
abbrev Fd (P : Program) (w : World) (K : PySem.W.Frag) (mg : Str → Option Value) (base : Heap) (T : List Addr) (A : Around) (x : Str) (n : Nat) (ps : List Nat) (g : WF) : Prop := FdX P w K mg base T A x n ps (noX g)
abbrev Fg (P : Program) (w : World) (K : PySem.W.Frag) (mg : Str → Option Value) (base : Heap) (T : List Addr) (k : Nat) (x : Str) (n : Nat) (ps : List Nat) (g : WF) : Prop := FgX P w K mg base T k x n ps (noX g)
section
variable {P : Program} {w : World} {K : PySem.W.Frag} {mg : Str → Option Value} {base : Heap} {T : List Addr} {k j : Nat} {A : Around} {x : Str} {n : Nat} {ps : List Nat}
theorem FgX.to {g : WFX} (F : FgX P w K mg base T k x n ps g) (hgd : A.guards = some []) (hr : Room j A) (h : k ≤ j) : FdX P w K mg base T A x n ps g := by
  obtain ⟨f, fd, qs, a, b, c, d⟩ := F.ex
  exact ⟨k, f, fd, qs, a, hgd, hr.mono h, b, c, d⟩
theorem FgX.impX {g g' : WFX} (F : FgX P w K mg base T k x n ps g) (h : ∀ ds Rx R, g' ds Rx R → g ds Rx R) : FgX P w K mg base T k x n ps g' := by
  obtain ⟨f, fd, qs, a, b, c, d⟩ := F.ex
  refine ⟨f, fd, qs, a.imp fun vs H Q E q => ?_, b, c, d⟩
  obtain ⟨hl, B, ds, fp, R, Rx, tb, nt, k, hg, q⟩ := q
  exact ⟨hl, B, ds, fp, R, Rx, tb, nt, k, h ds Rx R hg, q⟩
theorem FgX.imp {g g' : WF} (F : Fg P w K mg base T k x n ps g) (h : ∀ ds R, g' ds R → g ds R) : Fg P w K mg base T k x n ps g' := F.impX fun ds _ R => h ds R
end
section
variable {X : Cx} {Z : Ent} {x : Str} {p pos : Pos} {e : Expr} {es : List Expr} {as : List AD} {g : WF} {n : Nat}
def wCallX (as : List AD) (g : WFX) (xc : Ex → En → Prop) : WE := fun ρ R => wADs as ρ fun ds ρ1 => callA as ds ρ1 fun xs ρ2 => g xs (fun x ρf => xc x (backA as ρf ρ2)) fun d ρf => R d (backA as ρf ρ2)
theorem tADs_mono {K : PySem.W.Frag} : ∀ {as : List AD} {σ : St} {H : Hp} {P Q : List V → Hp → Prop}, tADs K Z as σ H P → (∀ vs H1, P vs H1 → Q vs H1) → tADs K Z as σ H Q
  | [], _, _, _, _, h, i => i _ _ h
  | .ex w :: r, _, _, _, _, h, i => by
    obtain ⟨B, ρ, fp, R, k, h, q⟩ := h
    exact ⟨B, ρ, fp, R, k, h, fun d ρ' h1 v H' B' fp' n k1 => tADs_mono (as := r) (q d ρ' h1 v H' B' fp' n k1) fun vs H1 z => i _ _ z⟩
  | .nm j :: r, _, _, _, _, h, i => by
    obtain ⟨v, e, h⟩ := h
    exact ⟨v, e, tADs_mono (as := r) h fun vs H1 z => i _ _ z⟩
theorem call_glueB {K : PySem.W.Frag} {E : XK} {mg : Str → Option Value} {g : WFX} {σ : St} {B H : Hp} {ρ : En} {fp : List Addr} {R : O → En → Prop} {xc : Ex → En → Prop} {Q : VK} (hn : as.length = n) (hnn : (as.filterMap fun | .nm i => some i | _ => none).Nodup) (k : Ok K Z B H σ ρ fp) (h : wCallX as g xc ρ R)
    (q : ∀ d ρ', R d ρ' → ∀ v H' B' fp', Nxt B H fp B' H' fp' → Ok K Z B' H' (some v :: σ) (d :: ρ') fp' → Q v H')
    (qx : ∀ x ρ', xc x ρ' → ∀ cls d H' B' fp', Nxt B H fp B' H' fp' → Ok K Z B' H' σ ρ' fp' → RX K mg B' cls d x → E cls d H') : tADs K Z as σ H fun vs H1 => (vs ++ []).length = n ∧ ∃ B1, Sub Z.B B1 ∧ spAt K Z.T mg n (posNm 0 as) g B1 (vs ++ []) H1 Q E := by
  refine args_ok as k h fun ds ρ1 h1 vs τ xs H1 B1 fp1 gt n1 k1 => ?_
  rw [List.append_nil]
  obtain ⟨f1, f2, rfl, r1, k2, _⟩ := k1.frame gt.len
  obtain ⟨args, ρr, fc, fr, a1, a2, a3, a4, a5, a6, a7, _⟩ := call_split gt r1 k2.rs k2.un h1
  have nd := a5.nodup k1.nd
  obtain ⟨nd1, nd2, nd3⟩ := List.nodup_append.mp nd
  have hlen : ∀ {as : List AD} {vs : List V} {ds : List (Option O)} {τ : St} {xs : List O}, Got σ as vs ds τ xs → vs.length = as.length := fun g => by
    induction g with
    | nil => rfl
    | ex _ ih => exact congrArg (· + 1) ih
    | nm _ _ ih => exact congrArg (· + 1) ih
  have hv : vs.length = n := (hlen gt).trans hn
  have mc : ∀ a ∈ fc, a ∈ f1 ++ f2 := fun a ha => a5.symm.subset (List.mem_append_left _ ha)
  have mr : ∀ a ∈ fr, a ∈ f1 ++ f2 := fun a ha => a5.symm.subset (List.mem_append_right _ ha)
  have back : ∀ {Z2 : Ent} (d : O) (ρf : En) (v : V) (H' B' : Hp) (fp' : List Addr), Nxt B1 H1 fc B' H' fp' → Ok K Z2 B' H' (some v :: vs.map some) (d :: keepP (posNm 0 as) 0 n ρf) fp' → ∃ F, Nxt B H fp B' H' F ∧ Ok K Z B' H' (some v :: σ) (d :: backA as ρf ρr) F := by
    intro Z2 d ρf v H' B' fp' n' k'
    have kr : Ok K Z B1 H1 σ ρr fr := ⟨k1.sub, a6, a4, nd2, fun a ha => k1.out a (mr a ha), k1.nx.less mr⟩
    have k3 : Ok K Z B1 H1 (vs.map some ++ σ) (args ++ ρr) (fc ++ fr) := ⟨k1.sub, fun i z => by
      by_cases hi : i < vs.length
      · exfalso
        rw [List.getElem?_append_left (by rw [List.length_map]; exact hi), List.getElem?_map, List.getElem?_eq_getElem hi] at z
        cases z
      · rw [List.getElem?_append_right (by rw [List.length_map]; omega), List.length_map] at z
        rw [List.getElem?_append_right (by omega), a2]
        exact a6 _ z, by rw [valsOf_append, valsOf_some]; exact a3.append a4, nd, fun a ha => k1.out a (a5.symm.subset ha), k1.nx.less fun a ha => a5.symm.subset ha⟩
    have dis : ∀ a ∈ fr, a ∉ fc := fun a h h' => nd3 a h' a h rfl
    have keep : ∀ a ∈ fr, ∀ o, H1 a = some o → NT o → H' a = some o := fun a ha o e => n'.keep a o e (dis a ha)
    have fresh : ∀ a ∈ fr, a ∉ fp' := fun y hy hg => by
      rcases n'.newF y hg with q | q
      · exact dis y hy q
      · obtain ⟨o, e⟩ := a4.live y hy
        rw [e] at q; cases q
    have outr : ∀ a ∈ fr, B' a = none := fun y hy => by
      cases z : B' y with
      | none => rfl
      | some o =>
        rcases n'.newB y (by rw [z]; exact fun h => nomatch h) with h | h | h
        · exact absurd (k1.out y (mr y hy)) h
        · obtain ⟨o, e⟩ := a4.live y hy
          rw [e] at h; cases h
        · exact absurd h (dis y hy)
    obtain ⟨g1, g2, rfl, b1, kc, _⟩ := Ok.frame (τ := [some v]) (xs := [d]) k' rfl
    have b2 := kc.rs
    rw [valsOf_some] at b2
    have b2' : ROs K B' H' vs (keepP (posNm 0 as) 0 vs.length ρf) g2 := by rw [hv]; exact b2
    obtain ⟨q1, q2, q3⟩ := List.nodup_append.mp k'.nd
    have ndj : (g2 ++ fr).Nodup := List.nodup_append.mpr ⟨q2, nd2, fun a ha b hb e => fresh b hb (List.mem_append_right _ (e ▸ ha))⟩
    obtain ⟨f, j1, j2, j3, j4⟩ := call_join gt b2' (a4.next n'.bsub keep) ndj a7 a6 hnn
    have nn : Nxt B1 H1 (f1 ++ f2) B' H' (g1 ++ f) := by
      have m1 : Nxt B1 H1 (f1 ++ f2) B' H' (g1 ++ g2) := n'.more mc
      refine ⟨m1.bsub, m1.keep, m1.newB, fun a ha => ?_, m1.live, m1.tabs, m1.ntb⟩
      rcases List.mem_append.mp ha with z | z
      · exact m1.newF a (List.mem_append_left _ z)
      · rcases List.mem_append.mp (j3 a z) with z | z
        · exact m1.newF a (List.mem_append_right _ z)
        · exact .inl (mr a z)
    refine ⟨g1 ++ f, n1.trans nn, k'.sub, fun i z => ?_, ?_, ?_, fun a ha => ?_, k1.nx.trans nn⟩
    · cases i with
      | zero => cases z
      | succ i => exact j4 i z
    · rw [valsOf_cons]
      exact b1.append j1
    · refine List.nodup_append.mpr ⟨q1, j2, fun a ha b hb e => ?_⟩
      subst e
      rcases List.mem_append.mp (j3 a hb) with z | z
      · exact q3 a ha a z rfl
      · exact fresh a z (List.mem_append_left _ ha)
    · rcases List.mem_append.mp ha with z | z
      · exact k'.out a (List.mem_append_left _ z)
      · rcases List.mem_append.mp (j3 a z) with z | z
        · exact k'.out a (List.mem_append_right _ z)
        · exact outr a z
  have tb : ∀ P ∈ Z.T, LamX.TabS H1 P q0 := fun P hP => k1.nx.tabs P (Z.tb P hP)
  refine ⟨hv, B1, k1.nx.bsub, args, fc, _, _, tb, k1.nx.ntb Z.nt, ⟨k1.sub, fun i z => ?_, by rw [valsOf_some]; exact a3, nd1, fun a ha => k1.out a (mc a ha), Nxt.refl _ _ _⟩, a1, fun d ρf hR v H' B' fp' n' k' => ?_, fun x ρf hx cls d H' B' fp' n' k' rx => ?_⟩
  · exfalso
    have z' : ((vs.map some)[i]? : Option (Option V)) = some none := z
    rw [List.getElem?_map] at z'
    cases q : vs[i]? with
    | none => rw [q] at z'; cases z'
    | some y => rw [q] at z'; cases z'
  · obtain ⟨F, n2, k4⟩ := back d ρf v H' B' fp' n' k'
    exact q d _ hR v H' B' F n2 k4
  · obtain ⟨F, n2, k4⟩ := back .hid ρf .non H' B' fp' n' k'.addH
    obtain ⟨f5, k5, h5⟩ := k4.drop1
    exact qx x _ hx cls d H' B' f5 (n2.less h5) k5 rx
theorem call_glueX {K : PySem.W.Frag} {E : XK} {mg : Str → Option Value} {g : WFX} {σ : St} {B H : Hp} {ρ : En} {fp : List Addr} {R : O → En → Prop} {xc : Ex → En → Prop} {Q : VK} (hn : as.length = n) (hnn : (as.filterMap fun | .nm i => some i | _ => none).Nodup) (k : Ok K Z B H σ ρ fp) (h : wCallX as g xc ρ R)
    (q : ∀ d ρ', R d ρ' → ∀ v H' B' fp', Nxt B H fp B' H' fp' → Ok K Z B' H' (some v :: σ) (d :: ρ') fp' → Q v H')
    (qx : ∀ x ρ', xc x ρ' → ∀ cls d H' B' fp', Nxt B H fp B' H' fp' → Ok K Z B' H' σ ρ' fp' → RX K mg B' cls d x → E cls d H') : tADs K Z as σ H fun vs H1 => spX K Z.T mg n (posNm 0 as) g (vs ++ []) H1 Q E :=
  tADs_mono (call_glueB hn hnn k h q qx) fun vs H1 z => ⟨z.1, z.2.elim fun B1 z => ⟨B1, z.2⟩⟩
theorem call_glue {K : PySem.W.Frag} {E : XK} {mg : Str → Option Value} {σ : St} {H : Hp} {Q : VK} (hn : as.length = n) (hnn : (as.filterMap fun | .nm i => some i | _ => none).Nodup) (h : tE K Z (wCall as g) σ H Q) : tADs K Z as σ H fun vs H1 => spD K Z.T mg n (posNm 0 as) g (vs ++ []) H1 Q E := by
  obtain ⟨B, ρ, fp, R, k, h, q⟩ := h
  exact call_glueX (g := noX g) (xc := fun _ _ => False) hn hnn k h q fun _ _ hx => hx.elim
theorem e_call {ps : List Nat} (F : Fd X.prog X.w X.K X.mg X.base Z.T X.A x n ps g) (ha : PA X (e :: es) (tADs X.K Z as)) (hn : as.length = n) (hps : ps = posNm 0 as) (hnn : (as.filterMap fun | .nm i => some i | _ => none).Nodup) (hg : Gl X x) (hdb : (x == ("__debug__" : Str)) = false := by decide)
    (he : starEach (e :: es) X.env = (false, eval e X.env) :: starEach es X.env := by rfl) (hpl : (backTo pos (starEach es X.env)).any (·.1) = false := by rfl) : PE X (.Call (.Name x p) (e :: es) [] pos) (tE X.K Z (wCall as g)) := by
  obtain ⟨k, f, fd, qs, F, gd, hr, hm, hk, hb⟩ := F.ex
  subst hps
  exact pe_to (g_call (E := E0) F gd hr hg hm hk hb .nil passLN ha hdb he hpl) fun σ H Q q => call_glue hn hnn q
abbrev WEX := (Ex → En → Prop) → WE
end
end Pt
namespace Pt
open PySem PySem.Spec L2
structure Agr (own : List Nat) (σ σ' : St) : Prop where
  len : σ'.length = σ.length
  at_ : ∀ k, own.contains k = false → (σ'[k]? : Option (Option V)) = σ[k]?
theorem Agr.refl (own : List Nat) (σ : St) : Agr own σ σ := ⟨rfl, fun _ _ => rfl⟩
theorem Agr.trans {own : List Nat} {σ σ1 σ2 : St} (a : Agr own σ σ1) (b : Agr own σ1 σ2) : Agr own σ σ2 := ⟨b.len.trans a.len, fun k h => (b.at_ k h).trans (a.at_ k h)⟩
theorem Agr.set {own : List Nat} {σ : St} {i : Nat} {v : Option V} (h : own.contains i = true) : Agr own σ (σ.set i v) := ⟨List.length_set .., fun k hk => by
  have hne : i ≠ k := fun e => by
    subst e; rw [h] at hk; cases hk
  exact List.getElem?_set_ne hne⟩
theorem Agr.pin {own ps : List Nat} {σ σ' : St} (a : Agr own σ σ') (h : (ps.any fun k => own.contains k) = false) : Pin ps σ σ' := fun k hk => a.at_ k (by
  cases q : own.contains k with
  | false => rfl
  | true =>
    have : (ps.any fun k => own.contains k) = true := List.any_eq_true.mpr ⟨k, hk, q⟩
    rw [h] at this; cases this)
theorem wipe_get : ∀ (vs : List Nat) (σ : St) (k : Nat), (wipe σ vs)[k]? = if vs.contains k then (σ[k]?).map fun _ => none else σ[k]?
  | [], σ, k => rfl
  | v :: vs, σ, k => by
    show ((wipe σ vs).set v none)[k]? = _
    rw [List.getElem?_set, wipe_get vs σ k, List.contains_cons]
    by_cases hv : v = k
    · subst hv
      rw [if_pos rfl, beq_self_eq_true, Bool.true_or, if_pos rfl, wipe_length]
      by_cases hl : v < List.length σ
      · rw [if_pos hl, List.getElem?_eq_getElem hl]; rfl
      · rw [if_neg hl, List.getElem?_eq_none (by omega)]; rfl
    · rw [if_neg hv, beq_eq_false_iff_ne.mpr (fun e => hv e.symm), Bool.false_or]
theorem Agr.wipe {own : List Nat} {σ σ' : St} (a : Agr own σ σ') : L2.wipe σ' own = L2.wipe σ own := by
  refine List.ext_getElem? fun k => ?_
  rw [wipe_get, wipe_get]
  cases q : own.contains k with
  | false =>
    rw [if_neg Bool.false_ne_true, if_neg Bool.false_ne_true]
    exact a.at_ k q
  | true =>
    rw [if_pos rfl, if_pos rfl]
    have hl := a.len
    by_cases h : k < List.length σ
    · rw [List.getElem?_eq_getElem h, List.getElem?_eq_getElem (show k < List.length σ' by omega)]; rfl
    · rw [List.getElem?_eq_none (by omega), List.getElem?_eq_none (by omega)]
def wipeO (ρ : En) : List Nat → En
  | [] => ρ
  | v :: vs => (wipeO ρ vs).set v .hid
theorem wipeO_get : ∀ (vs : List Nat) (ρ : En) (k : Nat), (wipeO ρ vs)[k]? = if vs.contains k then (ρ[k]?).map fun _ => O.hid else ρ[k]?
  | [], σ, k => rfl
  | v :: vs, ρ, k => by
    have hw : ∀ vs : List Nat, (wipeO ρ vs).length = ρ.length := fun vs => by
      induction vs with
      | nil => rfl
      | cons v vs ih =>
        show ((wipeO ρ vs).set v .hid).length = _
        rw [List.length_set]; exact ih
    show ((wipeO ρ vs).set v .hid)[k]? = _
    rw [List.getElem?_set, wipeO_get vs ρ k, List.contains_cons]
    by_cases hv : v = k
    · subst hv
      rw [if_pos rfl, beq_self_eq_true, Bool.true_or, if_pos rfl, hw]
      by_cases hl : v < ρ.length
      · rw [if_pos hl, List.getElem?_eq_getElem hl]; rfl
      · rw [if_neg hl, List.getElem?_eq_none (by omega)]; rfl
    · rw [if_neg hv, beq_eq_false_iff_ne.mpr (fun e => hv e.symm), Bool.false_or]
abbrev WG := O → En → (En → Prop) → Prop
abbrev WI := En → (List PyData → En → Prop) → Prop
section
variable (K : PySem.W.Frag) (Z : Ent)
def tG (own : List Nat) (wg : WG) : TG := fun v σ H Q => ∃ B ρ fp R d, Ok K Z B H (some v :: σ) (d :: ρ) fp ∧ wg d ρ R ∧ ∀ ρ', R ρ' → ∀ σ' H' B' fp', Nxt B H fp B' H' fp' → Ok K Z B' H' σ' ρ' fp' → Agr own σ σ' → Q σ' H'
def tGs (own : List Nat) (wg : List O → En → (En → Prop) → Prop) : TGs := fun vs σ H Q => ∃ B ρ fp R ds, Ok K Z B H (vs.map some ++ σ) (ds ++ ρ) fp ∧ vs.length = ds.length ∧ wg ds ρ R ∧ ∀ ρ', R ρ' → ∀ σ' H' B' fp', Nxt B H fp B' H' fp' → Ok K Z B' H' σ' ρ' fp' → Agr own σ σ' → Q σ' H'
def ItD (J : It) (B : Hp) (items : List PyData) : Prop := ∀ B' H', Sub B B' → Sub B' H' → ∀ i, (i < items.length → J.go i H' ∧ ∀ x H'', J.yld i H' x H'' → ∃ d B'', items[i]? = some d ∧ Out K B' H' x (.fz d) B'' H'') ∧ (i = items.length → J.stop i H')
def ItN (J : It) (B H : Hp) (fp : List Addr) (items : List PyData) : Prop := ∀ B' H' g, Nxt B H fp B' H' g → Sub B' H' → ∀ i, (i < items.length → J.go i H' ∧ ∀ x H'', J.yld i H' x H'' → ∃ d B'', items[i]? = some d ∧ Out K B' H' x (.fz d) B'' H'') ∧ (i = items.length → J.stop i H')
theorem ItD.n {J : It} {B H : Hp} {fp : List Addr} {items : List PyData} (h : ItD K J B items) : ItN K J B H fp items := fun B' H' g n s => h B' H' n.bsub s
def tI (wi : WI) : TI := fun σ H R => ∃ B ρ fp Rd, Ok K Z B H σ ρ fp ∧ wi ρ Rd ∧ ∀ items ρ', Rd items ρ' → ∀ J H' B' fp', Nxt B H fp B' H' fp' → Ok K Z B' H' σ ρ' fp' → ItN K J B' H' fp' items → R J H'
end
def gN (i : Nat) : WG := fun d ρ R => R (ρ.set i d)
def gsN : List O → En → (En → Prop) → Prop := fun ds ρ R => ds = [] ∧ R ρ
def gsC (g : WG) (gs : List O → En → (En → Prop) → Prop) : List O → En → (En → Prop) → Prop := fun ds ρ R => match ds with
  | d :: r => g d ρ fun ρ' => gs r ρ' R
  | [] => False
def asT : O → (List O → Prop) → Prop
  | .fz (.tuple ds), k => k (ds.map O.fz)
  | .ot xs, k => k xs
  | _, _ => False
def gT (n : Nat) (gs : List O → En → (En → Prop) → Prop) : WG := fun d ρ R => asT d fun xs => xs.length = n ∧ gs xs ρ R
section
variable {X : Cx} {Z : Ent} {ps own : List Nat} {pos : Pos} {e : Expr} {w : WE} {sts : List Stmt} {s : WS} {g : WG} {gs : List O → En → (En → Prop) → Prop}
theorem g_name {i : Nat} {x : Str} (hN : X.N.Nodup) (hi : X.N[i]? = some x) (hx : Loc X.env.scope x) (ho : own.contains i = true) (hf : X.fn x = true ∨ X.env.scope.names.lookup x = some .local := by first | exact .inl rfl | exact .inr rfl | assumption) : PG X (.Name x pos) (tG X.K Z own (gN i)) :=
  ⟨fun pins s σ H v u Q I r q => (pg_name hN hi hx hf).run pins s σ H v u Q I r (by
    obtain ⟨B, ρ, fp, R, d, k, h, q⟩ := q
    obtain ⟨f2, k2, hs⟩ := k.store i
    exact q _ h _ H B f2 (Nxt.self hs) k2 (Agr.set ho))⟩
theorem gs_nil : PGs X [] (tGs X.K Z own gsN) := ⟨fun pins s σ H vs us Q I r q => pgs_nil.run pins s σ H vs us Q I r (by
  obtain ⟨B, ρ, fp, R, ds, k, hl, ⟨rfl, h⟩, q⟩ := q
  have : vs = [] := List.eq_nil_of_length_eq_zero hl
  subst this
  exact ⟨rfl, q ρ h σ H B fp (Nxt.refl _ _ _) k (Agr.refl _ _)⟩)⟩
theorem gs_cons {t : Expr} {ts : List Expr} (hg : PG X t (tG X.K Z own g)) (hgs : PGs X ts (tGs X.K Z own gs)) (hs : (assignEach (t :: ts) X.env).map (·.2) = assign t X.env :: (assignEach ts X.env).map (·.2) := by rfl) : PGs X (t :: ts) (tGs X.K Z own (gsC g gs)) := by
  refine ⟨fun pins s σ H vs us Q I r q => (pgs_cons hg hgs hs).run pins s σ H vs us Q I r ?_⟩
  obtain ⟨B, ρ, fp, R, ds, k, hl, h, q⟩ := q
  cases ds with
  | nil => exact False.elim h
  | cons d ds =>
    cases vs with
    | nil => cases hl
    | cons v vs =>
      obtain ⟨f1, f2, rfl, r1, k2, fr⟩ := Ok.frame (τ := [some v]) (xs := [d]) (σ := vs.map some ++ σ) (ρ := ds ++ ρ) k rfl
      have hl' : vs.length = ds.length := Nat.succ.inj hl
      have k' : Ok X.K Z B H ((some v :: vs.map some) ++ σ) ((d :: ds) ++ ρ) (f1 ++ f2) := k
      obtain ⟨h1, h2, e12, r2, k3, fr3⟩ := Ok.frame (τ := vs.map some) (xs := ds) k2 (by rw [List.length_map]; exact hl')
      subst e12
      have kk : Ok X.K Z B H (vs.map some ++ (some v :: σ)) (ds ++ (d :: ρ)) (h1 ++ (f1 ++ h2)) := by
        obtain ⟨sub, un, rs, nd, out, nx⟩ := k'
        have pm : (f1 ++ (h1 ++ h2)).Perm (h1 ++ (f1 ++ h2)) := perm3
        refine ⟨sub, fun i z => ?_, ?_, pm.nodup nd, fun a ha => out a (pm.symm.subset ha), nx.less fun a ha => pm.symm.subset ha⟩
        · by_cases hi : i < vs.length
          · exfalso
            rw [List.getElem?_append_left (by rw [List.length_map]; exact hi), List.getElem?_map, List.getElem?_eq_getElem hi] at z
            cases z
          · rw [List.getElem?_append_right (by rw [List.length_map]; omega), List.length_map] at z
            rw [List.getElem?_append_right (by omega), ← hl']
            cases q0 : i - vs.length with
            | zero => rw [q0] at z; cases z
            | succ j =>
              rw [q0] at z
              exact k3.un j z
        · rw [valsOf_append, valsOf_cons]
          rw [show valsOf [some v] = [v] from rfl] at r1
          cases r1 with
          | @cons _ _ _ _ g1 g2 a b =>
            cases b
            rw [List.append_nil]
            exact r2.append (.cons a k3.rs)
      obtain ⟨j1, j2, e2, r3, k4, fr4⟩ := Ok.frame (τ := vs.map some) (xs := ds) (σ := some v :: σ) (ρ := d :: ρ) kk (by rw [List.length_map]; exact hl')
      refine ⟨v, vs, rfl, B, ρ, j2, _, d, k4, h, fun ρ1 q1 σ1 H1 B1 fp1 n1 k1 ag => ?_⟩
      obtain ⟨k5, n5⟩ := fr4 n1 k1
      have n0 : Nxt B H (f1 ++ (h1 ++ h2)) B1 H1 (j1 ++ fp1) := n5.more fun a ha => perm3.symm.subset ha
      exact ⟨B1, ρ1, _, R, ds, k5, hl', q1, fun ρ2 q2 σ2 H2 B2 fp2 n2 k6 ag2 => q ρ2 q2 σ2 H2 B2 fp2 (n0.trans n2) k6 (ag.trans ag2)⟩
theorem asT_iff {x : O} {k : List O → Prop} (h : asT x k) : ∃ xs, k xs ∧ ((∃ ds, x = .fz (.tuple ds) ∧ xs = ds.map O.fz) ∨ x = .ot xs) := by
  cases x with
  | fz f =>
    cases f with
    | tuple ds => exact ⟨_, h, .inl ⟨ds, rfl, rfl⟩⟩
    | _ => exact False.elim h
  | ot xs => exact ⟨_, h, .inr rfl⟩
  | _ => exact False.elim h
theorem g_tup {es : List Expr} {k n : Nat} (hc : X.calm = true) (h : PGs X es (tGs X.K Z own gs)) (hn : (assignEach es X.env).length = n := by rfl) (hst : (assignEach es X.env).findIdx? (·.1) = none := by rfl) : PG X (.Tuple es k pos) (tG X.K Z own (gT n gs)) := by
  refine ⟨fun pins s σ H v u Q I r q => (pg_tup hc h hn hst).run pins s σ H v u Q I r ?_⟩
  obtain ⟨B, ρ, fp, R, d, kk, hh, q⟩ := q
  obtain ⟨xs, ⟨hxl, hg⟩, hx⟩ := asT_iff hh
  obtain ⟨f1, f2, rfl, r1, k2, _⟩ := Ok.frame (τ := [some v]) (xs := [d]) kk rfl
  rw [show valsOf [some v] = [v] from rfl] at r1
  cases r1 with
  | @cons _ _ _ _ g1 g2 a b =>
    cases b
    rw [List.append_nil] at *
    have rr : ∃ p vs, v = .ref p ∧ SqT X.K H p vs ∧ ROs X.K B H vs xs g1 := by
      rcases hx with ⟨ds, rfl, rfl⟩ | rfl
      · cases a with
        | fz a =>
          cases a with
          | tup t r => exact ⟨_, _, rfl, kk.sub.sqT t, ROs.fzs r⟩
      · cases a with
        | ot t r => exact ⟨_, _, rfl, SqT.of (kk.sub _ _ t), r⟩
    obtain ⟨p, vs, rfl, ht, rr⟩ := rr
    have hl := rr.length
    refine ⟨p, vs, rfl, ht, hl.trans hxl, B, ρ, g1 ++ f2, R, xs, ⟨kk.sub, fun i z => ?_, by rw [valsOf_append, valsOf_some]; exact rr.append k2.rs, kk.nd, kk.out, kk.nx⟩, hl, hg, q⟩
    by_cases hi : i < vs.length
    · exfalso
      rw [List.getElem?_append_left (by rw [List.length_map]; exact hi), List.getElem?_map, List.getElem?_eq_getElem hi] at z
      cases z
    · rw [List.getElem?_append_right (by rw [List.length_map]; omega), List.length_map] at z
      rw [List.getElem?_append_right (by omega), ← hl]
      exact k2.un _ z
def sAsg (g : WG) (w : WE) : WS := fun E ρ => w ρ fun d ρ1 => g d ρ1 E.nx
theorem s_asg {tg : Expr} (he : PE X e (tE X.K Z w)) (hg : PG X tg (tG X.K Z own g)) (hp : (ps.any fun k => own.contains k) = false) (hs : swapsWithSole [tg] e pos.line X.env = pure false := by rfl) (hw : swappedStores [tg] e X.env = pure none := by rfl) (h1 : (assignEach [tg] X.env).map (·.2) = [assign tg X.env] := by rfl) : PS X (.Assign [tg] e pos) (tS X.K Z ps (sAsg g w)) :=
  ps_to (ps_asg he hg hs hw h1) fun D σ H q => by
    obtain ⟨B, ρ, fp, E, k, q, p⟩ := q
    exact ⟨B, ρ, fp, _, k, q, fun d ρ' h1 v H' B' fp' n k1 => ⟨B', ρ', fp', _, d, k1, h1, fun ρ2 h2 σ2 H2 B2 fp2 n2 k2 ag => p.nx ρ2 h2 σ2 H2 B2 fp2 (n.trans n2) k2 (ag.pin hp)⟩⟩
def forN (g : WG) (s : WS) (E : DE) : List PyData → En → Prop
  | [], ρ => E.nx ρ
  | d :: r, ρ => g (.fz d) ρ fun ρ1 => s { E with nx := forN g s E r, ct := forN g s E r, bk := E.nx } ρ1
def sFor (wi : WI) (g : WG) (s : WS) : WS := fun E ρ => wi ρ fun items ρ1 => forN g s E items ρ1
theorem s_for {tg iter : Expr} {wi : WI} (hp : PassesOwn (model X.prog X.w) X.A X.env X.xe) (hc : X.calm = true) (hi : PI X tg iter (tI X.K Z wi)) (hg : PG X tg (tG X.K Z own g)) (ho : (ps.any fun k => own.contains k) = false) (hb : PSs X sts (tS X.K Z ps s)) (hs : ∀ x, foldedSetIterable iter X.env x = pure x := by intro _; rfl) :
    PS X (.For tg iter sts [] pos) (tS X.K Z ps (sFor wi g s)) := ps_to (ps_for hp hc hi hg hb hs) fun D σ H q => by
  obtain ⟨B, ρ, fp, E, k, q, p⟩ := q
  refine ⟨B, ρ, fp, _, k, q, fun items ρ1 h1 J H1 B1 f1 n1 k1 hJ => ?_⟩
  have p1 := p.step n1 (Pin.refl ps σ)
  refine ⟨fun i m σ' H' => i + m = items.length ∧ ∃ B' ρ' fp', Nxt B1 H1 f1 B' H' fp' ∧ Ok X.K Z B' H' σ' ρ' fp' ∧ Pin ps σ σ' ∧ forN g s E (items.drop i) ρ', ⟨items.length, Nat.zero_add _, B1, ρ1, f1, Nxt.refl _ _ _, k1, Pin.refl _ _, h1⟩, fun i m σ' H' hW => ?_⟩
  obtain ⟨em, B2, ρ2, f2, n2, k2, pn, h2⟩ := hW
  obtain ⟨ja, jb⟩ := hJ B2 H' _ n2 k2.sub i
  by_cases hi : i < items.length
  · obtain ⟨hgo, hy⟩ := ja hi
    refine .inr ⟨hgo, fun σ3 H3 => ∃ B' ρ' fp', Nxt B1 H1 f1 B' H3 fp' ∧ Ok X.K Z B' H3 σ3 ρ' fp' ∧ Pin ps σ σ3 ∧ forN g s E (items.drop (i + 1)) ρ', fun σ3 H3 h3 => ⟨m - 1, by omega, by omega, h3⟩, fun x H3 hyl => ?_⟩
    obtain ⟨d, B3, hd, ho3⟩ := hy x H3 hyl
    obtain ⟨g3, k3, n3⟩ := ho3.ok k2
    rw [List.drop_eq_getElem_cons hi] at h2
    have ed : items[i] = d := by
      rw [List.getElem?_eq_getElem hi] at hd
      exact Option.some.inj hd
    rw [ed] at h2
    refine ⟨B3, ρ2, g3, _, _, k3, h2, fun ρ4 h4 σ4 H4 B4 f4 n4 k4 ag => ?_⟩
    have pn4 : Pin ps σ σ4 := pn.trans (ag.pin ho)
    have n14 := (n2.trans n3).trans n4
    have p4 := p1.step n14 pn4
    refine ⟨B4, ρ4, f4, _, k4, h4, ⟨fun ρ' h' σ5 H5 B5 f5 n5 k5 q5 => ⟨B5, ρ', f5, n14.trans n5, k5, pn4.trans q5, h'⟩, p4.rt, p4.nx, fun ρ' h' σ5 H5 B5 f5 n5 k5 q5 => ⟨B5, ρ', f5, n14.trans n5, k5, pn4.trans q5, h'⟩, p4.xc⟩⟩
  · refine .inl ⟨jb (by omega), ?_⟩
    rw [List.drop_eq_nil_of_le (by omega)] at h2
    exact p1.nx ρ2 h2 σ' H' B2 f2 n2 k2 pn
def lcN (g : WG) (wt : WT) (w : WE) (own : List Nat) (k : List O → En → Prop) : List PyData → En → List O → Prop
  | [], ρ, acc => k acc ρ
  | d :: r, ρ, acc => g (.fz d) (wipeO ρ own) fun ρ1 => wt ρ1 fun b ρ2 => br b (w ρ2 fun y ρ3 => lcN g wt w own k r ρ3 (acc ++ [y])) (lcN g wt w own k r ρ2 acc)
def szMax : Nat := 1000000
theorem szOk {n : Nat} (h : n ≤ szMax) : n ≤ sizeLine := Nat.le_trans h (by decide)
theorem szLt {n : Nat} (h : n ≤ szMax) : n < sizeLine := Nat.lt_of_le_of_lt h (by decide)
def wLc (wi : WI) (g : WG) (wt : WT) (w : WE) (own : List Nat) : WE := fun ρ R => wi ρ fun items ρ1 => items.length ≤ szMax ∧ lcN g wt w own (fun out ρ2 => R (.ol out) (wipeO ρ2 own)) items ρ1 []
def wYes : WT := fun ρ R => R true ρ
end
section
variable {K : PySem.W.Frag} {Z : Ent} {B H : Hp} {σ τ τ' : St} {ρ xs xs' : En} {fp : List Addr}
theorem Ok.hide (k : Ok K Z B H σ ρ fp) (i : Nat) (v : Option V) : ∃ f2, Ok K Z B H (σ.set i v) (ρ.set i .hid) f2 ∧ ∀ a ∈ f2, a ∈ fp := by
  obtain ⟨f2, h1, h2, h3⟩ := k.rs.forget i
  by_cases hi : i < ρ.length
  · refine ⟨f2, k.part (fun j z => ?_) ?_ (h3 k.nd) h2, h2⟩
    · by_cases hj : i = j
      · subst hj
        rw [List.getElem?_set_self hi]
      · rw [List.getElem?_set_ne hj] at z
        rw [List.getElem?_set_ne hj]
        exact k.un j z
    · have := h1.any (v.getD .non) (i := i) (by rw [List.getElem?_set_self hi])
      have ev : (valsOf σ).set i (v.getD .non) = valsOf (σ.set i v) := by
        unfold valsOf
        rw [List.map_set]
      rw [ev] at this
      exact this
  · have hl := k.len
    have hl' : List.length σ = ρ.length := hl
    rw [List.set_eq_of_length_le (by omega), List.set_eq_of_length_le (by omega)]
    exact ⟨fp, k, fun _ h => h⟩
theorem Ok.wipe (k : Ok K Z B H σ ρ fp) : ∀ own : List Nat, ∃ f2, Ok K Z B H (L2.wipe σ own) (wipeO ρ own) f2 ∧ ∀ a ∈ f2, a ∈ fp
  | [] => ⟨fp, k, fun _ h => h⟩
  | v :: vs => by
    obtain ⟨f2, h1, h2⟩ := k.wipe vs
    obtain ⟨f3, h3, h4⟩ := h1.hide v none
    exact ⟨f3, h3, fun a ha => h2 a (h4 a ha)⟩
theorem Ok.unwipe {own : List Nat} (k : Ok K Z B H (L2.wipe σ own) (wipeO ρ own) fp) : Ok K Z B H σ (wipeO ρ own) fp := by
  have hl := k.len
  refine ⟨k.sub, fun j z => ?_, ?_, k.nd, k.out, k.nx⟩
  · cases q : own.contains j with
    | true =>
      rw [wipeO_get, if_pos q]
      rw [wipe_length] at hl
      have hj := (List.getElem?_eq_some_iff.mp z).1
      have e : (wipeO ρ own).length = ρ.length := by
        clear k z hl
        induction own with
        | nil => rfl
        | cons v vs ih =>
          show ((wipeO ρ vs).set v .hid).length = _
          rw [List.length_set]
          by_cases qq : vs.contains j = true
          · exact ih qq
          · have : ∀ vs : List Nat, (wipeO ρ vs).length = ρ.length := fun vs => by
              induction vs with
              | nil => rfl
              | cons v vs ih =>
                show ((wipeO ρ vs).set v .hid).length = _
                rw [List.length_set]; exact ih
            exact this vs
      rw [List.getElem?_eq_getElem (show j < ρ.length by omega)]
      rfl
    | false =>
      refine k.un j ?_
      rw [wipe_get, if_neg (by rw [q]; exact Bool.false_ne_true)]
      exact z
  · -- the values at the hidden places are free
    have gen : ∀ (xs : List O) (vs us : List V) (f : List Addr), ROs K B H vs xs f → us.length = vs.length → (∀ j : Nat, us[j]? = vs[j]? ∨ xs[j]? = some O.hid) → ROs K B H us xs f := fun xs => by
      induction xs with
      | nil =>
        intro vs us f r e _
        cases r
        have : us = [] := List.eq_nil_of_length_eq_zero e
        subst this
        exact .nil
      | cons x xs ih =>
        intro vs us f r e h
        cases r with
        | cons a b =>
          cases us with
          | nil => cases e
          | cons u us =>
            have t := ih _ us _ b (Nat.succ.inj e) fun j => by simpa using h (j + 1)
            rcases h 0 with q | q
            · have q' := Option.some.inj (show some u = some _ from q)
              subst q'
              exact .cons a t
            · have q' : x = O.hid := by simpa using q
              subst q'
              cases a
              exact .cons .hid t
    refine gen _ _ _ _ k.rs (by unfold valsOf; rw [List.length_map, List.length_map, wipe_length]) fun j => ?_
    cases q : own.contains j with
    | true =>
      by_cases hj : j < (wipeO ρ own).length
      · right
        have e := wipeO_get own ρ j
        rw [if_pos q] at e
        rw [List.getElem?_eq_getElem hj] at e ⊢
        cases z : (ρ[j]? : Option O) with
        | none => rw [z] at e; cases e
        | some y => rw [z] at e; exact e
      · left
        rw [valsOf_get, valsOf_get]
        have h1 : List.length σ = (wipeO ρ own).length := by
          have := k.len
          rw [wipe_length] at this
          exact this
        rw [List.getElem?_eq_none (by omega), List.getElem?_eq_none (by rw [wipe_length]; omega)]
    | false =>
      left
      rw [valsOf_get, valsOf_get, wipe_get, if_neg (by rw [q]; exact Bool.false_ne_true)]
theorem Ok.write {p : Addr} {o' : HO} {f1 f2 f3 : List Addr} (k : Ok K Z B H (τ ++ σ) (xs ++ ρ) (f1 ++ f2)) (k2 : Ok K Z B H σ ρ f2) (hp : p ∈ f1) (r : ROs K B (upd H p o') (valsOf τ') xs' f3) (hs : ∀ a ∈ f3, a ∈ f1) (nd : f3.Nodup) (un : ∀ i : Nat, (τ'[i]? : Option (Option V)) ≠ some none) (hl : τ'.length = xs'.length) :
    Ok K Z B (upd H p o') (τ' ++ σ) (xs' ++ ρ) (f3 ++ f2) ∧ Nxt B H (f1 ++ f2) B (upd H p o') (f3 ++ f2) := by
  obtain ⟨n1, n2, n3⟩ := List.nodup_append.mp k.nd
  have hB : B p = none := k.out p (List.mem_append_left _ hp)
  have hm : ∀ a ∈ f3 ++ f2, a ∈ f1 ++ f2 := fun a ha => by
    rcases List.mem_append.mp ha with z | z
    · exact List.mem_append_left _ (hs a z)
    · exact List.mem_append_right _ z
  have hn : Nxt B H (f1 ++ f2) B (upd H p o') (f3 ++ f2) := ⟨Sub.refl B, fun a o e m _ => by
    rw [upd_ne (fun z => m (by rw [z]; exact List.mem_append_left _ hp))]
    exact e, fun a e => .inl e, fun a ha => .inl (hm a ha), fun a e => by
    by_cases h : a = p
    · subst h; rw [upd_same] at e; cases e
    · rwa [upd_ne h] at e, TbK.upd fun o e => by
    obtain ⟨o', e', q⟩ := k.rs.liveP p (List.mem_append_left _ hp)
    rw [e] at e'; cases e'; exact q, fun h => h⟩
  refine ⟨⟨k.sub.updR hB, fun i z => ?_, ?_, List.nodup_append.mpr ⟨nd, n2, fun a ha b hb e => n3 a (hs a ha) b hb e⟩, fun a ha => k.out a (hm a ha), k.nx.trans hn⟩, hn⟩
  · by_cases hi : i < List.length τ'
    · rw [List.getElem?_append_left hi] at z
      exact absurd z (un i)
    · rw [List.getElem?_append_right (by omega)] at z
      rw [List.getElem?_append_right (by omega), ← hl]
      exact k2.un _ z
  · rw [valsOf_append]
    exact r.append (k2.rs.next (Sub.refl B) fun a ha o e _ => by
      rw [upd_ne (fun z => n3 p hp a ha z.symm)]
      exact e)
theorem ROs.upd {vs : List V} {f : List Addr} {p : Addr} {o : HO} (r : ROs K B H vs xs f) (h : p ∉ f) : ROs K B (L2.upd H p o) vs xs f := r.next (Sub.refl B) fun a ha u e _ => by
  rw [upd_ne (fun z => h (by rw [← z]; exact ha))]
  exact e
theorem Ok.push {D : Addr} {y : V} {acc : List O} {dy : O} (k : Ok K Z B H (some (.ref D) :: some y :: σ) (.ol acc :: dy :: ρ) fp) : ∃ vs f3, H D = some (.lst vs) ∧ vs.length = acc.length ∧ Ok K Z B (upd H D (.lst (vs ++ [y]))) (some (.ref D) :: σ) (.ol (acc ++ [dy]) :: ρ) f3 ∧ Nxt B H fp B (upd H D (.lst (vs ++ [y]))) f3 := by
  obtain ⟨f1, f2, rfl, r, k2, _⟩ := Ok.frame (τ := [some (.ref D), some y]) (xs := [.ol acc, dy]) k rfl
  obtain ⟨n1, n2, n3⟩ := List.nodup_append.mp k.nd
  rw [show valsOf [some (V.ref D), some y] = [.ref D, y] from rfl] at r
  cases r with
  | @cons _ _ _ _ g1 g2 a b =>
    cases a with
    | @ol _ vs _ g0 hD rr =>
      cases b with
      | @cons _ _ _ _ g3 g4 c d =>
        cases d
        rw [List.append_nil] at *
        have nd := n1
        rw [List.cons_append] at nd
        obtain ⟨m1, m2⟩ := List.nodup_cons.mp nd
        have hw := Ok.write (τ := [some (.ref D), some y]) (xs := [.ol acc, dy]) (τ' := [some (.ref D)]) (xs' := [.ol (acc ++ [dy])]) (p := D) (o' := .lst (vs ++ [y])) (f1 := D :: g0 ++ g3) (f2 := f2) (f3 := D :: (g0 ++ g3) ++ []) k k2 (List.mem_cons_self ..)
          (.cons (.ol upd_same ((rr.append (.cons c .nil)).upd (by rw [List.append_nil]; exact m1) |> fun z => by rw [List.append_nil] at z; exact z)) .nil) (fun a ha => by rw [List.append_nil] at ha; exact ha) (by rw [List.append_nil]; exact n1) (fun i z => by
            cases i with
            | zero => cases z
            | succ i => cases i <;> cases z) rfl
        exact ⟨vs, _, hD, rr.length, hw.1, hw.2⟩
end
section
variable {X : Cx} {Z : Ent} {ps own : List Nat} {pos : Pos} {w : WE} {wt : WT} {g : WG}
theorem e_lc_ok {K : PySem.W.Frag} {wi : WI} {ow : List (Str × Nat)} {σ : St} {H : Hp} {Q : VK} (h : tE K Z (wLc wi g wt w (ow.map (·.2))) σ H Q) : tLc (tI K Z wi) (tG K Z (ow.map (·.2)) g) (tT K Z wt) (tE K Z w) (ow.map (·.2)) σ H Q := by
  generalize ow.map (·.2) = own at *
  obtain ⟨B, ρ, fp, R, k, h, q⟩ := h
  refine ⟨B, ρ, fp, _, k, h, fun items ρ1 h1 J H1 B1 f1 n1 k1 hJ D hD => ?_⟩
  obtain ⟨hz, h1⟩ := h1
  obtain ⟨f2, kw, hs2⟩ := k1.wipe own
  have o0 : Out K B1 H1 (.ref D) (.ol (([] : List PyData).map O.fz)) B1 (upd H1 D (.lst [])) := Out.lstO .nil k1.sub hD
  obtain ⟨g0, k0, n0⟩ := o0.ok kw
  refine ⟨fun i m H' => i + m = items.length ∧ ∃ B' ρ' fp' acc, Nxt B1 H1 f1 B' H' fp' ∧ Ok K Z B' H' (some (.ref D) :: wipe σ own) (.ol acc :: wipeO ρ' own) fp' ∧ acc.length ≤ i ∧ lcN g wt w own (fun out ρ2 => R (.ol out) (wipeO ρ2 own)) (items.drop i) ρ' acc,
    ⟨items.length, Nat.zero_add _, B1, ρ1, g0, [], (Nxt.self hs2).trans n0, k0, Nat.le_refl _, h1⟩, fun i m H2 hW => ?_⟩
  obtain ⟨em, B2, ρ2, f3, acc, n2, k2, ha, h2⟩ := hW
  obtain ⟨ja, jb⟩ := hJ B2 H2 _ n2 k2.sub i
  by_cases hi : i < items.length
  · obtain ⟨hgo, hy⟩ := ja hi
    refine .inr ⟨hgo, fun H' => ∃ B' ρ' fp' acc, Nxt B1 H1 f1 B' H' fp' ∧ Ok K Z B' H' (some (.ref D) :: wipe σ own) (.ol acc :: wipeO ρ' own) fp' ∧ acc.length ≤ i + 1 ∧ lcN g wt w own (fun out ρ2 => R (.ol out) (wipeO ρ2 own)) (items.drop (i + 1)) ρ' acc, fun H' hN => ⟨m - 1, by omega, by omega, hN⟩, fun x H3 hyl => ?_⟩
    obtain ⟨d, B3, hd, o3⟩ := hy x H3 hyl
    rw [List.drop_eq_getElem_cons hi] at h2
    have ed : items[i] = d := by
      rw [List.getElem?_eq_getElem hi] at hd
      exact Option.some.inj hd
    rw [ed] at h2
    obtain ⟨fD, fE, rfl, rD, kE, fr⟩ := Ok.frame (τ := [some (.ref D)]) (xs := [.ol acc]) k2 rfl
    obtain ⟨g3, k3, n3⟩ := o3.ok kE
    refine ⟨B3, _, g3, _, _, k3, h2, fun ρ4 h4 σ4 H4 B4 f4 n4 k4 ag => ⟨ag.wipe.trans (by
      refine List.ext_getElem? fun k => ?_
      rw [wipe_get, wipe_get]
      cases qq : own.contains k with
      | false => rfl
      | true =>
        rw [if_pos rfl, if_pos rfl]
        cases (σ[k]? : Option (Option V)) <;> rfl), ?_⟩⟩
    have e4 : wipe σ4 own = wipe σ own := ag.wipe.trans (by
      refine List.ext_getElem? fun k => ?_
      rw [wipe_get, wipe_get]
      cases qq : own.contains k with
      | false => rfl
      | true =>
        rw [if_pos rfl, if_pos rfl]
        cases (σ[k]? : Option (Option V)) <;> rfl)
    have n14 := n3.trans n4
    refine ⟨B4, ρ4, f4, _, k4, h4, fun b ρ5 h5 H5 B5 f5 n5 k5 => ?_⟩
    cases b with
    | true =>
      rw [if_pos rfl]
      refine ⟨B5, ρ5, f5, _, k5, h5, fun y ρ6 h6 v H6 B6 f6 n6 k6 => ?_⟩
      obtain ⟨k7, n7⟩ := fr ((n14.trans n5).trans n6) k6
      obtain ⟨vs, f8, hDv, hlv, k8, n8⟩ := Ok.push k7
      refine ⟨vs, hDv, szLt (by omega), ?_⟩
      obtain ⟨f9, k9, hs9⟩ : ∃ f9, Ok K Z B6 (upd H6 D (.lst (vs ++ [v]))) (some (.ref D) :: wipe σ4 own) (.ol (acc ++ [y]) :: wipeO ρ6 own) f9 ∧ ∀ a ∈ f9, a ∈ f8 := by
        obtain ⟨a1, a2, rfl, a3, a4, _⟩ := Ok.frame (τ := [some (.ref D)]) (xs := [.ol (acc ++ [y])]) k8 rfl
        obtain ⟨a5, a6, a7⟩ := a4.wipe own
        obtain ⟨m1, m2, m3⟩ := List.nodup_append.mp k8.nd
        have hsub : ∀ a ∈ a1 ++ a5, a ∈ a1 ++ a2 := fun a ha => by
          rcases List.mem_append.mp ha with z | z
          · exact List.mem_append_left _ z
          · exact List.mem_append_right _ (a7 a z)
        refine ⟨a1 ++ a5, k8.part (fun j z => ?_) (a3.append a6.rs) (List.nodup_append.mpr ⟨m1, a6.nd, fun a ha b hb e => m3 a ha b (a7 b hb) e⟩) hsub, hsub⟩
        cases j with
        | zero => cases z
        | succ j => exact a6.un j z
      rw [e4] at k9
      exact ⟨B6, ρ6, f9, acc ++ [y], ((n2.trans n7).trans n8).less hs9, k9, by rw [List.length_append, List.length_singleton]; omega, h6⟩
    | false =>
      rw [if_neg Bool.false_ne_true]
      obtain ⟨k7, n7⟩ := fr (n14.trans n5) k5
      obtain ⟨f9, k9, hs9⟩ : ∃ f9, Ok K Z B5 H5 (some (.ref D) :: wipe σ4 own) (.ol acc :: wipeO ρ5 own) f9 ∧ ∀ a ∈ f9, a ∈ fD ++ f5 := by
        obtain ⟨a1, a2, ea, a3, a4, _⟩ := Ok.frame (τ := [some (.ref D)]) (xs := [.ol acc]) k7 rfl
        obtain ⟨a5, a6, a7⟩ := a4.wipe own
        have nd := k7.nd
        rw [ea] at nd ⊢
        obtain ⟨m1, m2, m3⟩ := List.nodup_append.mp nd
        have hsub : ∀ a ∈ a1 ++ a5, a ∈ a1 ++ a2 := fun a ha => by
          rcases List.mem_append.mp ha with z | z
          · exact List.mem_append_left _ z
          · exact List.mem_append_right _ (a7 a z)
        refine ⟨a1 ++ a5, k7.part (fun j z => ?_) (a3.append a6.rs) (List.nodup_append.mpr ⟨m1, a6.nd, fun a ha b hb e => m3 a ha b (a7 b hb) e⟩) (fun a ha => by rw [ea]; exact hsub a ha), hsub⟩
        cases j with
        | zero => cases z
        | succ j => exact a6.un j z
      rw [e4] at k9
      exact ⟨B5, ρ5, f9, acc, (n2.trans n7).less hs9, k9, by omega, h5⟩
  · refine .inl ⟨jb (by omega), ?_⟩
    rw [List.drop_eq_nil_of_le (by omega)] at h2
    obtain ⟨a1, a2, rfl, a3, a4, _⟩ := Ok.frame (τ := [some (.ref D)]) (xs := [.ol acc]) k2 rfl
    have a5 := a4.unwipe
    refine q _ _ h2 (.ref D) H2 B2 (a1 ++ a2) (n1.trans n2) ⟨k2.sub, fun j z => ?_, ?_, k2.nd, k2.out, k2.nx⟩
    · cases j with
      | zero => cases z
      | succ j => exact a5.un j z
    · rw [valsOf_cons]
      exact a3.append a5.rs
def toLf : O → (O → Prop) → Prop
  | .ol xs, k => ∃ ds, xs = ds.map O.fz ∧ k (.lf ds)
  | .lf ds, k => k (.lf ds)
  | _, _ => False
def wLf (w : WE) : WE := fun ρ R => w ρ fun d ρ1 => toLf d fun d' => R d' ρ1
theorem lf_ok {K : PySem.W.Frag} {σ : St} {H : Hp} {Q : VK} (h : tE K Z (wLf w) σ H Q) : tE K Z w σ H Q := by
  obtain ⟨B, ρ, fp, R, k, h, q⟩ := h
  refine ⟨B, ρ, fp, _, k, h, fun d ρ' h1 v H' B' fp' n k1 => ?_⟩
  cases d with
  | lf ds => exact q _ ρ' h1 v H' B' fp' n k1
  | ol xs =>
    obtain ⟨ds, rfl, h2⟩ := h1
    refine q _ ρ' h2 v H' B' fp' n ⟨k1.sub, fun i z => ?_, ?_, k1.nd, k1.out, k1.nx⟩
    · cases i with
      | zero => cases z
      | succ i => exact k1.un (i + 1) z
    · have rs := k1.rs
      rw [valsOf_cons] at rs ⊢
      cases rs with
      | cons a b =>
        cases a with
        | ol e r =>
          obtain ⟨rr, e2⟩ := ROs.unfz r
          subst e2
          exact .cons (.lf e rr) b
  | _ => exact False.elim h1
theorem fz_ok {K : PySem.W.Frag} {σ : St} {H : Hp} {Q : VK} (h : tE K Z (wFz w) σ H Q) : tE K Z w σ H Q := by
  obtain ⟨B, ρ, fp, R, k, h, q⟩ := h
  refine ⟨B, ρ, fp, _, k, h, fun d ρ' h1 v H' B' fp' n k1 => ?_⟩
  obtain ⟨f, e, h2⟩ := h1
  obtain ⟨B2, f2, n2, k2⟩ := k1.fr1 e
  exact q _ ρ' h2 v H' B2 f2 (n.trans n2) k2
theorem e_lf {e : Expr} (h : PE X e (tE X.K Z w)) : PE X e (tE X.K Z (wLf w)) := pe_to h fun _ _ _ q => lf_ok q
structure Up (K : PySem.W.Frag) (Z : Ent) (U : WE → WE) : Prop where
  ok : ∀ w σ H Q, tE K Z (U w) σ H Q → tE K Z w σ H Q
theorem up_id {K : PySem.W.Frag} : Up K Z id := ⟨fun _ _ _ _ h => h⟩
theorem up_lf {K : PySem.W.Frag} : Up K Z wLf := ⟨fun _ _ _ _ h => lf_ok h⟩
theorem up_fz {K : PySem.W.Frag} : Up K Z wFz := ⟨fun _ _ _ _ h => fz_ok h⟩
variable {elt tg iter : Expr} {ifs : List Expr} {scope : Scope} {ow : List (Str × Nat)} {wi : WI}
theorem e_lc (hc : X.calm = true) (hN : X.N.Nodup) (hi : PI X tg iter (tI X.K Z wi)) (ok : BlkOk X.N X.env.scope scope ow) (hg : ∀ (s : Shared) (H : Hp) (C : Addr) (cl : List (Str × Addr)) (fp : List Addr), PG (X.blk s H scope (compEnvC scope cl C X.env) fp) tg (tG X.K Z (ow.map (·.2)) g))
    (ht : ∀ (s : Shared) (H : Hp) (C : Addr) (cl : List (Str × Addr)) (fp : List Addr), PTs (X.blk s H scope (compEnvC scope cl C X.env) fp) ifs (tT X.K Z wt)) (he : ∀ (s : Shared) (H : Hp) (C : Addr) (cl : List (Str × Addr)) (fp : List Addr), PE (X.blk s H scope (compEnvC scope cl C X.env) fp) elt (tE X.K Z w))
    (hs : ∀ x, foldedSetIterable iter X.env x = pure x := by intro _; rfl) : PE X (.ListComp elt [⟨tg, iter, ifs, 0⟩] scope pos) (tE X.K Z (wLc wi g wt w (ow.map (·.2)))) :=
  pe_to (pe_lc hc hN hi ok hg ht he hs) fun σ H Q q => e_lc_ok q
theorem ts_nil : PTs X [] (tT X.K Z wYes) := ⟨fun pins s σ H Q I q => pts_nil.run pins s σ H Q I (by
  obtain ⟨B, ρ, fp, R, k, h, q⟩ := q
  exact q true ρ h H B fp (Nxt.refl _ _ _) k)⟩
theorem ts_one {c : Expr} (h : PT X c (tT X.K Z wt)) : PTs X [c] (tT X.K Z wt) := pts_one h
theorem s_setLc {U : WE → WE} {i : Nat} {y : Str} {py spos : Pos} (up : Up X.K Z U) (hc : X.calm = true) (hN : X.N.Nodup) (hy : X.N[i]? = some y) (hyl : X.env.scope.names.lookup y = some .local) (hp : ps.contains i = false) (hsw : swapsWith (.ListComp elt [⟨tg, iter, ifs, 0⟩] scope pos) (some (.Name y py)) spos.line X.env = pure true) (hi : PI X tg iter (tI X.K Z wi)) (ok : BlkOk X.N X.env.scope scope ow)
    (hg : ∀ (s : Shared) (H : Hp) (C : Addr) (cl : List (Str × Addr)) (fp : List Addr), PG (X.blk s H scope (compEnvC scope cl C X.env) fp) tg (tG X.K Z (ow.map (·.2)) g)) (ht : ∀ (s : Shared) (H : Hp) (C : Addr) (cl : List (Str × Addr)) (fp : List Addr), PTs (X.blk s H scope (compEnvC scope cl C X.env) fp) ifs (tT X.K Z wt))
    (he : ∀ (s : Shared) (H : Hp) (C : Addr) (cl : List (Str × Addr)) (fp : List Addr), PE (X.blk s H scope (compEnvC scope cl C X.env) fp) elt (tE X.K Z w)) (hs : ∀ x, foldedSetIterable iter X.env x = pure x := by intro _; rfl) : PS X (.Assign [.Name y py] (.ListComp elt [⟨tg, iter, ifs, 0⟩] scope pos) spos) (tS X.K Z ps (sStore i (U (wLc wi g wt w (ow.map (·.2)))))) :=
  ps_to (ps_setLc hc hN hy hyl hsw hi ok hg ht he hs) fun D σ H q => e_lc_ok (up.ok _ _ _ _ (sStore_ok hp q))
end
end Pt
namespace Pt
open PySem PySem.Spec L2
theorem enum1_meets {u : Value} {ob : Obj} {G : Heap → Prop} (S : Begins u ob G) :
    Meets (Builtin.«enumerate.__new__» ⟨[.type "enumerate", u], []⟩) (fun _ R s => G s.heap ∧
      R (.ok (.ret (.ref (s.heap.push ob).objs.size))) { s with heap := (s.heap.push ob).push { cls := .type "enumerate", data := .fields #[.none, .bool false, .ref s.heap.objs.size, rawInt 0, .none, .none] } }) :=
  .of_wp fun prog w A R s hh => by
    obtain ⟨hp, gg, dd, tk, os⟩ := s; obtain ⟨hG, hh⟩ := hh
    have hsub := sub_enumerate
    have it1 : ∀ {B : Around} {E : Value → Shared → Prop} {Q : Value → Shared → Prop}, Q (.ref hp.objs.size) ⟨hp.push ob, gg, dd, tk, os⟩ → wpAny (model prog w) B (pyIter u) Q E ⟨hp, gg, dd, tk, os⟩ :=
      fun q => S.iter prog w _ _ ⟨hp, gg, dd, tk, os⟩ _ hG q
    wp_walk using it1
    refine wpAny_stack_any fun st => wpAny_pure ?_
    split
    · rename_i cc _ _ _ _ _
      cases (cc == Value.type "enumerate")
      · wp_walk using it1
        exact ⟨_, rfl, hh⟩
      · wp_walk using it1
        exact ⟨_, rfl, hh⟩
    · wp_walk using it1
      exact ⟨_, rfl, hh⟩
theorem enum1_call {prog : Program} {w : World} {A : Around} {E : Value → Shared → Prop} {s : Shared} {u : Value} {ob : Obj} {G : Heap → Prop} {Q : Value → Shared → Prop} (S : Begins u ob G) (hG : G s.heap)
    (q : ∀ h', IsEnum h' (s.heap.objs.size + 1) s.heap.objs.size 0 .none → h'.get? s.heap.objs.size = some ob → h'.objs.size = s.heap.objs.size + 2 → (∀ b o, s.heap.get? b = some o → h'.get? b = some o) → Q (.ref (s.heap.objs.size + 1)) { s with heap := h' }) :
    wpAny (model prog w) A (call (.type "enumerate") [u]) Q E s := by
  refine callType_new F.called_enumerate (by decide) (F.typeCall_enumerate_1 _) (F.newCall_enumerate_1 _) (fun obj => F.args_object_init_2 obj _) F.entry_enumerate_new (enum1_meets S) ⟨hG, ?_⟩
  have e1 : (s.heap.push ob).objs.size = s.heap.objs.size + 1 := Heap.size_push ..
  show _ ∧ _
  rw [e1]
  have e2 : IsEnum ((s.heap.push ob).push { cls := .type "enumerate", data := .fields #[.none, .bool false, .ref s.heap.objs.size, rawInt 0, .none, .none] }) (s.heap.objs.size + 1) s.heap.objs.size 0 .none := by
    have z := Heap.get?_push_size (s.heap.push ob) (o := { cls := .type "enumerate", data := .fields #[.none, .bool false, .ref s.heap.objs.size, rawInt 0, .none, .none] }) rfl
    rw [e1] at z; exact z
  exact ⟨⟨_, e2, rfl⟩, q _ e2 (Heap.get?_push_of_some _ (Heap.get?_push_size _ S.free)) (by rw [Heap.size_push, e1]) fun b o x => Heap.get?_push_of_some _ (Heap.get?_push_of_some _ x)⟩
def ItET (K : PySem.W.Frag) (a : Addr) : It :=
  ⟨fun i H => ∃ (xs : List V) (x : V), SqT K H a xs ∧ xs[i]? = some x, fun i H v H' => ∃ T x, v = .ref T ∧ H T = none ∧ H' = upd H T (.tup [.int (i : Nat), x]) ∧ ∀ xs, SqT K H a xs → xs[i]? = some x, fun i H => ∃ xs : List V, SqT K H a xs ∧ i = xs.length⟩
theorem turn_enumT {P : Program} {w : World} {K : PySem.W.Frag} {elts : List Expr} {kk : Nat} {tpos : Pos} (a e it : Addr) (hae : a ≠ it) :
    Turn P w K (.Tuple elts kk tpos) (ItET K a) [e, it] e (fun i h => (∃ old, IsEnum h e it ((i : Nat) : Int) old) ∧ h.IsTupleIter it a i ∧ e ≠ it ∧ a ≠ e) where
  mem := List.mem_cons_self ..
  obj := fun i h st b hb => by
    obtain ⟨⟨old, q1⟩, ⟨o, q2, q3, q4⟩, _⟩ := st
    rcases List.mem_cons.mp hb with z | hb
    · subst z; exact ⟨_, q1, fun v q => nomatch q⟩
    · rw [List.mem_singleton.mp hb]; exact ⟨o, q2, fun v q => by rw [q4] at q; cases q⟩
  keep := fun i h h' st k => by
    obtain ⟨⟨old, q1⟩, q2, q3⟩ := st
    exact ⟨⟨old, k e (List.mem_cons_self ..) _ q1⟩, q2.at fun o q => k it (List.mem_cons_of_mem _ (List.mem_singleton.mpr rfl)) o q, q3⟩
  item := by
    intro X hP hw hK hc i pins s σ H E I hf st hg
    subst hP hw hK
    obtain ⟨⟨old, q1⟩, q2, hne, hae'⟩ := st
    obtain ⟨xs, x, hq, hx⟩ := hg
    obtain ⟨its, rv, p, hz⟩ := I.tuple hq
    obtain ⟨u, hu, ru⟩ := rv.get hx
    have hlt : i < its.toArray.size := by
      rw [List.size_toArray]
      exact (List.getElem?_eq_some_iff.mp hu).1
    have hel : e < s.heap.objs.size := Heap.lt_size q1
    have hil : it < s.heap.objs.size := by obtain ⟨_, q, _⟩ := q2; exact Heap.lt_size q
    have hh : X.A.in1.handled = none := I.ok.hd hc
    have hea : e ∉ [it, a] := fun z => by
      rcases List.mem_cons.mp z with z | z
      · exact hne z
      · exact hae' (List.mem_singleton.mp z).symm
    refine wpAny_pyNext_enum_itemC (Draws.tuple hh it a hae its.toArray) q1 ⟨q2, p⟩ hlt hne hea fun y h' tk hy ho hst hT hsz hk => ?_
    have hyu : y = u := by
      have e0 : its.toArray[i]? = some u := by simpa using hu
      rw [e0] at hy
      exact (Option.some.inj hy).symm
    subst hyu
    refine ⟨_, rfl, wpAny_letOwnedTupleGo_enum (s := { s with heap := h', toks := tk + 1 }) ho fun h2 he2 sb => ?_⟩
    have hT2 : h2.get? s.heap.objs.size = some { cls := .type "tuple", data := .seq #[.int i tk, y] } := (sb.2 _ (Nat.ne_of_gt hel)).trans hT
    have new : ObjOk X.prog X.w (upd H s.heap.objs.size (.tup [.int (i : Nat), x])) h2 s.heap.objs.size (.tup [.int (i : Nat), x]) :=
      ⟨by show 2 ≤ sizeLine; decide, [.int i tk, y], .cons ⟨_, rfl⟩ (.cons ru .nil), ⟨_, hT2, rfl, _, rfl⟩⟩
    have I1 : L2.Inv X pins σ (upd H s.heap.objs.size (.tup [.int (i : Nat), x])) { s with heap := h2, toks := tk + 1 } :=
      I.turnedNew (ch := [e, it]) (fun b ob hb q => (sb.2 b (fun z => hb (by rw [z]; exact List.mem_cons_self ..))).trans (hk b ob (fun z => hb (by rw [z]; exact List.mem_cons_self ..)) (fun z => hb (by rw [z]; exact List.mem_cons_of_mem _ (List.mem_singleton.mpr rfl))) q)) hf (Nat.le_refl _) new
    refine ⟨.ref s.heap.objs.size, _, I1, rfl, ⟨_, x, rfl, I.hok.fresh (Nat.le_refl _), rfl, fun ys hy => by rw [I.tuple_inj hy hq]; exact hx⟩, ⟨⟨y, ?_⟩, hst.1.at fun o q => (sb.2 it (Ne.symm hne)).trans q, hne, hae'⟩, fun b hb => ?_⟩
    · rw [show ((i + 1 : Nat) : Int) = (i : Int) + 1 by omega]; exact he2
    · have hb' : b < s.heap.objs.size := by
        rcases List.mem_cons.mp hb with z | z
        · rw [z]; exact hel
        · rw [List.mem_singleton.mp z]; exact hil
      rw [upd_ne (Nat.ne_of_lt hb')]
      exact (hf b hb).1
  done := by
    intro X hP hw hK hc i pins s σ H E I hf st hg
    subst hP hw hK
    obtain ⟨⟨old, q1⟩, q2, hne, hae'⟩ := st
    obtain ⟨xs, hq, hx⟩ := hg
    obtain ⟨its, rv, p, hz⟩ := I.tuple hq
    obtain ⟨f0, f1, f2, f3, f4, f5⟩ := hf it (List.mem_cons_of_mem _ (List.mem_singleton.mpr rfl))
    have hl := rv.length
    have hh : X.A.in1.handled = none := I.ok.hd hc
    have q2' : s.heap.IsTupleIter it a its.toArray.size := by
      rw [List.size_toArray, ← hl, ← hx]
      exact q2
    exact wpAny_pyNext_enum_endD (Draws.tuple hh it a hae its.toArray) q1 ⟨q2', p⟩ fun h' eb => ⟨rfl, I.turned (t' := s.toks) (fun b o hb q => eb b o hb q) f0 f1 f3 f4 f5⟩
  self := fun A i s Q E st h => by
    obtain ⟨⟨_, q1⟩, _⟩ := st
    exact wpAny_pyIter_enum q1 h
section
variable {X : Cx} {Z : Ent} {tg e : Expr} {w : WE} {pos p tpos : Pos} {elts : List Expr} {kk : Nat}
theorem pi_to {t t' : TI} (h : PI X tg e t) (i : ∀ σ H R, t' σ H R → t σ H R) : PI X tg e t' := ⟨fun pins s σ H R I q => h.run pins s σ H R I (i σ H R q)⟩
theorem ItD.list {K : PySem.W.Frag} {B : Hp} {a : Addr} {vs : List V} {ds : List PyData} (h : SqL K B a vs) (r : RFs K B vs ds) : ItD K (Itl K a) B ds := fun B' H' s1 s2 i => by
  have hb : SqL K H' a vs := by
    rcases h with (h | ⟨o, h⟩) | h
    · exact .inl (.inl (s2 _ _ (s1 _ _ h)))
    · exact .inl (.inr ⟨o, s2 _ _ (s1 _ _ h)⟩)
    · exact .inr h
  have hl := r.length
  refine ⟨fun hi => ?_, fun hi => ⟨vs, hb, by omega⟩⟩
  obtain ⟨v, hv, rv⟩ := r.get (List.getElem?_eq_getElem hi)
  refine ⟨⟨vs, v, hb, hv⟩, fun x H2 hy => ?_⟩
  obtain ⟨rfl, f⟩ := hy
  have e := f vs hb
  rw [hv] at e
  have e' := Option.some.inj e
  subst e'
  exact ⟨_, B', List.getElem?_eq_getElem hi, Out.here (rv.mono s1) s2⟩
theorem ItD.tup {K : PySem.W.Frag} {B : Hp} {a : Addr} {vs : List V} {ds : List PyData} (h : SqT K B a vs) (r : RFs K B vs ds) : ItD K (Itt K a) B ds := fun B' H' s1 s2 i => by
  have hb : SqT K H' a vs := s2.sqT (s1.sqT h)
  have hl := r.length
  refine ⟨fun hi => ?_, fun hi => ⟨vs, hb, by omega⟩⟩
  obtain ⟨v, hv, rv⟩ := r.get (List.getElem?_eq_getElem hi)
  refine ⟨⟨vs, v, hb, hv⟩, fun x H2 hy => ?_⟩
  obtain ⟨rfl, f⟩ := hy
  have e := f vs hb
  rw [hv] at e
  have e' := Option.some.inj e
  subst e'
  exact ⟨_, B', List.getElem?_eq_getElem hi, Out.here (rv.mono s1) s2⟩
def rangeL (lo : Int) (n : Nat) : List PyData := (List.range n).map fun i => .int (lo + (i : Nat))
def rangeC (lo c : Int) (n : Nat) : List PyData := (List.range n).map fun i => .int (lo + (i : Nat) * c)
def smallI (i : Int) : Prop := -1000000000 ≤ i ∧ i ≤ 1000000000
def wiR1 (w : WE) : WI := fun ρ R => w ρ fun d ρ1 => asI d fun n => smallI n ∧ R (rangeL 0 n.toNat) ρ1
def wiR2 (w w2 : WE) : WI := fun ρ R => w ρ fun d ρ1 => asI d fun a => w2 ρ1 fun d2 ρ2 => asI d2 fun b => smallI a ∧ smallI b ∧ R (rangeL a (b - a).toNat) ρ2
def wiR3 (w w2 w3 : WE) : WI := fun ρ R => w ρ fun d ρ1 => asI d fun a => w2 ρ1 fun d2 ρ2 => asI d2 fun b => w3 ρ2 fun d3 ρ3 => asI d3 fun c => c = -1 ∧ smallI a ∧ smallI b ∧ R (rangeC a (-1) (a - b).toNat) ρ3
theorem ItD.range {K : PySem.W.Frag} {B : Hp} {lo : Int} {n : Nat} : ItD K (Itr lo n) B (rangeL lo n) := fun B' H' s1 s2 i => by
  have hl : (rangeL lo n).length = n := by unfold rangeL; rw [List.length_map, List.length_range]
  refine ⟨fun hi => ⟨by rw [hl] at hi; exact hi, fun x H2 hy => ?_⟩, fun hi => by rw [hl] at hi; exact Nat.le_of_eq hi.symm⟩
  obtain ⟨rfl, rfl⟩ := hy
  refine ⟨.int (lo + (i : Nat)), B', ?_, Out.here (.int _) s2⟩
  unfold rangeL
  rw [List.getElem?_map, List.getElem?_range (by omega)]
  rfl
theorem ItD.rangeC {K : PySem.W.Frag} {B : Hp} {lo c : Int} {n : Nat} : ItD K (Itc lo c n) B (Pt.rangeC lo c n) := fun B' H' s1 s2 i => by
  have hl : (Pt.rangeC lo c n).length = n := by unfold Pt.rangeC; rw [List.length_map, List.length_range]
  refine ⟨fun hi => ⟨by rw [hl] at hi; exact hi, fun x H2 hy => ?_⟩, fun hi => by rw [hl] at hi; exact Nat.le_of_eq hi.symm⟩
  obtain ⟨rfl, rfl⟩ := hy
  refine ⟨.int (lo + (i : Nat) * c), B', ?_, Out.here (.int _) s2⟩
  unfold Pt.rangeC
  rw [List.getElem?_map, List.getElem?_range (by omega)]
  rfl
theorem i_r1 {a : Expr} {w : WE} (hg : Gl X "range") (hm : X.mg "range" = none) (ha : PE X a (tE X.K Z w)) (hs : starEach [a] X.env = [(false, eval a X.env)] := by rfl) : PI X tg (.Call (.Name "range" p) [a] [] pos) (tI X.K Z (wiR1 w)) :=
  pi_to (pi_range1 hg hm (pa_cons ha pa_nil hs) hs) fun σ H R q => by
    obtain ⟨B, ρ, fp, Rd, k, h, q⟩ := q
    refine ⟨B, ρ, fp, _, k, h, fun d ρ' h1 v H' B' fp' n k1 => ?_⟩
    obtain ⟨j, rfl, ⟨h2, h3⟩, h4⟩ := asI_iff h1
    have r := k1.headF
    obtain ⟨f2, k2, hs⟩ := k1.drop1
    cases r
    exact ⟨j, rfl, by omega, by omega, q _ ρ' h4 _ H' B' f2 (n.less hs) k2 (ItD.n _ ItD.range)⟩
def enumL (ds : List PyData) : List PyData := ds.zipIdx.map fun p => .tuple [.int (p.2 : Nat), p.1]
theorem enumL_get {ds : List PyData} {i : Nat} {d : PyData} (h : ds[i]? = some d) : (enumL ds)[i]? = some (.tuple [.int (i : Nat), d]) := by
  unfold enumL
  rw [List.getElem?_map, List.getElem?_zipIdx, h]
  show some (PyData.tuple [.int ((0 + i : Nat) : Int), d]) = _
  rw [Nat.zero_add]
theorem enumL_len (ds : List PyData) : (enumL ds).length = ds.length := by
  unfold enumL
  rw [List.length_map, List.length_zipIdx]
theorem ItD.enumT {K : PySem.W.Frag} {B : Hp} {a : Addr} {vs : List V} {ds : List PyData} (h : SqT K B a vs) (r : RFs K B vs ds) : ItD K (ItET K a) B (enumL ds) := fun B' H' s1 s2 i => by
  have hb : SqT K H' a vs := s2.sqT (s1.sqT h)
  have hl := r.length
  rw [enumL_len]
  refine ⟨fun hi => ?_, fun hi => ⟨vs, hb, by omega⟩⟩
  obtain ⟨v, hv, rv⟩ := r.get (List.getElem?_eq_getElem hi)
  refine ⟨⟨vs, v, hb, hv⟩, fun x H2 hy => ?_⟩
  obtain ⟨T, y, rfl, hT, rfl, f⟩ := hy
  have e := f vs hb
  rw [hv] at e
  have e' := Option.some.inj e
  subst e'
  exact ⟨_, _, enumL_get (List.getElem?_eq_getElem hi), Out.tup (.cons (.int _) (.cons (rv.mono s1) .nil)) s2 hT⟩
theorem ItD.enumL {K : PySem.W.Frag} {B : Hp} {a : Addr} {vs : List V} {ds : List PyData} (h : SqL K B a vs) (r : RFs K B vs ds) : ItD K (Ite K a) B (Pt.enumL ds) := fun B' H' s1 s2 i => by
  have hb : SqL K H' a vs := by
    rcases h with (h | ⟨o, h⟩) | h
    · exact .inl (.inl (s2 _ _ (s1 _ _ h)))
    · exact .inl (.inr ⟨o, s2 _ _ (s1 _ _ h)⟩)
    · exact .inr h
  have hl := r.length
  rw [enumL_len]
  refine ⟨fun hi => ?_, fun hi => ⟨vs, hb, by omega⟩⟩
  obtain ⟨v, hv, rv⟩ := r.get (List.getElem?_eq_getElem hi)
  refine ⟨⟨vs, v, hb, hv⟩, fun x H2 hy => ?_⟩
  obtain ⟨T, y, rfl, hT, rfl, f⟩ := hy
  have e := f vs hb
  rw [hv] at e
  have e' := Option.some.inj e
  subst e'
  exact ⟨_, _, enumL_get (List.getElem?_eq_getElem hi), Out.tup (.cons (.int _) (.cons (rv.mono s1) .nil)) s2 hT⟩
def zipL (ds es : List PyData) : List PyData := (ds.zip es).map fun p => .tuple [p.1, p.2]
theorem zipL_len (ds es : List PyData) : (zipL ds es).length = min ds.length es.length := by
  unfold zipL
  rw [List.length_map, List.length_zip]
theorem zipL_get {ds es : List PyData} {i : Nat} {d e : PyData} (h : ds[i]? = some d) (h2 : es[i]? = some e) : (zipL ds es)[i]? = some (.tuple [d, e]) := by
  unfold zipL
  have e : (ds.zip es)[i]? = some (d, e) := List.getElem?_zip_eq_some.mpr ⟨h, h2⟩
  rw [List.getElem?_map, e]
  rfl
theorem ItD.zipL {K : PySem.W.Frag} {B : Hp} {a b : Addr} {vs us : List V} {ds es : List PyData} (h : SqL K B a vs) (r : RFs K B vs ds) (h2 : SqL K B b us) (r2 : RFs K B us es) : ItD K (Itz K a b) B (Pt.zipL ds es) := fun B' H' s1 s2 i => by
  have up : ∀ {c : Addr} {ws : List V}, SqL K B c ws → SqL K H' c ws := fun h => by
    rcases h with (h | ⟨o, h⟩) | h
    · exact .inl (.inl (s2 _ _ (s1 _ _ h)))
    · exact .inl (.inr ⟨o, s2 _ _ (s1 _ _ h)⟩)
    · exact .inr h
  have hl := r.length
  have hl2 := r2.length
  rw [zipL_len]
  refine ⟨fun hi => ?_, fun hi => ⟨vs, us, up h, up h2, by omega⟩⟩
  have i1 : i < ds.length := by omega
  have i2 : i < es.length := by omega
  obtain ⟨v, hv, rv⟩ := r.get (List.getElem?_eq_getElem i1)
  obtain ⟨u, hu, ru⟩ := r2.get (List.getElem?_eq_getElem i2)
  refine ⟨⟨vs, us, v, u, up h, up h2, hv, hu⟩, fun x H2 hy => ?_⟩
  obtain ⟨T, y, z, rfl, hT, rfl, f, g⟩ := hy
  have e := f vs (up h)
  rw [hv] at e
  have e' := Option.some.inj e
  subst e'
  have e := g us (up h2)
  rw [hu] at e
  have e' := Option.some.inj e
  subst e'
  exact ⟨_, _, zipL_get (List.getElem?_eq_getElem i1) (List.getElem?_eq_getElem i2), Out.tup (.cons (rv.mono s1) (.cons (ru.mono s1) .nil)) s2 hT⟩
end
end Pt
namespace Pt
open PySem PySem.Spec L2
def unf : List O → Option (List PyData)
  | [] => some []
  | .fz f :: r => (unf r).map (f :: ·)
  | _ :: _ => none
theorem unf_iff : ∀ {xs : List O} {ds : List PyData}, unf xs = some ds → xs = ds.map O.fz
  | [], ds, h => by cases h; rfl
  | x :: xs, ds, h => by
    cases x with
    | fz f =>
      simp only [unf] at h
      cases q : unf xs with
      | none => rw [q] at h; cases h
      | some es =>
        rw [q] at h
        cases h
        rw [unf_iff q]
        rfl
    | _ => cases h
def vL : O → Option (List PyData)
  | .fz (.list ds) => some ds
  | .lf ds => some ds
  | .ol xs => unf xs
  | _ => none
def vT : O → Option (List PyData)
  | .fz (.tuple ds) => some ds
  | .ot xs => unf xs
  | _ => none
section
variable {K : PySem.W.Frag} {B H : Hp} {v : V} {x : O} {f : List Addr} {ds : List PyData}
theorem RO.vL (s : Sub B H) (r : RO K B H v x f) (h : vL x = some ds) : ∃ a vs, v = .ref a ∧ H a = some (.lst vs) ∧ RFs K B vs ds := by
  cases x with
  | fz g =>
    cases g with
    | list es =>
      cases h
      cases r with
      | fz r => cases r with
        | lst e r => exact ⟨_, _, rfl, s _ _ e, r⟩
    | _ => cases h
  | lf es =>
    cases h
    cases r with
    | lf e r => exact ⟨_, _, rfl, e, r⟩
  | ol xs =>
    cases r with
    | ol e r =>
      have h' : unf xs = some ds := h
      rw [unf_iff h'] at r
      exact ⟨_, _, rfl, e, (ROs.unfz r).1⟩
  | _ => cases h
theorem RO.vT (s : Sub B H) (r : RO K B H v x f) (h : vT x = some ds) : ∃ a vs, v = .ref a ∧ SqT K H a vs ∧ RFs K B vs ds := by
  cases x with
  | fz g =>
    cases g with
    | tuple es =>
      cases h
      cases r with
      | fz r => cases r with
        | tup e r => exact ⟨_, _, rfl, s.sqT e, r⟩
    | _ => cases h
  | ot xs =>
    cases r with
    | ot e r =>
      have h' : unf xs = some ds := h
      rw [unf_iff h'] at r
      exact ⟨_, _, rfl, SqT.of (s _ _ e), (ROs.unfz r).1⟩
  | _ => cases h
theorem ros1 {vs : List V} {x : O} (r : ROs K B H vs [x] f) : ∃ v g, vs = [v] ∧ RO K B H v x g := by
  cases r with
  | cons a b => cases b; exact ⟨_, _, rfl, a⟩
theorem ros2 {vs : List V} {x y : O} (r : ROs K B H vs [x, y] f) : ∃ v w g1 g2, vs = [v, w] ∧ RO K B H v x g1 ∧ RO K B H w y g2 := by
  cases r with
  | cons a b => cases b with
    | cons c d => cases d; exact ⟨_, _, _, _, rfl, a, c⟩
end
def oI2 (C : Int → Int → Prop) (g : Int → Int → PyData) : List O → (O → Prop) → Prop
  | [.fz (.int i), .fz (.int j)], R => C i j ∧ R (.fz (g i j))
  | _, _ => False
theorem oI2_iff {C : Int → Int → Prop} {g : Int → Int → PyData} {xs : List O} {R : O → Prop} (h : oI2 C g xs R) : ∃ i j, xs = [.fz (.int i), .fz (.int j)] ∧ C i j ∧ R (.fz (g i j)) := by
  unfold oI2 at h
  split at h
  · exact ⟨_, _, rfl, h.1, h.2⟩
  · exact h.elim
theorem rd_I2 {K : PySem.W.Frag} {C : Int → Int → Prop} {g : Int → Int → PyData} {gv : Int → Int → V} (hg : ∀ B i j, RF K B (gv i j) (g i j)) : Rd K (r2L (rI C gv)) (oI2 C g) := fun B H vs xs f R Q s rr h q => by
  obtain ⟨i, j, rfl, hc, h⟩ := oI2_iff h
  obtain ⟨v, w, _, _, rfl, r1, r2⟩ := ros2 rr
  cases r1 with
  | fz r1 =>
    cases r1
    cases r2 with
    | fz r2 =>
      cases r2
      exact ⟨i, j, rfl, rfl, hc, q _ h _ B H (Out.here (hg B i j) s)⟩
theorem rd_I20 {K : PySem.W.Frag} {g : Int → Int → PyData} {gv : Int → Int → V} (hg : ∀ B i j, RF K B (gv i j) (g i j)) : Rd K (r2L (rI0 gv)) (oI2 (fun _ _ => True) g) := fun B H vs xs f R Q s rr h q => by
  obtain ⟨i, j, rfl, _, h⟩ := oI2_iff h
  obtain ⟨v, w, _, _, rfl, r1, r2⟩ := ros2 rr
  cases r1 with
  | fz r1 =>
    cases r1
    cases r2 with
    | fz r2 =>
      cases r2
      exact ⟨i, j, rfl, rfl, q _ h _ B H (Out.here (hg B i j) s)⟩
def oSub := oI2 (fun _ _ => True) fun i j => .int (i - j)
def oMul := oI2 CMulW fun i j => .int (i * j)
def oDiv := oI2 CDivW fun i j => .int (i / j)
def oMod := oI2 (fun _ j => 0 < j) fun i j => .int (i % j)
def oLt := oI2 (fun _ _ => True) fun i j => .bool (decide (i < j))
def oLe := oI2 (fun _ _ => True) fun i j => .bool (decide (i ≤ j))
def oGt := oI2 (fun _ _ => True) fun i j => .bool (decide (j < i))
def oGe := oI2 (fun _ _ => True) fun i j => .bool (decide (j ≤ i))
section
variable {K : PySem.W.Frag}
theorem rd_sub : Rd K (r2L (rI0 fun i j => .int (i - j))) oSub := rd_I20 fun _ _ _ => .int _
theorem rd_div : Rd K (r2L (rI CDivW fun i j => .int (i / j))) oDiv := rd_I2 fun _ _ _ => .int _
theorem rd_mod : Rd K (r2L (rI (fun _ j => 0 < j) fun i j => .int (i % j))) oMod := rd_I2 fun _ _ _ => .int _
theorem rd_lt : Rd K (r2L (rI0 fun i j => .bl (decide (i < j)))) oLt := rd_I20 fun _ _ _ => .bl _
theorem rd_le : Rd K (r2L (rI0 fun i j => .bl (decide (i ≤ j)))) oLe := rd_I20 fun _ _ _ => .bl _
theorem rd_gt : Rd K (r2L (rI0 fun i j => .bl (decide (j < i)))) oGt := rd_I20 fun _ _ _ => .bl _
theorem rd_ge : Rd K (r2L (rI0 fun i j => .bl (decide (j ≤ i)))) oGe := rd_I20 fun _ _ _ => .bl _
end
def oNeg : List O → (O → Prop) → Prop
  | [.fz (.int i)], R => R (.fz (.int (-i)))
  | _, _ => False
theorem rd_neg {K : PySem.W.Frag} : Rd K (r1L (rU fun i => .int (-i))) oNeg := fun B H vs xs f R Q s rr h q => by
  unfold oNeg at h
  split at h
  · obtain ⟨v, _, rfl, r⟩ := ros1 rr
    cases r with
    | fz r =>
      cases r
      exact ⟨_, rfl, q _ h _ B H (Out.here (.int _) s)⟩
  · exact h.elim
def oAdd : List O → (O → Prop) → Prop
  | [.fz (.int i), .fz (.int j)], R => R (.fz (.int (i + j)))
  | [.fz (.str a), .fz (.str b)], R => a.length + b.length ≤ szMax ∧ R (.fz (.str (a ++ b)))
  | [x, y], R => (∃ ds es, vL x = some ds ∧ vL y = some es ∧ ds.length + es.length ≤ szMax ∧ R (.lf (ds ++ es))) ∨ (∃ ds es, vT x = some ds ∧ vT y = some es ∧ ds.length + es.length ≤ szMax ∧ R (.fz (.tuple (ds ++ es))))
  | _, _ => False
def rAddAll (K : PySem.W.Frag) : R2 := fun x y H Q => rI0 (fun i j => .int (i + j)) x y H Q ∨ (∃ i j, x = .str i ∧ y = .str j ∧ i.length + j.length ≤ sizeLine ∧ Q (.str (i ++ j)) H) ∨ rCat x y H Q ∨ rCatA K x y H Q
theorem op_addAll {X : Cx} : OpR X (binaryOp .Add) (rAddAll X.K) := OpR.or op_add (OpR.or op_add_str (OpR.or op_cat op_catA))
theorem RO.vTB {K : PySem.W.Frag} {B H : Hp} {v : V} {x : O} {f : List Addr} {ds : List PyData} (r : RO K B H v x f) (h : Pt.vT x = some ds) : ∃ a vs, v = .ref a ∧ SqT K B a vs ∧ RFs K B vs ds := by
  cases x with
  | fz g =>
    cases g with
    | tuple es =>
      cases h
      cases r with
      | fz r => cases r with
        | tup e r => exact ⟨_, _, rfl, e, r⟩
    | _ => cases h
  | ot xs =>
    cases r with
    | ot e r =>
      have h' : unf xs = some ds := h
      rw [unf_iff h'] at r
      exact ⟨_, _, rfl, SqT.of e, (ROs.unfz r).1⟩
  | _ => cases h
theorem rd_add {K : PySem.W.Frag} : Rd K (r2L (rAddAll K)) oAdd := fun B H vs xs f R Q s rr h q => by
  unfold oAdd at h
  split at h
  · obtain ⟨v, w, _, _, rfl, r1, r2⟩ := ros2 rr
    cases r1 with
    | fz r1 =>
      cases r1
      cases r2 with
      | fz r2 =>
        cases r2
        exact .inl ⟨_, _, rfl, rfl, q _ h _ B H (Out.here (.int _) s)⟩
  · obtain ⟨v, w, _, _, rfl, r1, r2⟩ := ros2 rr
    cases r1 with
    | fz r1 =>
      cases r1
      cases r2 with
      | fz r2 =>
        cases r2
        exact .inr (.inl ⟨_, _, rfl, rfl, szOk h.1, q _ h.2 _ B H (Out.here (.str _) s)⟩)
  · obtain ⟨v, w, _, _, rfl, r1, r2⟩ := ros2 rr
    rcases h with ⟨ds, es, h1, h2, hz, h⟩ | ⟨ds, es, h1, h2, hz, h⟩
    · obtain ⟨a, us, rfl, e1, t1⟩ := r1.vL s h1
      obtain ⟨b, ws, rfl, e2, t2⟩ := r2.vL s h2
      refine .inr (.inr (.inl ⟨a, b, us, ws, rfl, rfl, e1, e2, szOk ?_, fun p hp => q _ h _ B _ (Out.lst (t1.append t2) s hp)⟩))
      rw [t1.length, t2.length]; exact hz
    · obtain ⟨a, us, rfl, e1, t1⟩ := r1.vTB h1
      obtain ⟨b, ws, rfl, e2, t2⟩ := r2.vTB h2
      refine .inr (.inr (.inr ⟨a, b, us, ws, rfl, rfl, s.sqT e1, s.sqT e2, szOk ?_, fun h0 => ?_, fun _ h0 => ?_, fun _ _ p hp => q _ h _ _ _ (Out.tup (t1.append t2) s hp)⟩))
      · rw [t1.length, t2.length]; exact hz
      · subst h0
        cases t1
        exact q _ h _ B H (Out.here (.tup e2 t2) s)
      · subst h0
        cases t2
        rw [List.append_nil] at h
        exact q _ h _ B H (Out.here (.tup e1 t1) s)
  · exact h.elim
def oMulA : List O → (O → Prop) → Prop
  | [.fz (.int i), .fz (.int j)], R => CMulW i j ∧ R (.fz (.int (i * j)))
  | [x, .fz (.int k)], R => (∃ ds, vL x = some ds ∧ k ≤ 1000000 ∧ -1000000 ≤ k ∧ ds.length * k.toNat ≤ szMax ∧ R (.lf (List.replicate k.toNat ds).flatten)) ∨ (∃ ds, vT x = some ds ∧ ds ≠ [] ∧ 2 ≤ k ∧ k ≤ 1000 ∧ ds.length ≤ 1000 ∧ R (.fz (.tuple (List.replicate k.toNat ds).flatten)))
  | _, _ => False
def rMulAll (K : PySem.W.Frag) : R2 := fun x y H Q => rI CMulW (fun i j => .int (i * j)) x y H Q ∨ rRep x y H Q ∨ rRepT K x y H Q
theorem op_mulAll {X : Cx} : OpR X (binaryOp .Mult) (rMulAll X.K) := OpR.or op_mulW (OpR.or op_rep op_repT)
theorem RFs.rep {K : PySem.W.Frag} {B : Hp} {vs : List V} {ds : List PyData} (r : RFs K B vs ds) : ∀ k : Nat, RFs K B (List.replicate k vs).flatten (List.replicate k ds).flatten
  | 0 => .nil
  | k + 1 => by
    rw [List.replicate_succ, List.replicate_succ, List.flatten_cons, List.flatten_cons]
    exact r.append (r.rep k)
theorem rd_mulA {K : PySem.W.Frag} : Rd K (r2L (rMulAll K)) oMulA := fun B H vs xs f R Q s rr h q => by
  unfold oMulA at h
  split at h
  · obtain ⟨v, w, _, _, rfl, r1, r2⟩ := ros2 rr
    cases r1 with
    | fz r1 =>
      cases r1
      cases r2 with
      | fz r2 =>
        cases r2
        exact .inl ⟨_, _, rfl, rfl, h.1, q _ h.2 _ B H (Out.here (.int _) s)⟩
  · obtain ⟨v, w, _, _, rfl, r1, r2⟩ := ros2 rr
    cases r2 with
    | fz r2 =>
      cases r2
      rcases h with ⟨ds, h1, k1, k2, hz, h⟩ | ⟨ds, h1, h0, k1, k2, hz, h⟩
      · obtain ⟨a, us, rfl, e1, t1⟩ := r1.vL s h1
        exact .inr (.inl ⟨a, _, us, rfl, rfl, e1, by omega, by omega, by rw [t1.length]; exact szOk hz, fun p hp => q _ h _ B _ (Out.lst (t1.rep _) s hp)⟩)
      · obtain ⟨a, us, rfl, e1, t1⟩ := r1.vTB h1
        refine .inr (.inr ⟨a, _, us, rfl, rfl, s.sqT e1, fun z => ?_, k1, k2, by rw [t1.length]; exact hz, fun p hp => q _ h _ _ _ (Out.tup (t1.rep _) s hp)⟩)
        subst z
        cases t1
        exact h0 rfl
  · exact h.elim
mutual
def toP : O → PyData
  | .fz f => f
  | .ol xs => .list (toPs xs)
  | .ot xs => .tuple (toPs xs)
  | .lf ds => .list ds
  | .df kvs => .dict (kvs.map fun p => (kD p.1, p.2))
  | .od _ => .dict []
  | .oi _ _ => .dict []
  | .exn _ _ => .dict []
  | .scr _ => .dict []
  | .tn ds => .tuple ds
  | .dl _ => .dict []
  | .dt _ => .dict []
  | .dq _ => .dict []
  | .dn _ _ => .dict []
  | .dz _ _ => .dict []
  | .fo _ _ => .dict []
  | .fl _ => .dict []
  | .al _ => .dict []
  | .lb _ _ => .dict []
  | .hid => .dict []
def toPs : List O → List PyData
  | [] => []
  | x :: xs => toP x :: toPs xs
end
section
variable {K : PySem.W.Frag} {B H : Hp}
mutual
theorem RF.dp (s : Sub B H) : ∀ {d : PyData} {v : V}, RF K B v d → d.canLay0 = true → Dp K H v d
  | _, _, .non, _ => .non
  | _, _, .bl b, _ => .bl b
  | _, _, .int i, _ => .int i
  | _, _, .str x, _ => .str x
  | .list ds, _, .lst e r, c => .lst (SqL.of (s _ _ e)) (RFs.dp s r c)
  | .tuple ds, _, .tup e r, c => .tup (s.sqT e) (RFs.dp s r c)
  | .dict _, _, .dic _ _, c => nomatch c
  | _, _, .lm _ _ _, c => nomatch c
theorem RFs.dp (s : Sub B H) : ∀ {ds : List PyData} {vs : List V}, RFs K B vs ds → PyData.canLayAll0 ds = true → DpAll K H vs ds
  | [], _, .nil, _ => .nil
  | d :: ds, _, .cons r t, c => by
    have c' := Bool.and_eq_true_iff.mp c
    exact .cons (RF.dp s r c'.1) (RFs.dp s t c'.2)
end
mutual
theorem RO.dp (s : Sub B H) : ∀ {x : O} {v : V} {f : List Addr}, RO K B H v x f → (toP x).canLay0 = true → Dp K H v (toP x)
  | .fz d, _, _, .fz r, c => RF.dp s r c
  | .ol xs, _, _, .ol e r, c => .lst (SqL.of e) (ROs.dp s r c)
  | .ot xs, _, _, .ot e r, c => .tup (SqT.of (s _ _ e)) (ROs.dp s r c)
  | .lf ds, _, _, .lf e r, c => .lst (SqL.of e) (RFs.dp s r c)
  | .df _, _, _, _, c => nomatch c
  | .od _, _, _, _, c => nomatch c
  | .oi _ _, _, _, _, c => nomatch c
  | .exn _ _, _, _, _, c => nomatch c
  | .scr _, _, _, _, c => nomatch c
  | .tn ds, _, _, .tn e _ r, c => RF.dp s (.tup e r) c
  | .hid, _, _, _, c => nomatch c
  | .dl _, _, _, _, c => nomatch c
  | .dt _, _, _, _, c => nomatch c
  | .dq _, _, _, _, c => nomatch c
  | .dn _ _, _, _, _, c => nomatch c
  | .dz _ _, _, _, _, c => nomatch c
  | .fo _ _, _, _, _, c => nomatch c
  | .fl _, _, _, _, c => nomatch c
  | .al _, _, _, _, c => nomatch c
  | .lb _ _, _, _, _, c => nomatch c
theorem ROs.dp (s : Sub B H) : ∀ {xs : List O} {vs : List V} {f : List Addr}, ROs K B H vs xs f → PyData.canLayAll0 (toPs xs) = true → DpAll K H vs (toPs xs)
  | [], _, _, .nil, _ => .nil
  | x :: xs, _, _, .cons r t, c => by
    have c' := Bool.and_eq_true_iff.mp c
    exact .cons (RO.dp s r c'.1) (ROs.dp s t c'.2)
end
end
end Pt
namespace Pt
open PySem PySem.Spec L2
def oEq (neg : Bool) : List O → (O → Prop) → Prop
  | [x, y], R => SeqAt.shaped (toP x) = true ∧ SeqAt.shaped (toP y) = true ∧ R (.fz (.bool (if neg then !PyData.eqv (toP x) (toP y) else PyData.eqv (toP x) (toP y))))
  | _, _ => False
section
variable {K : PySem.W.Frag}
theorem rd_eq : Rd K (r2L (rEqD K)) (oEq false) := fun B H vs xs f R Q s rr h q => by
  unfold oEq at h
  split at h
  · obtain ⟨v, w, _, _, rfl, r1, r2⟩ := ros2 rr
    obtain ⟨h1, h2, h⟩ := h
    exact ⟨_, _, r1.dp s (SeqAt.canLay_of_shaped h1), r2.dp s (SeqAt.canLay_of_shaped h2), h1, h2, q _ h _ B H (Out.here (.bl _) s)⟩
  · exact h.elim
theorem rd_ne : Rd K (r2L (rNeD K)) (oEq true) := fun B H vs xs f R Q s rr h q => by
  unfold oEq at h
  split at h
  · obtain ⟨v, w, _, _, rfl, r1, r2⟩ := ros2 rr
    obtain ⟨h1, h2, h⟩ := h
    exact ⟨_, _, r1.dp s (SeqAt.canLay_of_shaped h1), r2.dp s (SeqAt.canLay_of_shaped h2), h1, h2, q _ h _ B H (Out.here (.bl _) s)⟩
  · exact h.elim
end
def isNoneO : O → Bool
  | .fz .none => true
  | _ => false
def oIsN (neg : Bool) : List O → (O → Prop) → Prop
  | [.hid, _], _ => False
  | [x, .fz .none], R => R (.fz (.bool (if neg then !isNoneO x else isNoneO x)))
  | _, _ => False
def lenO : O → Option Nat
  | .fz (.list ds) => some ds.length
  | .fz (.tuple ds) => some ds.length
  | .fz (.str x) => if x.length ≤ szMax then some x.length else none
  | .lf ds => some ds.length
  | .ol xs => some xs.length
  | .ot xs => some xs.length
  | .scr ns => some ns.length
  | _ => none
def oLen : List O → (O → Prop) → Prop
  | [x], R => ∃ n, lenO x = some n ∧ R (.fz (.int (n : Nat)))
  | _, _ => False
theorem RO.len {K : PySem.W.Frag} {B H : Hp} {v : V} {x : O} {f : List Addr} {n : Nat} (s : Sub B H) (r : RO K B H v x f) (h : lenO x = some n) : LenV K v H n := by
  cases r with
  | fz r =>
    cases r with
    | lst e r => cases h; exact .inl ⟨_, SqL.of (s _ _ e), r.length.symm⟩
    | tup e r => cases h; exact .inr ⟨_, s.sqT e, r.length.symm⟩
    | str y =>
      have h' : (if y.length ≤ szMax then some y.length else none) = some n := h
      by_cases hz : y.length ≤ szMax
      · rw [if_pos hz] at h'
        cases h'
        exact ⟨szOk hz, rfl⟩
      · rw [if_neg hz] at h'
        cases h'
    | _ => cases h
  | lf e r => cases h; exact .inl ⟨_, SqL.of e, r.length.symm⟩
  | ol e r => cases h; exact .inl ⟨_, SqL.of e, r.length.symm⟩
  | ot e r => cases h; exact .inr ⟨_, SqT.of (s _ _ e), r.length.symm⟩
  | scr e => cases h; exact .inl ⟨_, s.sqL e, (List.length_map _).symm⟩
  | _ => cases h
theorem rd_len {K : PySem.W.Frag} : Rd K (fun xs H Q => ∃ x n, xs = [x] ∧ LenV K x H n ∧ Q (.int n) H) oLen := fun B H vs xs f R Q s rr h q => by
  unfold oLen at h
  split at h
  · obtain ⟨n, h1, h⟩ := h
    obtain ⟨v, _, rfl, r⟩ := ros1 rr
    exact ⟨v, n, rfl, r.len s h1, q _ h _ B H (Out.here (.int _) s)⟩
  · exact h.elim
def seqO : O → Option (List PyData)
  | .fz (.list ds) => some ds
  | .fz (.tuple ds) => some ds
  | .lf ds => some ds
  | .scr ns => some (ns.map .int)
  | _ => none
def itemO : O → Int → Option PyData
  | .ol xs, i => (atI xs i).bind fun
    | .fz f => some f
    | _ => none
  | .ot xs, i => (atI xs i).bind fun
    | .fz f => some f
    | _ => none
  | x, i => (seqO x).bind fun ds => atI ds i
def oIx : List O → (O → Prop) → Prop
  | [x, .fz (.int i)], R => ∃ d, itemO x i = some d ∧ R (.fz d)
  | _, _ => False
theorem RFs.atI {K : PySem.W.Frag} {B : Hp} {vs : List V} {ds : List PyData} {i : Int} {d : PyData} (r : RFs K B vs ds) (h : L2.atI ds i = some d) : ∃ v, L2.atI vs i = some v ∧ RF K B v d := by
  unfold L2.atI at h ⊢
  rw [r.length]
  cases q : ixN ds.length i with
  | none => rw [q] at h; cases h
  | some j =>
    rw [q] at h
    obtain ⟨v, h1, h2⟩ := r.get (i := j) (d := d) h
    exact ⟨v, h1, h2⟩
theorem ROs.get : ∀ {K : PySem.W.Frag} {B H : Hp} {xs : List O} {vs : List V} {fp : List Addr} {i : Nat} {x : O}, ROs K B H vs xs fp → xs[i]? = some x → ∃ v f, vs[i]? = some v ∧ RO K B H v x f
  | _, _, _, _, _, _, _, _, .nil, e => by simp at e
  | _, _, _, _, _, _, 0, _, .cons r _, e => by simp at e; subst e; exact ⟨_, _, rfl, r⟩
  | _, _, _, _, _, _, i + 1, x, .cons _ t, e => by
    obtain ⟨v, f, h1, h2⟩ := ROs.get (i := i) (x := x) t (by simpa using e)
    exact ⟨v, f, by simpa using h1, h2⟩
theorem ROs.atI {K : PySem.W.Frag} {B H : Hp} {xs : List O} {vs : List V} {fp : List Addr} {i : Int} {x : O} (r : ROs K B H vs xs fp) (h : L2.atI xs i = some x) : ∃ v f, L2.atI vs i = some v ∧ RO K B H v x f := by
  unfold L2.atI at h ⊢
  rw [r.length]
  cases q : ixN xs.length i with
  | none => rw [q] at h; cases h
  | some j =>
    rw [q] at h
    exact r.get (i := j) h
theorem RO.item {K : PySem.W.Frag} {B H : Hp} {v : V} {x : O} {f : List Addr} {i : Int} {d : PyData} (s : Sub B H) (r : RO K B H v x f) (h : itemO x i = some d) : ∃ p vs u, v = .ref p ∧ (SqL K H p vs ∨ SqT K H p vs) ∧ atI vs i = some u ∧ RF K B u d := by
  cases r with
  | fz r =>
    cases r with
    | lst e r =>
      obtain ⟨u, h1, h2⟩ := r.atI h
      exact ⟨_, _, u, rfl, .inl (SqL.of (s _ _ e)), h1, h2⟩
    | tup e r =>
      obtain ⟨u, h1, h2⟩ := r.atI h
      exact ⟨_, _, u, rfl, .inr (s.sqT e), h1, h2⟩
    | _ => cases h
  | lf e r =>
    obtain ⟨u, h1, h2⟩ := r.atI h
    exact ⟨_, _, u, rfl, .inl (SqL.of e), h1, h2⟩
  | scr e =>
    rename_i a ns
    have h' : atI (ns.map PyData.int) i = some d := h
    have r : RFs K B (ns.map V.int) (ns.map PyData.int) := by
      clear h h' e
      induction ns with
      | nil => exact .nil
      | cons n ns ih => exact .cons (.int n) ih
    obtain ⟨u, h1, h2⟩ := r.atI h'
    exact ⟨_, _, u, rfl, .inl (s.sqL e), h1, h2⟩
  | ol e r =>
    rename_i a vs xs fp
    have h' : ((atI xs i).bind fun | .fz f => some f | _ => none) = some d := h
    cases q : atI xs i with
    | none => rw [q] at h'; cases h'
    | some y =>
      rw [q] at h'
      cases y with
      | fz g =>
        cases h'
        obtain ⟨u, g2, h1, h2⟩ := r.atI q
        cases h2 with
        | fz h2 => exact ⟨_, _, u, rfl, .inl (SqL.of e), h1, h2⟩
      | _ => cases h'
  | ot e r =>
    rename_i a vs xs
    have h' : ((atI xs i).bind fun | .fz f => some f | _ => none) = some d := h
    cases q : atI xs i with
    | none => rw [q] at h'; cases h'
    | some y =>
      rw [q] at h'
      cases y with
      | fz g =>
        cases h'
        obtain ⟨u, g2, h1, h2⟩ := r.atI q
        cases h2 with
        | fz h2 => exact ⟨_, _, u, rfl, .inr (SqT.of (s _ _ e)), h1, h2⟩
      | _ => cases h'
  | _ => cases h
theorem rd_ix {K : PySem.W.Frag} : Rd K (r2L (rIx K)) oIx := fun B H vs xs f R Q s rr h q => by
  unfold oIx at h
  split at h
  · obtain ⟨d, h1, h⟩ := h
    obtain ⟨v, w, _, _, rfl, r1, r2⟩ := ros2 rr
    cases r2 with
    | fz r2 =>
      cases r2
      obtain ⟨p, us, u, rfl, h2, h3, h4⟩ := r1.item s h1
      rcases h2 with h2 | h2
      · exact .inl ⟨p, us, _, u, rfl, rfl, h2, h3, q _ h _ B H (Out.here h4 s)⟩
      · exact .inr (.inl ⟨p, us, _, u, rfl, rfl, h2, h3, q _ h _ B H (Out.here h4 s)⟩)
  · exact h.elim
def oMax2 : List O → (O → Prop) → Prop
  | [.fz (.int i), .fz (.int j)], R => R (.fz (.int (if j > i then j else i)))
  | _, _ => False
def oMin2 : List O → (O → Prop) → Prop
  | [.fz (.int i), .fz (.int j)], R => R (.fz (.int (if j < i then j else i)))
  | _, _ => False
theorem rd_max2 {K : PySem.W.Frag} : Rd K (fun xs H Q => ∃ i j, xs = [.int i, .int j] ∧ Q (.int (if j > i then j else i)) H) oMax2 := fun B H vs xs f R Q s rr h q => by
  unfold oMax2 at h
  split at h
  · obtain ⟨v, w, _, _, rfl, r1, r2⟩ := ros2 rr
    cases r1 with
    | fz r1 =>
      cases r1
      cases r2 with
      | fz r2 =>
        cases r2
        exact ⟨_, _, rfl, q _ h _ B H (Out.here (.int _) s)⟩
  · exact h.elim
theorem rd_min2 {K : PySem.W.Frag} : Rd K (fun xs H Q => ∃ i j, xs = [.int i, .int j] ∧ Q (.int (if j < i then j else i)) H) oMin2 := fun B H vs xs f R Q s rr h q => by
  unfold oMin2 at h
  split at h
  · obtain ⟨v, w, _, _, rfl, r1, r2⟩ := ros2 rr
    cases r1 with
    | fz r1 =>
      cases r1
      cases r2 with
      | fz r2 =>
        cases r2
        exact ⟨_, _, rfl, q _ h _ B H (Out.here (.int _) s)⟩
  · exact h.elim
def asBools : List PyData → Option (List Bool)
  | [] => some []
  | .bool b :: r => (asBools r).map (b :: ·)
  | _ :: _ => none
theorem asBools_rf {K : PySem.W.Frag} {B : Hp} : ∀ {ds : List PyData} {vs : List V} {bs : List Bool}, RFs K B vs ds → asBools ds = some bs → vs = bs.map V.bl
  | [], _, _, .nil, e => by cases e; rfl
  | d :: ds, _, bs, .cons r t, e => by
    cases d with
    | bool b =>
      simp only [asBools] at e
      cases q : asBools ds with
      | none => rw [q] at e; cases e
      | some cs =>
        rw [q] at e
        cases e
        cases r
        rw [asBools_rf t q]
        rfl
    | _ => cases e
theorem asBools_map (bs : List Bool) : asBools (bs.map PyData.bool) = some bs := by
  induction bs with
  | nil => rfl
  | cons b bs ih =>
    show (asBools (bs.map PyData.bool)).map (b :: ·) = _
    rw [ih]; rfl
def oAll : List O → (O → Prop) → Prop
  | [x], R => ∃ ds bs, vL x = some ds ∧ asBools ds = some bs ∧ R (.fz (.bool (bs.all id)))
  | _, _ => False
theorem rd_all {K : PySem.W.Frag} : Rd K (rAll K) oAll := fun B H vs xs f R Q s rr h q => by
  unfold oAll at h
  split at h
  · obtain ⟨ds, bs, h1, h2, h⟩ := h
    obtain ⟨v, _, rfl, r⟩ := ros1 rr
    obtain ⟨a, us, rfl, e, t⟩ := r.vL s h1
    rw [asBools_rf t h2] at e
    exact ⟨a, bs, rfl, SqL.of e, q _ h _ B H (Out.here (.bl _) s)⟩
  · exact h.elim
def asInts : List PyData → Option (List Int)
  | [] => some []
  | .int b :: r => (asInts r).map (b :: ·)
  | _ :: _ => none
theorem asInts_rf {K : PySem.W.Frag} {B : Hp} : ∀ {ds : List PyData} {vs : List V} {bs : List Int}, RFs K B vs ds → asInts ds = some bs → vs = bs.map V.int
  | [], _, _, .nil, e => by cases e; rfl
  | d :: ds, _, bs, .cons r t, e => by
    cases d with
    | int b =>
      simp only [asInts] at e
      cases q : asInts ds with
      | none => rw [q] at e; cases e
      | some cs =>
        rw [q] at e
        cases e
        cases r
        rw [asInts_rf t q]
        rfl
    | _ => cases e
theorem asInts_map (bs : List Int) : asInts (bs.map PyData.int) = some bs := by
  induction bs with
  | nil => rfl
  | cons b bs ih =>
    show (asInts (bs.map PyData.int)).map (b :: ·) = _
    rw [ih]; rfl
theorem rf_ints {K : PySem.W.Frag} {B : Hp} (ns : List Int) : RFs K B (ns.map V.int) (ns.map PyData.int) := by
  induction ns with
  | nil => exact .nil
  | cons n ns ih => exact .cons (.int n) ih
def vLT (x : O) : Option (List PyData) := (vL x).or (vT x)
def oList : List O → (O → Prop) → Prop
  | [x], R => (∃ ds, vL x = some ds ∧ R (.lf ds)) ∨ ∃ ds, vT x = some ds ∧ R (.lf ds)
  | _, _ => False
def oTuple : List O → (O → Prop) → Prop
  | [x], R => (∃ ds, vL x = some ds ∧ R (.fz (.tuple ds))) ∨ ∃ ds, vT x = some ds ∧ R (.fz (.tuple ds))
  | _, _ => False
theorem rd_tuple {K : PySem.W.Frag} : Rd K (fun xs H Q => ∃ p ys, xs = [.ref p] ∧ ((SqL K H p ys ∧ ∀ l, H l = none → Q (.ref l) (upd H l (.tup ys))) ∨ (SqT K H p ys ∧ Q (.ref p) H))) oTuple := fun B H vs xs f R Q s rr h q => by
  unfold oTuple at h
  split at h
  · obtain ⟨v, _, rfl, r⟩ := ros1 rr
    rcases h with ⟨ds, h1, h⟩ | ⟨ds, h1, h⟩
    · obtain ⟨a, us, rfl, e, t⟩ := r.vL s h1
      exact ⟨a, us, rfl, .inl ⟨SqL.of e, fun p hp => q _ h _ _ _ (Out.tup t s hp)⟩⟩
    · obtain ⟨a, us, rfl, e, t⟩ := r.vTB h1
      exact ⟨a, us, rfl, .inr ⟨s.sqT e, q _ h _ B H (Out.here (.tup e t) s)⟩⟩
  · exact h.elim
def cutP {α : Type} (xs : List α) (lo hi : Option Int) : List α := (xs.drop (HT.sIx xs.length 0 lo)).take (HT.sIx xs.length xs.length hi - HT.sIx xs.length 0 lo)
theorem RFs.cut {K : PySem.W.Frag} {B : Hp} {vs : List V} {ds : List PyData} (r : RFs K B vs ds) (lo hi : Option Int) : RFs K B (cutV vs lo hi) (cutP ds lo hi) := by
  unfold cutV cutP
  rw [r.length]
  exact (r.drop _).take _
def oSl (lo hi : Option Int) : O → (O → Prop) → Prop
  | .fz (.str x), R => x.length ≤ szMax ∧ R (.fz (.str (cutS x lo hi)))
  | .scr ns, R => R (.lf ((cutP ns lo hi).map .int))
  | x, R => (∃ ds, vL x = some ds ∧ R (.lf (cutP ds lo hi))) ∨ ∃ ds, vT x = some ds ∧ R (.fz (.tuple (cutP ds lo hi)))
def rSlAll (K : PySem.W.Frag) : V → Option Int → Option Int → Hp → VK → Prop := fun x lo hi H Q => rSlL K x lo hi H Q ∨ rSlA K x lo hi H Q ∨ ∃ z, x = .str z ∧ z.length ≤ sizeLine ∧ Q (.str (cutS z lo hi)) H
theorem sl_all {X : Cx} : SlR X (rSlAll X.K) := by
  refine SlR.or sl_list (SlR.or sl_tupA ?_)
  intro pins s σ H x v vl vu lo hi sl Q I rx hs pl pu h
  exact sl_str pins s σ H x v vl vu lo hi sl Q I rx hs pl pu h
theorem sl_read {K : PySem.W.Frag} {B H : Hp} {v : V} {x : O} {f : List Addr} {lo hi : Option Int} {R : O → Prop} {Q : VK} (s : Sub B H) (r : RO K B H v x f) (h : oSl lo hi x R) (q : ∀ z, R z → ∀ u B' H', Out K B H u z B' H' → Q u H') : rSlAll K v lo hi H Q := by
  have gen : ((∃ ds, vL x = some ds ∧ R (.lf (cutP ds lo hi))) ∨ ∃ ds, vT x = some ds ∧ R (.fz (.tuple (cutP ds lo hi)))) → rSlAll K v lo hi H Q := fun h => by
    rcases h with ⟨ds, h1, h⟩ | ⟨ds, h1, h⟩
    · obtain ⟨a, us, rfl, e, t⟩ := r.vL s h1
      exact .inl ⟨a, us, rfl, SqL.of e, fun p hp => q _ h _ B _ (Out.lst (t.cut lo hi) s hp)⟩
    · obtain ⟨a, us, rfl, e, t⟩ := r.vTB h1
      refine .inr (.inl ⟨a, us, rfl, s.sqT e, fun hw => ?_, fun _ p hp => q _ h _ _ _ (Out.tup (t.cut lo hi) s hp)⟩)
      have e2 : cutP ds lo hi = ds := by
        unfold cutP
        rw [t.length] at hw
        rw [hw.1, hw.2, List.drop_zero]
        exact List.take_length
      rw [e2] at h
      exact q _ h _ B H (Out.here (.tup e t) s)
  unfold oSl at h
  split at h
  · cases r with
    | fz r =>
      cases r
      exact .inr (.inr ⟨_, rfl, szOk h.1, q _ h.2 _ B H (Out.here (.str _) s)⟩)
  · cases r with
    | scr e =>
      refine .inl ⟨_, _, rfl, s.sqL e, fun p hp => q _ h _ B _ (Out.lst ?_ s hp)⟩
      rename_i ns a
      have := (rf_ints (K := K) (B := B) ns).cut lo hi
      have e3 : cutP (ns.map PyData.int) lo hi = (cutP ns lo hi).map .int := by
        unfold cutP
        rw [List.length_map, List.map_take, List.map_drop]
      rw [e3] at this
      exact this
  · exact gen h
inductive PB where
  | no
  | of (w : WE)
def tPB (K : PySem.W.Frag) (Z : Ent) : PB → TO
  | .no => tNoPart
  | .of w => tPart (tE K Z w)
def wPB : PB → En → (Option Int → En → Prop) → Prop
  | .no, ρ, k => k none ρ
  | .of w, ρ, k => w ρ fun d ρ1 => asI d fun i => k (some i) ρ1
def wSl (a : AD) (lo hi : PB) : WE := fun ρ R => wADs [a] ρ fun ds ρ1 => wPB lo ρ1 fun l ρ2 => wPB hi ρ2 fun u ρ3 => match fillA [a] ds ρ3 with
  | [x] => oSl l u x fun z => R z ρ3
  | _ => False
theorem po_ok {K : PySem.W.Frag} {Z : Ent} {B H : Hp} {σ : L2.St} {ρ : En} {fp : List Addr} {p : PB} {k : Option Int → En → Prop} {Q : Option Int → Hp → Prop} (ok : Ok K Z B H σ ρ fp) (h : wPB p ρ k) (q : ∀ o ρ', k o ρ' → ∀ B' H' fp', Nxt B H fp B' H' fp' → Ok K Z B' H' σ ρ' fp' → Q o H') : tPB K Z p σ H Q := by
  cases p with
  | no => exact q none ρ h B H fp (Nxt.refl _ _ _) ok
  | of w =>
    refine ⟨B, ρ, fp, _, ok, h, fun d ρ' h1 v H' B' fp' n k1 => ?_⟩
    obtain ⟨i, rfl, h2⟩ := asI_iff h1
    have r := k1.headF
    obtain ⟨f2, k2, hs⟩ := k1.drop1
    cases r
    exact ⟨i, rfl, q (some i) ρ' h2 B' H' f2 (n.less hs) k2⟩
theorem sl_ok {K : PySem.W.Frag} {Z : Ent} {σ : L2.St} {H : Hp} {Q : VK} {a : AD} {lo hi : PB} (h : tE K Z (wSl a lo hi) σ H Q) : tSl (rSlAll K) (tAD K Z a) (tPB K Z lo) (tPB K Z hi) σ H Q := by
  obtain ⟨B, ρ, fp, R, k, h, q⟩ := h
  have key : tADs K Z [a] σ H fun vs H1 => match vs with
      | [x] => tPB K Z lo σ H1 fun l H2 => tPB K Z hi σ H2 fun u H3 => rSlAll K x l u H3 Q
      | _ => False := by
    refine args_ok [a] k h fun ds ρ1 h1 vs τ xs H1 B1 fp1 g n1 k1 => ?_
    cases g with
    | @ex w r v vs d ds τ xs g =>
      cases g
      obtain ⟨f1, f2, rfl, r1, k2, fr⟩ := Ok.frame (τ := [some v]) (xs := [d]) k1 rfl
      refine po_ok k2 h1 fun l ρ2 h2 B2 H2 fp2 n2 k3 => po_ok k3 h2 fun u ρ3 h3 B3 H3 fp3 n3 k4 => ?_
      obtain ⟨k5, n5⟩ := fr (n2.trans n3) k4
      obtain ⟨f, r, _, _⟩ := k5.head
      obtain ⟨f6, k6, hs6⟩ := k5.drop1
      refine sl_read k5.sub r h3 fun z hz u' B' H' o => ?_
      obtain ⟨g', k7, n7⟩ := o.ok k6
      exact q z ρ3 hz u' H' B' g' ((n1.trans (n5.less hs6)).trans n7) k7
    | @nm i r v vs ds τ xs e g =>
      cases g
      refine po_ok k1 h1 fun l ρ2 h2 B2 H2 fp2 n2 k3 => po_ok k3 h2 fun u ρ3 h3 B3 H3 fp3 n3 k4 => ?_
      have h3' : oSl l u (nth ρ3 i) fun z => R z ρ3 := h3
      have hx : nth ρ3 i ≠ .hid := fun z => by
        rw [z] at h3'
        unfold oSl at h3'
        rcases h3' with ⟨_, h, _⟩ | ⟨_, h, _⟩ <;> cases h
      obtain ⟨v', f, e', r, _⟩ := k4.slot rfl hx
      rw [e] at e'
      have e2 : v = v' := Option.some.inj (Option.some.inj e')
      subst e2
      refine sl_read k4.sub r h3' fun z hz u' B' H' o => ?_
      obtain ⟨g', k7, n7⟩ := o.ok k4
      exact q z ρ3 hz u' H' B' g' (((n1.trans n2).trans n3).trans n7) k7
  exact key
section
variable {X : Cx} {Z : Ent} {e : Expr} {lo hi : Option Expr} {p2 pos : Pos} {a : AD} {l u : PB} {es : List Expr}
theorem p_no : PO X none (tPB X.K Z .no) := po_none
theorem p_of {e : Expr} {w : WE} (h : PE X e (tE X.K Z w)) : PO X (some e) (tPB X.K Z (.of w)) := po_some h
theorem e_slice (he : PE X e (tAD X.K Z a)) (hl : PO X lo (tPB X.K Z l)) (hu : PO X hi (tPB X.K Z u)) : PE X (.Subscript e (.Slice lo hi none p2) pos) (tE X.K Z (wSl a l u)) := pe_to (pe_slice sl_all he hl hu) fun σ H Q q => sl_ok q
def oLst : List O → (O → Prop) → Prop := fun xs R => ∃ ds, unf xs = some ds ∧ ds.length ≤ szMax ∧ R (.lf ds)
def oTup : List O → (O → Prop) → Prop := fun xs R => ∃ ds, unf xs = some ds ∧ ds.length ≤ szMax ∧ R (.fz (.tuple ds))
theorem rd_lst {K : PySem.W.Frag} : Rd K (fun xs H Q => xs.length ≤ sizeLine ∧ ∀ p, H p = none → Q (.ref p) (upd H p (.lst xs))) oLst := fun B H vs xs f R Q s rr h q => by
  obtain ⟨ds, h1, hz, h⟩ := h
  rw [unf_iff h1] at rr
  obtain ⟨t, _⟩ := ROs.unfz rr
  exact ⟨by rw [t.length]; exact szOk hz, fun p hp => q _ h _ B _ (Out.lst t s hp)⟩
theorem rd_tup {K : PySem.W.Frag} : Rd K (fun xs H Q => xs.length ≤ sizeLine ∧ ∀ p, H p = none → Q (.ref p) (upd H p (.tup xs))) oTup := fun B H vs xs f R Q s rr h q => by
  obtain ⟨ds, h1, hz, h⟩ := h
  rw [unf_iff h1] at rr
  obtain ⟨t, _⟩ := ROs.unfz rr
  exact ⟨by rw [t.length]; exact szOk hz, fun p hp => q _ h _ _ _ (Out.tup t s hp)⟩
theorem e_list {as : List AD} (h : PA X es (tADs X.K Z as)) : PE X (.List es pos) (tE X.K Z (wRd as oLst)) := pe_to (pe_lst h) fun σ H Q q => rd_glue rd_lst q
theorem e_tuple {as : List AD} {k : Nat} (h : PA X es (tADs X.K Z as)) : PE X (.Tuple es k pos) (tE X.K Z (wRd as oTup)) := pe_to (pe_tup h) fun σ H Q q => rd_glue rd_tup q
end
end Pt
namespace Pt
open PySem PySem.Spec L2
def LMu (K : PySem.W.Frag) (r : V → List V → Hp → VK → Prop) (lm : O → List O → (O → O → Prop) → Prop) : Prop :=
  ∀ (B H : Hp) (q : Addr) (x : O) (vs : List V) (xs : List O) (fx fa : List Addr) (R : O → O → Prop) (Q : VK), Sub B H → RO K B H (.ref q) x (q :: fx) → ROs K B H vs xs fa → ((q :: fx) ++ fa).Nodup → lm x xs R →
    (∀ x' z, R x' z → ∀ u o' f' fz, RO K B (upd H q o') (.ref q) x' (q :: f') → RO K B (upd H q o') u z fz → ((q :: f') ++ fz).Nodup → (∀ a ∈ (q :: f') ++ fz, a ∈ (q :: fx) ++ fa) → Q u (upd H q o')) → r (.ref q) vs H Q
def isLst : O → Bool
  | .lf _ => true
  | .ol _ => true
  | _ => false
def isDct : O → Bool
  | .df _ => true
  | .dt _ => true
  | .od _ => true
  | _ => false
section
variable {K : PySem.W.Frag} {B H : Hp} {q : Addr} {fx fa : List Addr}
def lmAppend : O → List O → (O → O → Prop) → Prop
  | .lf ds, [.fz f], R => ds.length < szMax ∧ R (.lf (ds ++ [f])) (.fz .none)
  | .ol xs, [d], R => xs.length < szMax ∧ R (.ol (xs ++ [d])) (.fz .none)
  | _, _, _ => False
theorem lm_append : LMu K rAppend lmAppend := fun B H q x vs xs fx fa R Q s r rr nd h k => by
  unfold lmAppend at h
  split at h
  · obtain ⟨v, _, rfl, rd⟩ := ros1 rr
    cases r with
    | lf e r =>
      cases rd with
      | fz rd =>
        obtain ⟨hz, h⟩ := h
        refine ⟨q, _, v, rfl, rfl, e, by rw [r.length]; exact szLt (Nat.le_of_lt hz), k _ _ h .non _ [] [] (.lf upd_same (r.append (.cons rd .nil))) (.fz .non) ?_ ?_⟩
        · exact List.nodup_cons.mpr ⟨List.not_mem_nil, List.nodup_nil⟩
        · intro a ha; exact List.mem_append_left _ ha
  · obtain ⟨hz, h⟩ := h
    cases rr with
    | cons rd t =>
      cases t
      cases r with
      | ol e r =>
        rw [List.append_nil] at nd
        obtain ⟨n1, n2⟩ := List.nodup_cons.mp nd
        refine ⟨q, _, _, rfl, rfl, e, by rw [r.length]; exact szLt (Nat.le_of_lt hz), k _ _ h .non _ _ [] (.ol upd_same ((r.append (.cons rd .nil)).upd ?_)) (.fz .non) ?_ ?_⟩
        · rw [List.append_nil]; exact n1
        · rw [List.append_nil, List.append_nil]; exact nd
        · intro a ha
          rw [List.append_nil, List.append_nil] at ha
          rw [List.append_nil]
          exact ha
  · exact h.elim
def lmPop : O → List O → (O → O → Prop) → Prop
  | .lf ds, [], R => ∃ f, ds[ds.length - 1]? = some f ∧ R (.lf ds.dropLast) (.fz f)
  | _, _, _ => False
theorem RFs.dropLast {vs : List V} {ds : List PyData} (r : RFs K B vs ds) : RFs K B vs.dropLast ds.dropLast := by
  rw [List.dropLast_eq_take, List.dropLast_eq_take, r.length]
  exact r.take _
def lmPopAt : O → List O → (O → O → Prop) → Prop
  | .lf ds, [.fz (.int i)], R => ∃ f, 0 ≤ i ∧ i < 1000000000 ∧ ds[i.toNat]? = some f ∧ R (.lf (ds.eraseIdx i.toNat)) (.fz f)
  | _, _, _ => False
theorem RFs.eraseIdx : ∀ {ds : List PyData} {vs : List V} (i : Nat), RFs K B vs ds → RFs K B (vs.eraseIdx i) (ds.eraseIdx i)
  | _, _, _, .nil => .nil
  | _, _, 0, .cons _ t => t
  | _, _, i + 1, .cons r t => .cons r (t.eraseIdx i)
theorem RFs.set {v : V} {d : PyData} (r : RF K B v d) : ∀ {ds : List PyData} {vs : List V} (i : Nat), RFs K B vs ds → RFs K B (vs.set i v) (ds.set i d)
  | _, _, _, .nil => .nil
  | _, _, 0, .cons _ t => .cons r t
  | _, _, i + 1, .cons q t => .cons q (RFs.set r i t)
theorem lm_popAt : LMu K rPopAt lmPopAt := fun B H q x vs xs fx fa R Q s r rr nd h k => by
  unfold lmPopAt at h
  split at h
  · obtain ⟨f, h0, h1, hf, h⟩ := h
    obtain ⟨v, _, rfl, rd⟩ := ros1 rr
    cases rd with
    | fz rd =>
      cases rd
      cases r with
      | lf e r =>
        obtain ⟨u, hu, ru⟩ := r.get hf
        rename_i i vs
        have hl : i.toNat < vs.length := (List.getElem?_eq_some_iff.mp hu).1
        have hix : ixN vs.length i = some i.toNat := by
          unfold ixN
          rw [if_pos h0, if_pos (by omega)]
        refine ⟨q, _, i, i.toNat, u, rfl, rfl, e, by omega, by omega, (ixN_seq hix).1, hu, k _ _ h u _ [] [] (.lf upd_same (r.eraseIdx _)) (.fz ru) ?_ ?_⟩
        · exact List.nodup_cons.mpr ⟨List.not_mem_nil, List.nodup_nil⟩
        · intro a ha; exact List.mem_append_left _ ha
  · exact h.elim
def lmClear : O → List O → (O → O → Prop) → Prop
  | .lf _, [], R => R (.lf []) (.fz .none)
  | .ol _, [], R => R (.lf []) (.fz .none)
  | _, _, _ => False
theorem lm_clear : LMu K rClear lmClear := fun B H q x vs xs fx fa R Q s r rr nd h k => by
  unfold lmClear at h
  split at h
  · cases rr
    cases r with
    | lf e r =>
      refine ⟨q, _, rfl, rfl, e, k _ _ h .non _ [] [] (.lf upd_same .nil) (.fz .non) ?_ fun a ha => ha⟩
      exact List.nodup_cons.mpr ⟨List.not_mem_nil, List.nodup_nil⟩
  · cases rr
    cases r with
    | ol e r =>
      refine ⟨q, _, rfl, rfl, e, k _ _ h .non _ [] [] (.lf upd_same .nil) (.fz .non) ?_ fun a ha => ?_⟩
      · exact List.nodup_cons.mpr ⟨List.not_mem_nil, List.nodup_nil⟩
      · rcases List.mem_cons.mp ha with z | z
        · rw [z]; exact List.mem_cons_self ..
        · exact (List.not_mem_nil z).elim
  · exact h.elim
def lmExtend : O → List O → (O → O → Prop) → Prop
  | .lf ds, [y], R => ∃ es, vL y = some es ∧ ds.length + es.length ≤ szMax ∧ R (.lf (ds ++ es)) (.fz .none)
  | _, _, _ => False
theorem lm_extend : LMu K rExtend lmExtend := fun B H q x vs xs fx fa R Q s r rr nd h k => by
  unfold lmExtend at h
  split at h
  · obtain ⟨es, h1, hz, h⟩ := h
    obtain ⟨v, _, rfl, rd⟩ := ros1 rr
    obtain ⟨b, us, rfl, e2, t2⟩ := rd.vL s h1
    cases r with
    | lf e r =>
      refine ⟨q, b, _, us, rfl, rfl, e, e2, by rw [r.length, t2.length]; exact szOk hz, k _ _ h .non _ [] [] (.lf upd_same (r.append t2)) (.fz .non) ?_ ?_⟩
      · exact List.nodup_cons.mpr ⟨List.not_mem_nil, List.nodup_nil⟩
      · intro a ha; exact List.mem_append_left _ ha
  · exact h.elim
end
section
variable {K : PySem.W.Frag} {Z : Ent} {B H : Hp} {σ : L2.St} {ρ xs : En} {fp : List Addr} {v : V} {x : O}
theorem vals_self {i : Nat} (h : (σ[i]? : Option (Option V)) = some (some v)) : (valsOf σ).set i v = valsOf σ := by
  have q : (valsOf σ)[i]? = some v := by rw [valsOf_get, h]; rfl
  obtain ⟨hl, hg⟩ := List.getElem?_eq_some_iff.mp q
  rw [← hg]
  exact List.set_getElem_self hl
theorem Ok.back {i : Nat} (k : Ok K Z B H (some v :: σ) (x :: ρ) fp) (h : (σ[i]? : Option (Option V)) = some (some v)) (h2 : ρ[i]? = some .hid) : ∃ f', Ok K Z B H σ (ρ.set i x) f' ∧ ∀ a ∈ f', a ∈ fp := by
  obtain ⟨f1, f2, rfl, r, k2, _⟩ := Ok.frame (τ := [some v]) (xs := [x]) k rfl
  rw [show valsOf [some v] = [v] from rfl] at r
  cases r with
  | @cons _ _ _ _ g1 g2 a b =>
    cases b
    obtain ⟨f3, w1, w2⟩ := k2.rs.put h2 a
    rw [vals_self h] at w1
    rw [List.append_nil] at *
    refine ⟨f3, k.part (fun j z => ?_) w1 (w2.symm.nodup k.nd) (fun a ha => w2.subset ha), fun a ha => w2.subset ha⟩
    by_cases hj : i = j
    · subst hj
      rw [h] at z
      cases z
    · rw [List.getElem?_set_ne hj]
      exact k2.un j z
theorem Ok.back2 {i : Nat} {u : V} {z : O} (k : Ok K Z B H (some u :: some v :: σ) (z :: x :: ρ) fp) (h : (σ[i]? : Option (Option V)) = some (some v)) (h2 : ρ[i]? = some .hid) : ∃ f', Ok K Z B H (some u :: σ) (z :: ρ.set i x) f' ∧ ∀ a ∈ f', a ∈ fp := by
  obtain ⟨f1, f2, rfl, r, k2, fr⟩ := Ok.frame (τ := [some u]) (xs := [z]) k rfl
  obtain ⟨f3, k3, hs⟩ := k2.back h h2
  obtain ⟨k4, _⟩ := fr (Nxt.self hs) k3
  exact ⟨f1 ++ f3, k4, fun a ha => by
    rcases List.mem_append.mp ha with q | q
    · exact List.mem_append_left _ q
    · exact List.mem_append_right _ (hs a q)⟩
theorem Ok.outA {i : Nat} {τ : L2.St} (k : Ok K Z B H (τ ++ σ) (xs ++ ρ) fp) (hl : τ.length = xs.length) (hx : nth ρ i ≠ .hid) : ∃ v f1 f2 f3, (σ[i]? : Option (Option V)) = some (some v) ∧ RO K B H v (nth ρ i) f1 ∧ ROs K B H (valsOf τ) xs f2 ∧
    Ok K Z B H σ (ρ.set i .hid) f3 ∧ (f1 ++ f2 ++ f3).Nodup ∧ (∀ a ∈ f1 ++ f2 ++ f3, a ∈ fp) ∧ (ρ.set i .hid)[i]? = some O.hid := by
  obtain ⟨g1, g2, rfl, r, k2, _⟩ := k.frame hl
  have e := nth_some rfl hx
  obtain ⟨v, a1, a2, h1, h2, h3, h4⟩ := k2.rs.split e
  obtain ⟨v', f', e1, _, _⟩ := k2.slot rfl hx
  rw [valsOf_get, e1] at h1
  have e2 : v' = v := Option.some.inj h1
  subst e2
  have hi : i < ρ.length := (List.getElem?_eq_some_iff.mp e).1
  have pm : (g1 ++ g2).Perm (a1 ++ g1 ++ a2) := by
    refine (List.Perm.append_left g1 h4).trans ?_
    rw [List.append_assoc]
    exact perm3
  refine ⟨v', a1, g1, a2, e1, h2, r, k2.part (fun j z => ?_) h3 ((List.nodup_append.mp (pm.nodup k.nd)).2.1) (fun a ha => h4.symm.subset (List.mem_append_right _ ha)), pm.nodup k.nd, fun a ha => pm.symm.subset ha, List.getElem?_set_self hi⟩
  by_cases hj : i = j
  · subst hj; rw [List.getElem?_set_self hi]
  · rw [List.getElem?_set_ne hj]; exact k2.un j z
end
theorem isRef {K : PySem.W.Frag} {B H : Hp} {v : V} {x : O} {f : List Addr} (r : RO K B H v x f) (h : isLst x = true ∨ isDct x = true) : ∃ q f', v = .ref q ∧ f = q :: f' := by
  cases r with
  | lf e r => exact ⟨_, _, rfl, rfl⟩
  | ol e r => exact ⟨_, _, rfl, rfl⟩
  | df e _ r => exact ⟨_, _, rfl, rfl⟩
  | dt e _ r => exact ⟨_, _, rfl, rfl⟩
  | od e _ r => exact ⟨_, _, rfl, rfl⟩
  | _ => rcases h with h | h <;> cases h
def exs (ws : List WE) : List AD := ws.map AD.ex
def wMu (T : String) (i : Nat) (ws : List WE) (lm : O → List O → (O → O → Prop) → Prop) : WE := fun ρ R => (if T = "list" then isLst (nth ρ i) = true else T = "dict" ∧ isDct (nth ρ i) = true) ∧ wADs (exs ws) ρ fun ds ρ1 => (isLst (nth ρ1 i) || isDct (nth ρ1 i)) = true ∧ lm (nth ρ1 i) (fillA (exs ws) ds ρ1) fun x' z => R z (ρ1.set i x')
theorem got_exs {σ : L2.St} {as : List AD} {vs : List V} {ds : List (Option O)} {τ : L2.St} {xs : List O} (g : Got σ as vs ds τ xs) : ∀ {ws : List WE}, as = exs ws → valsOf τ = vs ∧ ∀ ρ, fillA as ds ρ = xs := by
  induction g with
  | nil => exact fun _ => ⟨rfl, fun _ => rfl⟩
  | ex g ih =>
    intro ws e
    cases ws with
    | nil => cases e
    | cons w ws =>
      obtain ⟨a, b⟩ := ih (ws := ws) (List.cons.inj e).2
      exact ⟨by rw [valsOf_cons, a], fun ρ => by unfold fillA; rw [b]⟩
  | nm e g ih =>
    intro ws e
    cases ws with
    | nil => cases e
    | cons w ws => cases (List.cons.inj e).1
theorem mu_glue {K : PySem.W.Frag} {Z : Ent} {σ : L2.St} {H : Hp} {Q : VK} {T : String} {i : Nat} {ws : List WE} {lm : O → List O → (O → O → Prop) → Prop} {r : V → List V → Hp → VK → Prop} (hm : LMu K r lm) (h : tE K Z (wMu T i ws lm) σ H Q) : tBM K T r (tVar i) (tADs K Z (exs ws)) σ H Q := by
  obtain ⟨B, ρ, fp, R, k, ⟨hT, h⟩, q⟩ := h
  have hx : nth ρ i ≠ .hid := fun e => by
    rw [e] at hT
    split at hT
    · cases hT
    · cases hT.2
  obtain ⟨v, f, e, rv, hs⟩ := k.slot rfl hx
  refine ⟨v, e, ?_, args_ok (exs ws) k h fun ds ρ1 h1 vs τ xs H1 B1 fp1 g n1 k1 => ?_⟩
  · split at hT
    · rename_i hT'
      subst hT'
      generalize nth ρ i = x at rv hT
      cases rv with
      | lf e2 r => exact .inl ⟨rfl, _, SqL.of e2⟩
      | ol e2 r => exact .inl ⟨rfl, _, SqL.of e2⟩
      | _ => cases hT
    · obtain ⟨rfl, hT⟩ := hT
      generalize nth ρ i = x at rv hT
      cases rv with
      | df e2 _ r => exact .inr (.inr (.inl ⟨rfl, .inl ⟨_, e2⟩⟩))
      | dt e2 _ r => exact .inr (.inr (.inl ⟨rfl, .inr ⟨_, e2⟩⟩))
      | od e2 _ r => exact .inr (.inr (.inl ⟨rfl, .inl ⟨_, e2⟩⟩))
      | _ => cases hT
  · obtain ⟨hL, h2⟩ := h1
    have hL' : isLst (nth ρ1 i) = true ∨ isDct (nth ρ1 i) = true := by
      cases z : isLst (nth ρ1 i) with
      | true => exact .inl rfl
      | false => rw [z] at hL; exact .inr hL
    have hx1 : nth ρ1 i ≠ .hid := fun e => by rw [e] at hL; cases hL
    obtain ⟨v', f1, f2, f3, e', r1, r2, k3, nd, hs3, hh⟩ := k1.outA g.len hx1
    rw [e] at e'
    have e2 : v = v' := Option.some.inj (Option.some.inj e')
    subst e2
    obtain ⟨q1, f1', rfl, rfl⟩ := isRef r1 hL'
    obtain ⟨ev, ef⟩ := got_exs g rfl
    rw [ev] at r2
    rw [ef ρ1] at h2
    obtain ⟨n12, n3, n123⟩ := List.nodup_append.mp nd
    have kall : Ok K Z B1 H1 ((some (.ref q1) :: τ) ++ σ) ((nth ρ1 i :: xs) ++ ρ1.set i .hid) ((q1 :: f1') ++ f2 ++ f3) := by
      refine ⟨k1.sub, fun j z => ?_, ?_, nd, fun a ha => k1.out a (hs3 a ha), k1.nx.less hs3⟩
      · by_cases hj : j < (some (V.ref q1) :: τ).length
        · exfalso
          rw [List.getElem?_append_left hj] at z
          cases j with
          | zero => cases z
          | succ j =>
            have hl := g.len
            have z' : (τ[j]? : Option (Option V)) = some none := z
            have := k1.un j (by rw [List.getElem?_append_left (by exact (List.getElem?_eq_some_iff.mp z').1)]; exact z')
            have gn : ∀ {as : List AD} {vs : List V} {ds : List (Option O)} {τ : L2.St} {xs : List O}, Got σ as vs ds τ xs → ∀ j : Nat, (τ[j]? : Option (Option V)) ≠ some none := fun g => by
              induction g with
              | nil => intro j z; cases z
              | ex g ih =>
                intro j z
                cases j with
                | zero => cases z
                | succ j => exact ih j z
              | nm _ g ih => exact ih
            exact gn g j z'
        · rw [List.getElem?_append_right (by omega)] at z
          have hl := g.len
          rw [List.getElem?_append_right (by rw [List.length_cons] at hj ⊢; omega)]
          have := k3.un _ z
          rw [List.length_cons] at this ⊢
          rw [← hl]
          exact this
      · rw [valsOf_append, valsOf_cons, ev]
        exact (ROs.cons r1 r2).append k3.rs
    refine hm B1 H1 q1 _ vs xs f1' f2 _ _ k1.sub r1 r2 n12 h2 fun x' z hR u o' f' fz w1 w2 nd' hs' => ?_
    have hw := Ok.write (τ := some (.ref q1) :: τ) (xs := nth ρ1 i :: xs) (τ' := [some u, some (.ref q1)]) (xs' := [z, x']) (p := q1) (o' := o') (f1 := (q1 :: f1') ++ f2) (f2 := f3) (f3 := fz ++ ((q1 :: f') ++ [])) kall k3 (List.mem_cons_self ..)
      (.cons w2 (.cons w1 .nil)) (fun a ha => by
        rw [List.append_nil] at ha
        refine hs' a ?_
        rcases List.mem_append.mp ha with z | z
        · exact List.mem_append_right _ z
        · exact List.mem_append_left _ z) (by rw [List.append_nil]; exact (List.perm_append_comm.nodup nd')) (fun j z => by
        cases j with
        | zero => cases z
        | succ j => cases j <;> cases z) rfl
    have hw1 : Ok K Z B1 (upd H1 q1 o') (some u :: some (.ref q1) :: σ) (z :: x' :: ρ1.set i .hid) (fz ++ ((q1 :: f') ++ []) ++ f3) := hw.1
    obtain ⟨f5, k5, hs5⟩ := Ok.back2 hw1 e hh
    rw [List.set_set] at k5
    exact q z _ hR u _ B1 f5 ((n1.trans ((Nxt.self hs3).trans hw.2)).less hs5) k5
section
variable {X : Cx} {Z : Ent} {e : Expr} {es : List Expr} {name x : Str} {apos cpos pos : Pos} {T id : String} {ws : List WE} {lm : O → List O → (O → O → Prop) → Prop} {r : V → List V → Hp → VK → Prop}
theorem e_mu (i : Nat) (pa : PlainAttrs T) (slot : Slot T name id) (hty : typeOf (.builtin id) = pure (.type "method_descriptor")) (hm : MtR X id r) (hl : LMu X.K r lm) (ha : PA X (e :: es) (tADs X.K Z (exs ws))) (hN : X.N[i]? = some x := by rfl) (hv : Vis X.env.scope x := by first | exact Or.inl rfl | exact Or.inr (Or.inl rfl) | exact Or.inr (Or.inr rfl)) (hd : (x == ("__debug__" : Str)) = false := by decide)
    (hcd : (x == ("__classdict__" : Str)) = false := by decide) (hst : starEach (e :: es) X.env = (false, eval e X.env) :: starEach es X.env := by rfl) (hpl : (backTo cpos (starEach es X.env)).any (·.1) = false := by rfl) (hline : (apos.endLine == cpos.line) = true := by rfl)
    (hfw : ((backTo cpos (starEach (e :: es) X.env)).all (fun x => !x.1) && (backToKw cpos (keywordEach [] X.env)).all (fun x => x.1.isSome) && decide ((e :: es).length + ([] : List Keyword).length + (if ([] : List Keyword).isEmpty then 0 else 1) < 30)) = true := by rfl) :
    PE X (.Call (.Attribute (.Name x pos) name apos) (e :: es) [] cpos) (tE X.K Z (wMu T i ws lm)) :=
  pe_to (pe_bm pa slot hty hm (pe_var hN hv hd hcd) ha rfl hfw hline hst hpl) fun σ H Q q => mu_glue hl q
theorem e_mu0 (i : Nat) (pa : PlainAttrs T) (slot : Slot T name id) (hty : typeOf (.builtin id) = pure (.type "method_descriptor")) (hm : MtR X id r) (hl : LMu X.K r lm) (hN : X.N[i]? = some x := by rfl) (hv : Vis X.env.scope x := by first | exact Or.inl rfl | exact Or.inr (Or.inl rfl) | exact Or.inr (Or.inr rfl)) (hd : (x == ("__debug__" : Str)) = false := by decide)
    (hcd : (x == ("__classdict__" : Str)) = false := by decide) (hline : (apos.endLine == cpos.line) = true := by rfl) : PE X (.Call (.Attribute (.Name x pos) name apos) [] [] cpos) (tE X.K Z (wMu T i [] lm)) :=
  pe_to (pe_bm0 pa slot hty hm (pe_var hN hv hd hcd) rfl hline) fun σ H Q q => mu_glue (ws := []) hl q
end
end Pt
namespace Pt
open PySem PySem.Spec L2
def rSet2 : V → List V → Hp → VK → Prop := fun o vs H Q => match vs with
  | [v, i] => rSetL o i v H fun H' => Q .non H'
  | _ => False
def lmSet : O → List O → (O → O → Prop) → Prop
  | .lf ds, [.fz f, .fz (.int k)], R => ∃ j, ixN ds.length k = some j ∧ R (.lf (ds.set j f)) (.fz .none)
  | .ol xs, [d, .fz (.int k)], R => ∃ j, ixN xs.length k = some j ∧ R (.ol (xs.set j d)) (.fz .none)
  | _, _, _ => False
theorem ixN_lt {n : Nat} {k : Int} {j : Nat} (h : ixN n k = some j) : j < n := (ixN_seq h).2.1
theorem lm_set {K : PySem.W.Frag} : LMu K rSet2 lmSet := fun B H q x vs xs fx fa R Q s r rr nd h k => by
  unfold lmSet at h
  split at h
  · obtain ⟨j, hj, h⟩ := h
    obtain ⟨v, w, _, _, rfl, r1, r2⟩ := ros2 rr
    cases r1 with
    | fz r1 =>
      cases r2 with
      | fz r2 =>
        cases r2
        cases r with
        | lf e r =>
          refine ⟨q, _, _, j, rfl, rfl, e, by rw [r.length]; exact hj, k _ _ h .non _ [] [] (.lf upd_same (r.set r1 j)) (.fz .non) ?_ ?_⟩
          · exact List.nodup_cons.mpr ⟨List.not_mem_nil, List.nodup_nil⟩
          · intro a ha; exact List.mem_append_left _ ha
  · obtain ⟨j, hj, h⟩ := h
    cases rr with
    | cons r1 t =>
      cases t with
      | cons r2 t =>
        cases t
        cases r2 with
        | fz r2 =>
          cases r2
          cases r with
          | ol e r =>
            rename_i ys d i v fv ws
            have hlt := ixN_lt hj
            obtain ⟨g1, s1, s2, s3⟩ := r.forget j
            obtain ⟨g2, p1, p2⟩ := ROs.put (i := j) s1 (by rw [List.getElem?_set_self hlt]) r1
            rw [List.set_set] at p1
            rw [List.append_nil, List.append_nil] at nd
            rw [List.append_nil, List.append_nil] at k
            obtain ⟨n1, n2, n3⟩ := List.nodup_append.mp nd
            obtain ⟨m1, m2⟩ := List.nodup_cons.mp n1
            have sub : ∀ a ∈ g2, a ∈ fx ++ fv := fun a ha => by
              rcases List.mem_append.mp (p2.subset ha) with z | z
              · exact List.mem_append_right _ z
              · exact List.mem_append_left _ (s2 a z)
            have nd2 : g2.Nodup := p2.symm.nodup (List.nodup_append.mpr ⟨n2, s3 m2, fun a ha b hb e => n3 b (List.mem_cons_of_mem _ (s2 b hb)) a ha e.symm⟩)
            have hq : q ∉ g2 := fun z => by
              rcases List.mem_append.mp (sub q z) with z | z
              · exact m1 z
              · exact n3 q (List.mem_cons_self ..) q z rfl
            refine ⟨q, _, _, j, rfl, rfl, e, by rw [r.length]; exact hj, k _ _ h .non _ g2 [] (.ol upd_same (p1.upd hq)) (.fz .non) ?_ ?_⟩
            · rw [List.append_nil]; exact List.nodup_cons.mpr ⟨hq, nd2⟩
            · intro a ha
              rw [List.append_nil] at ha
              rcases List.mem_cons.mp ha with z | z
              · rw [z]; exact List.mem_cons_self ..
              · exact List.mem_cons_of_mem _ (sub a z)
  · exact h.elim
def sSetI (i : Nat) (we wk : WE) : WS := sDrop (wMu "list" i [we, wk] lmSet)
section
variable {X : Cx} {Z : Ent} {ps : List Nat} {e k : Expr} {x : Str} {pos px p2 : Pos} {we wk : WE}
theorem s_setI (i : Nat) (he : PE X e (tE X.K Z we)) (hk : PE X k (tE X.K Z wk)) (hN : X.N[i]? = some x := by rfl) (hv : Vis X.env.scope x := by first | exact Or.inl rfl | exact Or.inr (Or.inl rfl) | exact Or.inr (Or.inr rfl)) (hd : (x == ("__debug__" : Str)) = false := by decide) (hcd : (x == ("__classdict__" : Str)) = false := by decide)
    (ha : ∀ v, assign (.Subscript (.Name x px) k p2) X.env v = (do let ov ← holding [v] (eval (.Name x px) X.env); let iv ← holding [v, ov] (eval k X.env); standAt p2; holding [v, ov, iv] (setItem ov iv v); release [v, ov, iv] []) := by intro _; rfl)
    (hs : swapsWithSole [.Subscript (.Name x px) k p2] e pos.line X.env = pure false := by rfl) (hw : swappedStores [.Subscript (.Name x px) k p2] e X.env = pure none := by rfl) (h1 : (assignEach [.Subscript (.Name x px) k p2] X.env).map (·.2) = [assign (.Subscript (.Name x px) k p2) X.env] := by rfl) :
    PS X (.Assign [.Subscript (.Name x px) k p2] e pos) (tS X.K Z ps (sSetI i we wk)) :=
  ps_to (ps_asg he (pg_sub (pe_var hN hv hd hcd) hk set_list ha) hs hw h1) fun D σ H q => by
    obtain ⟨B, ρ, fp, E, kk, q, p⟩ := q
    have z : tE X.K Z (wMu "list" i [we, wk] lmSet) σ H fun _ H' => D.nx σ H' := ⟨B, ρ, fp, _, kk, q, fun d ρ' h1 v H' B' fp' n k1 => by
      obtain ⟨f2, k2, hs⟩ := k1.drop1
      exact p.nx ρ' h1 σ H' B' f2 (n.less hs) k2 (Pin.refl _ _)⟩
    obtain ⟨v, e1, _, z2⟩ := mu_glue lm_set z
    show tE X.K Z we σ H fun y H1 => ∃ o, σ[i]? = some (some o) ∧ tE X.K Z wk σ H1 fun ii H2 => rSetL o ii y H2 fun H3 => D.nx σ H3
    obtain ⟨B0, ρ0, f0, R0, k0, a0, b0⟩ := z2
    refine ⟨B0, ρ0, f0, R0, k0, a0, fun d ρ' h v' H' B' fp' n k1 => ⟨v, e1, ?_⟩⟩
    obtain ⟨B2, ρ2, f2, R2, k2, a2, b2⟩ := b0 d ρ' h v' H' B' fp' n k1
    exact ⟨B2, ρ2, f2, R2, k2, a2, fun d2 ρ3 h3 v2 H3 B3 f3 n3 k3 => b2 d2 ρ3 h3 v2 H3 B3 f3 n3 k3⟩
end
def sAugI (i : Nat) (wk we : WE) (od : List O → (O → Prop) → Prop) : WS := fun E ρ => isLst (nth ρ i) = true ∧ wk ρ fun kd ρ1 => asI kd fun k => 0 ≤ k ∧ k < 1000000000 ∧ isLst (nth ρ1 i) = true ∧ ∃ f, itemO (nth ρ1 i) k = some f ∧ we ρ1 fun d ρ2 => isLst (nth ρ2 i) = true ∧ od [.fz f, d] fun z => asF z fun g => lmSet (nth ρ2 i) [.fz g, .fz (.int k)] fun x' _ => E.nx (ρ2.set i x')
section
variable {X : Cx} {Z : Ent} {ps : List Nat} {e k : Expr} {x : Str} {pos px p2 : Pos} {we wk : WE} {od : List O → (O → Prop) → Prop} {r : R2} {op : Operator}
end
end Pt
namespace Pt
open PySem PySem.Spec L2
def asOl : O → (List O → Prop) → Prop
  | .ol xs, k => k xs
  | _, _ => False
theorem asOl_iff {x : O} {k : List O → Prop} (h : asOl x k) : ∃ xs, x = .ol xs ∧ k xs := by
  cases x with
  | ol xs => exact ⟨xs, rfl, h⟩
  | _ => exact False.elim h
def wMu2 (i : Nat) (wk : WE) (ws : List WE) (lm : O → List O → (O → O → Prop) → Prop) : WE := fun ρ R => notHid (nth ρ i) (wk ρ fun kd ρ1 => asI kd fun k => asOl (nth ρ1 i) fun xs => ∃ j y, ixN xs.length k = some j ∧ xs[j]? = some y ∧ isLst y = true ∧
  wADs (exs ws) (ρ1.set i .hid) fun ds ρ2 => nth ρ2 i = .hid ∧ lm y (fillA (exs ws) ds ρ2) fun y' z => R z (ρ2.set i (.ol (xs.set j y'))))
theorem mu2_glue {K : PySem.W.Frag} {Z : Ent} {σ : L2.St} {H : Hp} {Q : VK} {i : Nat} {wk : WE} {ws : List WE} {lm : O → List O → (O → O → Prop) → Prop} {r : V → List V → Hp → VK → Prop} (hm : LMu K r lm) (h : tE K Z (wMu2 i wk ws lm) σ H Q) : tBM K "list" r (tOp (rIx K) (tVar i) (tE K Z wk)) (tADs K Z (exs ws)) σ H Q := by
  obtain ⟨B, ρ, fp, R, k, h, q⟩ := h
  obtain ⟨hx, h⟩ := notHid_iff h
  obtain ⟨v0, f0, e0, _, _⟩ := k.slot rfl hx
  refine ⟨v0, e0, B, ρ, fp, _, k, h, fun kd ρ1 h1 v1 H1 B1 fp1 n1 k1 => ?_⟩
  obtain ⟨ki, rfl, h2⟩ := asI_iff h1
  obtain ⟨xs, hxs, j, y, hj, hy, hL, h3⟩ := asOl_iff h2
  have rk := k1.headF
  obtain ⟨g1, k2, hs1⟩ := k1.drop1
  cases rk
  have hx1 : nth ρ1 i ≠ .hid := fun z => by rw [hxs] at z; cases z
  obtain ⟨v4, a1, a2, a3, e4, r4, _, k5, nd5, hs5, hh5⟩ := Ok.outA (τ := []) (xs := []) k2 rfl hx1
  rw [e0] at e4
  have ee := Option.some.inj (Option.some.inj e4)
  subst ee
  rw [hxs] at r4
  cases r4 with
  | @ol p vs _ fx hp rr =>
    obtain ⟨w, gy, g2, hw, ry, rrest, pm⟩ := rr.split hy
    obtain ⟨qy, fy, rfl, rfl⟩ := isRef ry (.inl hL)
    have hat : atI vs ki = some (.ref qy) := by
      unfold atI
      rw [rr.length, hj]
      exact hw
    refine .inl ⟨p, vs, ki, .ref qy, rfl, rfl, SqL.of hp, hat, ?_, ?_⟩
    · cases ry with
      | lf e _ => exact .inl ⟨rfl, _, SqL.of e⟩
      | ol e _ => exact .inl ⟨rfl, _, SqL.of e⟩
      | _ => cases hL
    · refine args_ok (exs ws) k5 h3 fun ds ρ2 h4 ws' τ zs H2 B2 fp2 g n2 k6 => ?_
      obtain ⟨hi2, h4⟩ := h4
      obtain ⟨y1, y2, y3⟩ := List.nodup_append.mp nd5
      have y1' := (List.nodup_append.mp y1).1
      have disj : ∀ a ∈ p :: fx, a ∉ a3 := fun a ha hb => y3 a (List.mem_append_left _ ha) a hb rfl
      have keep : ∀ a ∈ p :: fx, ∀ o, H1 a = some o → NT o → H2 a = some o := fun a ha o e => n2.keep a o e (disj a ha)
      have live : ∀ a ∈ p :: fx, H1 a ≠ none := fun a ha e => by
        obtain ⟨o, z⟩ := (RO.ol hp rr).live a ha
        rw [e] at z; cases z
      have fresh : ∀ a ∈ p :: fx, a ∉ fp2 := fun a ha hb => by
        rcases n2.newF a hb with z | z
        · exact disj a ha z
        · exact live a ha z
      have outB : ∀ a ∈ p :: fx, B2 a = none := fun a ha => by
        cases z : B2 a with
        | none => rfl
        | some o =>
          rcases n2.newB a (by rw [z]; exact fun h => nomatch h) with h | h | h
          · exact absurd (k2.out a (hs5 a (List.mem_append_left _ (List.mem_append_left _ ha)))) h
          · exact absurd h (live a ha)
          · exact absurd h (disj a ha)
      have mx : ∀ a ∈ fx, a ∈ p :: fx := fun a ha => List.mem_cons_of_mem _ ha
      have my : ∀ a ∈ qy :: fy, a ∈ fx := fun a ha => pm.symm.subset (List.mem_append_left _ ha)
      have mr : ∀ a ∈ g2, a ∈ fx := fun a ha => pm.symm.subset (List.mem_append_right _ ha)
      obtain ⟨np, nfx⟩ := List.nodup_cons.mp y1'
      obtain ⟨ny, nr, nyr⟩ := List.nodup_append.mp (pm.nodup nfx)
      have hp2 : H2 p = some (.lst vs) := keep p (List.mem_cons_self ..) _ hp pl_lst.1
      have ry2 := ry.next n2.bsub fun a ha => keep a (mx a (my a ha))
      have rr2 := rrest.next n2.bsub fun a ha => keep a (mx a (mr a ha))
      obtain ⟨f1, f2, rfl, rt, k7, _⟩ := k6.frame g.len
      obtain ⟨ev, ef⟩ := got_exs g rfl
      rw [ev] at rt
      rw [ef ρ2] at h4
      obtain ⟨m1, m2, m3⟩ := List.nodup_append.mp k6.nd
      have gn : ∀ {as : List AD} {vs : List V} {ds : List (Option O)} {τ : L2.St} {xs : List O}, Got σ as vs ds τ xs → ∀ j : Nat, (τ[j]? : Option (Option V)) ≠ some none := fun g => by
        induction g with
        | nil => intro j z; cases z
        | ex g ih =>
          intro j z
          cases j with
          | zero => cases z
          | succ j => exact ih j z
        | nm _ g ih => exact ih
      have nd12 : ((qy :: fy) ++ f1).Nodup := List.nodup_append.mpr ⟨ny, m1, fun a ha b hb e => fresh a (mx a (my a ha)) (e ▸ List.mem_append_left _ hb)⟩
      have pAll : ((p :: fx) ++ f1 ++ f2).Nodup := by
        rw [List.append_assoc]
        exact List.nodup_append.mpr ⟨y1', k6.nd, fun a ha b hb e => fresh a ha (e ▸ hb)⟩
      have rp : ROs K B2 H2 vs xs fx := by
        have z := rr.next n2.bsub fun a ha => keep a (mx a ha)
        exact z
      have kall : Ok K Z B2 H2 ((some (.ref p) :: τ) ++ σ) ((.ol xs :: zs) ++ ρ2) ((p :: fx) ++ f1 ++ f2) := by
        refine ⟨k6.sub, fun j z => ?_, ?_, pAll, fun a ha => ?_, ?_⟩
        · cases j with
          | zero => cases z
          | succ j => exact k6.un j z
        · rw [valsOf_append, valsOf_cons, ev]
          exact (ROs.cons (RO.ol hp2 rp) rt).append k7.rs
        · rw [List.append_assoc] at ha
          rcases List.mem_append.mp ha with z | z
          · exact outB a z
          · exact k6.out a z
        · refine ⟨k6.nx.bsub, k6.nx.keep, k6.nx.newB, fun a ha => ?_, k6.nx.live, k6.nx.tabs, k6.nx.ntb⟩
          rw [List.append_assoc] at ha
          rcases List.mem_append.mp ha with z | z
          · exact k2.nx.newF a (hs5 a (List.mem_append_left _ (List.mem_append_left _ z)))
          · exact k6.nx.newF a z
      refine hm B2 H2 qy y ws' zs fy f1 _ _ k6.sub ry2 rt nd12 h4 fun y' z hR u o' f' fz w1 w2 nd' hs' => ?_
      have hqp : qy ≠ p := fun e => np (e ▸ my qy (List.mem_cons_self ..))
      have ff : ∀ a ∈ (qy :: f') ++ fz, a ∈ fx ++ f1 := fun a ha => by
        rcases List.mem_append.mp (hs' a ha) with z | z
        · exact List.mem_append_left _ (my a z)
        · exact List.mem_append_right _ z
      obtain ⟨nw1, nw2, nw3⟩ := List.nodup_append.mp nd'
      obtain ⟨g4, p1, p2⟩ := ROs.put (i := j) (rr2.upd (p := qy) (o := o') fun z => nyr qy (List.mem_cons_self ..) qy z rfl) (by rw [List.getElem?_set_self (List.getElem?_eq_some_iff.mp hy).1]) w1
      rw [List.set_set] at p1
      have evs : vs.set j (.ref qy) = vs := by
        obtain ⟨hl, hg⟩ := List.getElem?_eq_some_iff.mp hw
        rw [← hg]
        exact List.set_getElem_self hl
      rw [evs] at p1
      have d42 : ∀ a ∈ qy :: f', a ∉ g2 := fun a ha hb => by
        rcases List.mem_append.mp (hs' a (List.mem_append_left _ ha)) with z | z
        · exact nyr a z a hb rfl
        · exact fresh a (mx a (mr a hb)) (List.mem_append_left _ z)
      have nd4 : g4.Nodup := p2.symm.nodup (List.nodup_append.mpr ⟨nw1, nr, fun a ha b hb e => d42 a ha (e ▸ hb)⟩)
      have s4 : ∀ a ∈ g4, a ∈ fx ++ f1 := fun a ha => by
        rcases List.mem_append.mp (p2.subset ha) with z | z
        · exact ff a (List.mem_append_left _ z)
        · exact List.mem_append_left _ (mr a z)
      have hp4 : p ∉ g4 := fun z => by
        rcases List.mem_append.mp (s4 p z) with z | z
        · exact np z
        · exact fresh p (List.mem_cons_self ..) (List.mem_append_left _ z)
      have hpz : p ∉ fz := fun z => by
        rcases List.mem_append.mp (ff p (List.mem_append_right _ z)) with z | z
        · exact np z
        · exact fresh p (List.mem_cons_self ..) (List.mem_append_left _ z)
      have dz4 : ∀ a ∈ fz, a ∉ g4 := fun a ha hb => by
        rcases List.mem_append.mp (p2.subset hb) with z | z
        · exact nw3 a z a ha rfl
        · rcases List.mem_append.mp (hs' a (List.mem_append_right _ ha)) with y | y
          · exact nyr a y a z rfl
          · exact fresh a (mx a (mr a z)) (List.mem_append_left _ y)
      have hw' := Ok.write (τ := some (.ref p) :: τ) (xs := .ol xs :: zs) (τ' := [some u, some (.ref p)]) (xs' := [z, .ol (xs.set j y')]) (p := qy) (o' := o') (f1 := (p :: fx) ++ f1) (f2 := f2) (f3 := fz ++ ((p :: g4) ++ [])) kall k7 (List.mem_append_left _ (mx _ (my _ (List.mem_cons_self ..))))
        (.cons w2 (.cons (.ol (by rw [upd_ne (Ne.symm hqp)]; exact hp2) p1) .nil)) (fun a ha => by
          rw [List.append_nil] at ha
          rcases List.mem_append.mp ha with z | z
          · rcases List.mem_append.mp (ff a (List.mem_append_right _ z)) with y | y
            · exact List.mem_append_left _ (mx a y)
            · exact List.mem_append_right _ y
          · rcases List.mem_cons.mp z with y | y
            · rw [y]; exact List.mem_append_left _ (List.mem_cons_self ..)
            · rcases List.mem_append.mp (s4 a y) with y | y
              · exact List.mem_append_left _ (mx a y)
              · exact List.mem_append_right _ y) (by
          rw [List.append_nil]
          refine List.nodup_append.mpr ⟨nw2, List.nodup_cons.mpr ⟨hp4, nd4⟩, fun a ha b hb e => ?_⟩
          subst e
          rcases List.mem_cons.mp hb with y | y
          · rw [y] at ha; exact hpz ha
          · exact dz4 a ha y) (fun j z => by
          cases j with
          | zero => cases z
          | succ j => cases j <;> cases z) rfl
      have hw1 : Ok K Z B2 (upd H2 qy o') (some u :: some (.ref p) :: σ) (z :: .ol (xs.set j y') :: ρ2) (fz ++ ((p :: g4) ++ []) ++ f2) := hw'.1
      have hρ2 : ρ2[i]? = some O.hid := by
        have hi := (List.getElem?_eq_some_iff.mp (nth_some rfl hx)).1
        have l1 := k.len
        have l7 := k7.len
        have hl : i < ρ2.length := by
          have l1' : List.length σ = ρ.length := l1
          have l7' : List.length σ = ρ2.length := l7
          omega
        rw [nth_eq, List.getElem?_eq_getElem hl] at hi2
        rw [List.getElem?_eq_getElem hl]
        exact congrArg some hi2
      obtain ⟨f9, k9, hs9⟩ := Ok.back2 hw1 e0 hρ2
      have nbig : Nxt B1 H1 fp1 B2 H2 ((p :: fx) ++ f1 ++ f2) := by
        have z1 : Nxt B1 H1 fp1 B2 H2 (f1 ++ f2) := (Nxt.self (B := B1) (H := H1) (fp := fp1) (fp' := a3) fun a ha => hs1 a (hs5 a (List.mem_append_right _ ha))).trans n2
        refine ⟨z1.bsub, z1.keep, z1.newB, fun a ha => ?_, z1.live, z1.tabs, z1.ntb⟩
        rw [List.append_assoc] at ha
        rcases List.mem_append.mp ha with z | z
        · exact .inl (hs1 a (hs5 a (List.mem_append_left _ (List.mem_append_left _ z))))
        · exact z1.newF a z
      exact q z _ hR u _ B2 f9 (((n1.trans nbig).trans hw'.2).less hs9) k9
section
variable {X : Cx} {Z : Ent} {e k : Expr} {es : List Expr} {name x : Str} {apos cpos pos p2 : Pos} {id : String} {ws : List WE} {wk : WE} {lm : O → List O → (O → O → Prop) → Prop} {r : V → List V → Hp → VK → Prop}
theorem e_mu2 (i : Nat) (pa : PlainAttrs "list") (slot : Slot "list" name id) (hty : typeOf (.builtin id) = pure (.type "method_descriptor")) (hm : MtR X id r) (hl : LMu X.K r lm) (hk : PE X k (tE X.K Z wk)) (hix : PlainIx k) (ha : PA X (e :: es) (tADs X.K Z (exs ws))) (hN : X.N[i]? = some x := by rfl) (hv : Vis X.env.scope x := by first | exact Or.inl rfl | exact Or.inr (Or.inl rfl) | exact Or.inr (Or.inr rfl)) (hd : (x == ("__debug__" : Str)) = false := by decide)
    (hcd : (x == ("__classdict__" : Str)) = false := by decide) (hst : starEach (e :: es) X.env = (false, eval e X.env) :: starEach es X.env := by rfl) (hpl : (backTo cpos (starEach es X.env)).any (·.1) = false := by rfl) (hline : (apos.endLine == cpos.line) = true := by rfl)
    (hfw : ((backTo cpos (starEach (e :: es) X.env)).all (fun x => !x.1) && (backToKw cpos (keywordEach [] X.env)).all (fun x => x.1.isSome) && decide ((e :: es).length + ([] : List Keyword).length + (if ([] : List Keyword).isEmpty then 0 else 1) < 30)) = true := by rfl) :
    PE X (.Call (.Attribute (.Subscript (.Name x pos) k p2) name apos) (e :: es) [] cpos) (tE X.K Z (wMu2 i wk ws lm)) :=
  pe_to (pe_bm pa slot hty hm (pe_ix ix_seq (pe_var hN hv hd hcd) hk hix) ha rfl hfw hline hst hpl) fun σ H Q q => mu2_glue hl q
end
end Pt
namespace Pt
open PySem PySem.Spec L2
open PyProof.Rows (IsTup)
def TopK (P : Program) (w : World) (h : Heap) (u : Value) (d : PyData) : Prop := ∀ (A : Around) (E : Value → Shared → Prop) (s : Shared) (Q : Value → Shared → Prop), A.guards = some [] → A.units + (d.depth + 1) < cLine → (∀ b o, h.get? b = some o → s.heap.get? b = some o) →
  (∀ h' t tk, (∀ b o, s.heap.get? b = some o → h'.get? b = some o) → Q (.str d.shown t) { s with heap := h', toks := tk }) → wpAny (model P w) A (call (.builtin "repr") [u]) Q E s
structure RK (P : Program) (w : World) (h : Heap) (u : Value) (d : PyData) : Prop where
  rd : ∃ as, Reads h u d as
  rk : ∃ bs, ReadAtMost h d.depth bs ∧ ReprK P w bs h d.depth u d.shown
  top : TopK P w h u d
structure RKs (P : Program) (w : World) (h : Heap) (us : List Value) (ds : List PyData) : Prop where
  rd : ∃ as, ReadsAll h us ds as
  rk : ∃ bs, ReadAtMost h (PyData.depthAll ds) bs ∧ ReprAllK P w bs h (PyData.depthAll ds) us (PyData.shownAll ds)
section
variable {P : Program} {w : World} {h : Heap}
theorem RKs.nil : RKs P w h [] [] := ⟨⟨[], .nil⟩, [], fun _ z => (List.not_mem_nil z).elim, by simp only [PyData.shownAll]; exact .nil⟩
theorem RKs.cons {u : Value} {us : List Value} {d : PyData} {ds : List PyData} (a : RK P w h u d) (b : RKs P w h us ds) : RKs P w h (u :: us) (d :: ds) := by
  obtain ⟨⟨a1, r1⟩, ⟨b1, hb1, k1⟩, _⟩ := a
  obtain ⟨⟨a2, r2⟩, ⟨b2, hb2, k2⟩⟩ := b
  refine ⟨⟨_, .cons r1 r2⟩, b1 ++ b2, ?_, ?_⟩
  · simp only [PyData.depthAll]
    exact (hb1.mono (Nat.le_max_left _ _)).append (hb2.mono (Nat.le_max_right _ _))
  · simp only [PyData.depthAll, PyData.shownAll]
    exact .cons ((k1.more fun b hb => List.mem_append_left _ hb).level_le (Nat.le_max_left _ _)) (k2.more_le (fun b hb => List.mem_append_right _ hb) (Nat.le_max_right _ _))
theorem RK.non : RK P w h .none .none := ⟨⟨[], .none⟩, ⟨[], fun _ z => (List.not_mem_nil z).elim, by simp only [PyData.shown]; exact .of_is ReprIs.none _ _ _⟩, fun A E s Q _ _ _ q => by
  simp only [PyData.shown] at q
  exact PySem.P.repr_of_none (q _ _ _ fun _ _ e => e)⟩
theorem RK.bool (b : Bool) : RK P w h (.bool b) (.bool b) := ⟨⟨[], .bool b⟩, ⟨[], fun _ z => (List.not_mem_nil z).elim, by simp only [PyData.shown]; exact .of_is (ReprIs.bool b) _ _ _⟩, fun A E s Q _ _ _ q => by
  simp only [PyData.shown] at q
  exact PySem.P.repr_of_bool (q _ _ _ fun _ _ e => e)⟩
theorem RK.int {i : Int} {t : Tok} (hs : i.natAbs.log2 < 1920) : RK P w h (.int i t) (.int i) := ⟨⟨[], .int i t⟩, ⟨[], fun _ z => (List.not_mem_nil z).elim, by simp only [PyData.shown]; exact .of_is (ReprIs.int t hs) _ _ _⟩, fun A E s Q _ _ _ q => by
  simp only [PyData.shown] at q
  exact PySem.P.repr_of_int hs (q _ _ _ fun _ _ e => e)⟩
theorem RK.str {x : Str} {t : Tok} (hz : (PyData.shown (.str x)).length ≤ sizeLine) : RK P w h (.str x t) (.str x) := by
  simp only [PyData.shown] at hz
  exact ⟨⟨[], .str x t⟩, ⟨[], fun _ z => (List.not_mem_nil z).elim, by simp only [PyData.shown]; exact .of_is (ReprIs.str x t hz) _ _ _⟩, fun A E s Q _ _ _ q => by
    simp only [PyData.shown] at q
    exact PySem.P.repr_of_str (q _ _ _ fun _ _ e => e) hz⟩
theorem RK.list {a : Addr} {o : Obj} {us : List Value} {n : Nat} {ds : List PyData} (h1 : h.get? a = some o) (h2 : o.cls = .type "list") (h3 : o.data = .seq us.toArray n) (r : RKs P w h us ds) (hz : (PyData.shown (.list ds)).length ≤ sizeLine) : RK P w h (.ref a) (.list ds) := by
  obtain ⟨⟨as, ra⟩, bs, hb, hk⟩ := r
  have rr : Reads h (.ref a) (.list ds) (a :: as) := .list h1 h2 h3 ra
  have na : a ∉ bs := not_mem_of_deeper rr (by simp only [PyData.depth]; omega) hb
  have hz' : (listText (PyData.shownAll ds)).length ≤ sizeLine := by simpa only [PyData.shown] using hz
  refine ⟨⟨_, rr⟩, ⟨a :: bs, ReadAtMost.cons rr (by simp only [PyData.depth]; omega) hb, ?_⟩, fun A E s Q hg hu hk0 q => ?_⟩
  · simp only [PyData.depth, PyData.shown]
    cases us with
    | nil =>
      cases ra
      simp only [PyData.shownAll, listText_nil]
      exact ReprK.listEmpty h1 h2 h3
    | cons x l => exact ReprK.list h1 h2 h3 na (by simpa using hk.length_eq) fun i y e => hk.item i y (by simpa using e)
  · simp only [PyData.depth] at hu
    simp only [PyData.shown] at q
    refine call_repr_slot (by omega) ⟨o, hk0 _ _ h1, h2⟩ F.slot_list_repr.toG ?_
    cases us with
    | nil =>
      cases ra
      simp only [PyData.shownAll, listText_nil] at q
      exact call_list_repr_empty ⟨o, hk0 _ _ h1, h2⟩ (hk0 _ _ h1) h3 ⟨_, _, rfl, q s.heap _ _ fun _ _ e => e⟩
    | cons x l =>
      exact call_list_reprK h1 h2 h3 na (by simpa using hk.length_eq) (fun i y e => hk.item i y (by simpa using e)) hg (fun b _ => Clear.nil b) (by show A.units + 1 + (PyData.depthAll ds + 1) < cLine; omega) hk0 (fun h' u tk kk => ⟨_, _, rfl, q h' u tk kk⟩) hz'
theorem RK.tuple {a : Addr} {o : Obj} {us : List Value} {n : Nat} {ds : List PyData} (h1 : h.get? a = some o) (h2 : o.cls = .type "tuple") (h3 : o.data = .seq us.toArray n) (r : RKs P w h us ds) (hz : (PyData.shown (.tuple ds)).length ≤ sizeLine) : RK P w h (.ref a) (.tuple ds) := by
  obtain ⟨⟨as, ra⟩, bs, hb, hk⟩ := r
  have rr : Reads h (.ref a) (.tuple ds) as := .tuple h1 h2 h3 ra
  have na : a ∉ bs := not_mem_of_deeper rr (by simp only [PyData.depth]; omega) hb
  have hz' : (tupleText (PyData.shownAll ds)).length ≤ sizeLine := by simpa only [PyData.shown] using hz
  refine ⟨⟨_, rr⟩, ⟨a :: bs, ReadAtMost.cons rr (by simp only [PyData.depth]; omega) hb, ?_⟩, fun A E s Q hg hu hk0 q => ?_⟩
  · simp only [PyData.depth, PyData.shown]
    exact ReprK.tuple h1 h2 h3 na hk
  · simp only [PyData.depth] at hu
    simp only [PyData.shown] at q
    refine call_repr_slot (by omega) ⟨o, hk0 _ _ h1, h2⟩ F.slot_tuple_repr ?_
    exact call_tuple_reprK h1 h2 h3 na hk hg (fun b _ => Clear.nil b) (by show A.units + 1 + (PyData.depthAll ds + 1) < cLine; omega) hk0 (fun h' u tk kk => ⟨_, _, rfl, q h' u tk kk⟩) hz'
theorem RK.dict {a : Addr} {o : Obj} {es : Array DictEntry} {n : Nat} {kvs : List (PyData × PyData)} (h1 : h.get? a = some o) (h2 : o.cls = .type "dict") (h3 : o.data = .dict es n) (hsys : (a == sysModules) = false) (r1 : RKs P w h (es.toList.map (·.key)) (kvs.map (·.1))) (r2 : RKs P w h (es.toList.map (·.val)) (kvs.map (·.2))) (hz : (PyData.shown (.dict kvs)).length ≤ sizeLine) : RK P w h (.ref a) (.dict kvs) := by
  obtain ⟨⟨as1, ra1⟩, bs1, hb1, hk1⟩ := r1
  obtain ⟨⟨as2, ra2⟩, bs2, hb2, hk2⟩ := r2
  have rr : Reads h (.ref a) (.dict kvs) (a :: as1 ++ as2) := .dict h1 h2 h3 ra1 ra2
  have hb : ReadAtMost h (PyData.depthKv kvs) (bs1 ++ bs2) := (hb1.mono (PyData.depthAll_keys_le kvs)).append (hb2.mono (PyData.depthAll_vals_le kvs))
  have na : a ∉ bs1 ++ bs2 := not_mem_of_deeper rr (by simp only [PyData.depth]; omega) hb
  have hz' : (dictText (PyData.shownKv kvs)).length ≤ sizeLine := by simpa only [PyData.shown] using hz
  have en : ReprEntriesK P w (bs1 ++ bs2) h (PyData.depthKv kvs) es.toList (PyData.shownKv kvs) := by
    rw [PyData.shownKv_eq]
    exact ReprEntriesK.of_two es.toList _ _ (hk1.more_le (fun b hb => List.mem_append_left _ hb) (PyData.depthAll_keys_le kvs)) (hk2.more_le (fun b hb => List.mem_append_right _ hb) (PyData.depthAll_vals_le kvs))
  refine ⟨⟨_, rr⟩, ⟨a :: (bs1 ++ bs2), ReadAtMost.cons rr (by simp only [PyData.depth]; omega) hb, ?_⟩, fun A E s Q hg hu hk0 q => ?_⟩
  · simp only [PyData.depth, PyData.shown]
    exact ReprK.dict h1 h2 h3 hsys na en
  · simp only [PyData.depth] at hu
    simp only [PyData.shown] at q
    refine call_repr_slot (by omega) ⟨o, hk0 _ _ h1, h2⟩ F.slot_dict_repr ?_
    exact call_dict_reprK h1 h2 h3 hsys na en hg (fun b _ => Clear.nil b) (by show A.units + 1 + (PyData.depthKv kvs + 1) < cLine; omega) hk0 (fun h' u tk kk => ⟨_, _, rfl, q h' u tk kk⟩) hz'
end
def keyP : PyData → Bool
  | .int _ => true
  | .str _ => true
  | _ => false
mutual
def okP : PyData → Bool
  | .none => true
  | .bool _ => true
  | .int i => decide (i.natAbs.log2 < 1920)
  | .str x => decide ((PyData.shown (.str x)).length ≤ szMax)
  | .list ds => okPs ds && decide ((PyData.shown (.list ds)).length ≤ szMax)
  | .tuple ds => okPs ds && decide ((PyData.shown (.tuple ds)).length ≤ szMax)
  | .dict kvs => okKv kvs && decide ((PyData.shown (.dict kvs)).length ≤ szMax)
def okPs : List PyData → Bool
  | [] => true
  | d :: ds => okP d && okPs ds
def okKv : List (PyData × PyData) → Bool
  | [] => true
  | (k, v) :: r => keyP k && okP k && okP v && okKv r
end
theorem okP_list {ds : List PyData} (h : okP (.list ds) = true) : okPs ds = true ∧ (PyData.shown (.list ds)).length ≤ szMax := by
  simp only [okP, Bool.and_eq_true, decide_eq_true_eq] at h
  exact h
theorem okP_tuple {ds : List PyData} (h : okP (.tuple ds) = true) : okPs ds = true ∧ (PyData.shown (.tuple ds)).length ≤ szMax := by
  simp only [okP, Bool.and_eq_true, decide_eq_true_eq] at h
  exact h
theorem okP_dict {ds : List (PyData × PyData)} (h : okP (.dict ds) = true) : okKv ds = true ∧ (PyData.shown (.dict ds)).length ≤ szMax := by
  simp only [okP, Bool.and_eq_true, decide_eq_true_eq] at h
  exact h
theorem okPs_cons {d : PyData} {ds : List PyData} (h : okPs (d :: ds) = true) : okP d = true ∧ okPs ds = true := by
  simp only [okPs, Bool.and_eq_true] at h
  exact h
section
variable {X : Cx} {pins : List (Addr × Obj)} {σ : L2.St} {B H : Hp} {s : Shared}
theorem okKv_cons {k v : PyData} {ds : List (PyData × PyData)} (h : okKv ((k, v) :: ds) = true) : keyP k = true ∧ okP k = true ∧ okP v = true ∧ okKv ds = true := by
  simp only [okKv, Bool.and_eq_true] at h
  exact ⟨h.1.1.1, h.1.1.2, h.1.2, h.2⟩
theorem key_rk {h : Heap} {k k2 : Key} {u : Value} (h1 : (mixKind X.prog X.w).is k2 u = true) (e : k = k2) (ok : okP (kD k) = true) : RK X.prog X.w h u (kD k) := by
  subst e
  have rk : RelV (kV k) u := relV_key h1
  cases k with
  | inl i =>
    obtain ⟨t, rfl⟩ := rk
    simp only [kD, okP, decide_eq_true_eq] at ok
    exact .int ok
  | inr x =>
    obtain ⟨t, rfl⟩ := rk
    simp only [kD, okP, decide_eq_true_eq] at ok
    exact .str (szOk ok)
mutual
theorem RF.rk (I : L2.Inv X pins σ H s) (sb : Sub B H) : ∀ {d : PyData} {v : V}, RF X.K B v d → ∀ {u : Value}, RelV v u → okP d = true → RK X.prog X.w s.heap u d
  | _, _, .non => by
    intro r _
    obtain rfl := (show _ = Value.none from r)
    exact .non
  | _, _, .bl _ => by
    intro r _
    obtain rfl := (show _ = Value.bool _ from r)
    exact .bool _
  | _, _, .int _ => by
    intro r ok
    obtain ⟨t, rfl⟩ := r
    simp only [okP, decide_eq_true_eq] at ok
    exact .int ok
  | _, _, .str _ => by
    intro r ok
    obtain ⟨t, rfl⟩ := r
    simp only [okP, decide_eq_true_eq] at ok
    exact .str (szOk ok)
  | _, _, .lst e rs => by
    intro r ok
    obtain rfl := (show _ = Value.ref _ from r)
    obtain ⟨its, rv, ⟨o, n, h1, h2, _, h3⟩, _⟩ := I.list (SqL.of (sb _ _ e))
    obtain ⟨k1, k2⟩ := okP_list ok
    exact .list h1 h2 h3 (RFs.rk I sb rs rv k1) (szOk k2)
  | _, _, .tup e rs => by
    intro r ok
    obtain rfl := (show _ = Value.ref _ from r)
    obtain ⟨its, rv, ⟨o, h1, h2, n, h3⟩, _⟩ := I.tuple (sb.sqT e)
    obtain ⟨k1, k2⟩ := okP_tuple ok
    exact .tuple h1 h2 h3 (RFs.rk I sb rs rv k1) (szOk k2)
  | _, _, .dic e rs => by
    intro r ok
    obtain rfl := (show _ = Value.ref _ from r)
    obtain ⟨_, hsys, us, kv, o, es, ep, h1, h2, h3, _, h5, _⟩ := I.hok _ _ (sb _ _ e)
    obtain ⟨k1, k2⟩ := okP_dict ok
    obtain ⟨a1, a2⟩ := RFd.rk I sb rs h5 kv k1
    exact .dict h1 h2.1 h3 hsys a1 a2 (szOk k2)
  | _, _, .lm e d rs => fun _ ok => nomatch (okKv_cons (okP_dict ok).1).1
theorem RFs.rk (I : L2.Inv X pins σ H s) (sb : Sub B H) : ∀ {ds : List PyData} {vs : List V}, RFs X.K B vs ds → ∀ {us : List Value}, Vals vs us → okPs ds = true → RKs X.prog X.w s.heap us ds
  | _, _, .nil => by
    intro rv _
    cases rv
    exact .nil
  | _, _, .cons r t => by
    intro rv ok
    cases rv with
    | cons rv tv =>
      obtain ⟨k1, k2⟩ := okPs_cons ok
      exact .cons (RF.rk I sb r rv k1) (RFs.rk I sb t tv k2)
theorem RFd.rk (I : L2.Inv X pins σ H s) (sb : Sub B H) : ∀ {ds : List (PyData × PyData)} {kvs : List (Key × V)}, RFd X.K B kvs ds → ∀ {es : List DictEntry} {us : List (Key × Value)}, Pairs (mixKind X.prog X.w) es us → KV kvs us → okKv ds = true → RKs X.prog X.w s.heap (es.map (·.key)) (ds.map (·.1)) ∧ RKs X.prog X.w s.heap (es.map (·.val)) (ds.map (·.2))
  | _, _, .nil => by
    intro p q _
    cases q
    cases p
    exact ⟨.nil, .nil⟩
  | _, _, .cons (k := k) r t3 => by
    intro p q ok
    cases q with
    | cons h3 t2 =>
      cases p with
      | cons h1 h2 t1 =>
        obtain ⟨_, ok1, ok2, ok3⟩ := okKv_cons ok
        obtain ⟨a, b⟩ := RFd.rk I sb t3 t1 t2 ok3
        refine ⟨.cons (key_rk h1 h3.1 ok1) a, .cons (RF.rk I sb r ?_ ok2) b⟩
        show RelV _ (DictEntry.val _)
        rw [h2]
        exact h3.2
end
mutual
def plainO : O → Bool
  | .fz _ => true
  | .lf _ => true
  | .df _ => true
  | .ol xs => plainOs xs
  | .ot xs => plainOs xs
  | .tn _ => true
  | _ => false
def plainOs : List O → Bool
  | [] => true
  | x :: xs => plainO x && plainOs xs
end
mutual
theorem RO.rk (I : L2.Inv X pins σ H s) (sb : Sub B H) : ∀ {x : O} {v : V} {f : List Addr}, RO X.K B H v x f → ∀ {u : Value}, RelV v u → plainO x = true → okP (toP x) = true → RK X.prog X.w s.heap u (toP x)
  | _, _, _, .fz r => by
    intro rv _ ok
    exact RF.rk I sb r rv ok
  | _, _, _, .dl _ _ _ => by
    intro _ p _
    cases p
  | _, _, _, .tn e _ rs => by
    intro rv _ ok
    exact RF.rk I sb (.tup e rs) rv ok
  | _, _, _, .lf e rs => by
    intro r _ ok
    obtain rfl := (show _ = Value.ref _ from r)
    obtain ⟨its, rv, ⟨o, n, h1, h2, _, h3⟩, _⟩ := I.list (SqL.of e)
    obtain ⟨k1, k2⟩ := okP_list ok
    exact .list h1 h2 h3 (RFs.rk I sb rs rv k1) (szOk k2)
  | _, _, _, .df e q rs => by
    intro r _ ok
    obtain rfl := (show _ = Value.ref _ from r)
    obtain ⟨_, hsys, us, kv, o, es, ep, h1, h2, h3, _, h5, _⟩ := I.hok _ _ e
    obtain ⟨k1, k2⟩ := okP_dict ok
    obtain ⟨a1, a2⟩ := RFd.rk I sb (RFd.of q rs) h5 kv k1
    exact .dict h1 h2.1 h3 hsys a1 a2 (szOk k2)
  | _, _, _, .ol e rs => by
    intro r p ok
    obtain rfl := (show _ = Value.ref _ from r)
    obtain ⟨its, rv, ⟨o, n, h1, h2, _, h3⟩, _⟩ := I.list (SqL.of e)
    obtain ⟨k1, k2⟩ := okP_list ok
    exact .list h1 h2 h3 (ROs.rk I sb rs rv p k1) (szOk k2)
  | _, _, _, .ot e rs => by
    intro r p ok
    obtain rfl := (show _ = Value.ref _ from r)
    obtain ⟨its, rv, ⟨o, h1, h2, n, h3⟩, _⟩ := I.tuple (SqT.of (sb _ _ e))
    obtain ⟨k1, k2⟩ := okP_tuple ok
    exact .tuple h1 h2 h3 (ROs.rk I sb rs rv p k1) (szOk k2)
  | _, _, _, .od .. => by
    intro _ p _
    exact nomatch p
  | _, _, _, .oi .. => by
    intro _ p _
    exact nomatch p
  | _, _, _, .dt .. => by
    intro _ p _
    exact nomatch p
  | _, _, _, .dq .. => by
    intro _ p _
    exact nomatch p
  | _, _, _, .dn .. => by
    intro _ p _
    exact nomatch p
  | _, _, _, .dz .. => by
    intro _ p _
    exact nomatch p
  | _, _, _, .fo .. => by
    intro _ p _
    exact nomatch p
  | _, _, _, .fl .. => by
    intro _ p _
    exact nomatch p
  | _, _, _, .al => by
    intro _ p _
    exact nomatch p
  | _, _, _, .lb .. => by
    intro _ p _
    exact nomatch p
  | _, _, _, .exn .. => by
    intro _ p _
    exact nomatch p
  | _, _, _, .scr .. => by
    intro _ p _
    exact nomatch p
  | _, _, _, .hid => by
    intro _ p _
    exact nomatch p
theorem ROs.rk (I : L2.Inv X pins σ H s) (sb : Sub B H) : ∀ {xs : List O} {vs : List V} {f : List Addr}, ROs X.K B H vs xs f → ∀ {us : List Value}, Vals vs us → plainOs xs = true → okPs (toPs xs) = true → RKs X.prog X.w s.heap us (toPs xs)
  | _, _, _, .nil => by
    intro rv _ _
    cases rv
    exact .nil
  | _, _, _, .cons r t => by
    intro rv p ok
    cases rv with
    | cons rv tv =>
      obtain ⟨k1, k2⟩ := okPs_cons ok
      have p' := Bool.and_eq_true_iff.mp (show (plainO _ && plainOs _) = true from p)
      exact .cons (RO.rk I sb r rv p'.1 k1) (ROs.rk I sb t tv p'.2 k2)
end
end
def oRepr : List O → (O → Prop) → Prop
  | [x], R => plainO x = true ∧ okP (toP x) = true ∧ (toP x).depth ≤ 40 ∧ R (.fz (.str (toP x).shown))
  | _, _ => False
def rRepr (K : PySem.W.Frag) : List V → Hp → VK → Prop := fun vs H Q => ∃ (B : Hp) (v : V) (x : O) (f : List Addr), vs = [v] ∧ Sub B H ∧ RO K B H v x f ∧ plainO x = true ∧ okP (toP x) = true ∧ (toP x).depth ≤ 40 ∧ Q (.str (toP x).shown) H
theorem call_repr {X : Cx} (gd : X.A.guards = some []) (hu : X.A.units + 64 < cLine) : CallR X (.builtin "repr") (rRepr X.K) := fun pins s σ H xs us Q I r h => by
  obtain ⟨B, v, x, f, rfl, sb, ro, p, ok, hd, q⟩ := h
  obtain ⟨u, rfl, rv⟩ := vals1 r
  exact (RO.rk I sb ro rv p ok).top X.A X.xe s _ gd (by omega) (fun _ _ e => e) fun h' t tk kk => ⟨.str _, H, I.kept kk, ⟨t, rfl⟩, q⟩
theorem rd_repr {K : PySem.W.Frag} : Rd K (rRepr K) oRepr := fun B H vs xs f R Q s rr h q => by
  unfold oRepr at h
  split at h
  · obtain ⟨p, ok, hd, h⟩ := h
    obtain ⟨v, g, rfl, r⟩ := ros1 rr
    exact ⟨B, v, _, g, rfl, s, r, p, ok, hd, q _ h _ B H (Out.here (.str _) s)⟩
  · exact h.elim
end Pt
namespace Pt
open PySem PySem.Spec L2
open PyProof.Rows (IsTup)
def dicT : List (PyData × PyData) → String
  | [(.none, _)] => "list"
  | _ => "dict"
theorem dicT_or (kvs : List (PyData × PyData)) : dicT kvs = "dict" ∨ dicT kvs = "list" := by
  unfold dicT
  split
  · exact .inr rfl
  · exact .inl rfl
def tyO : O → Option String
  | .fz .none => some "NoneType"
  | .fz (.bool _) => some "bool"
  | .fz (.int _) => some "int"
  | .fz (.str _) => some "str"
  | .fz (.list _) => some "list"
  | .fz (.tuple _) => some "tuple"
  | .fz (.dict kvs) => some (dicT kvs)
  | .ol _ => some "list"
  | .lf _ => some "list"
  | .ot _ => some "tuple"
  | .od _ => some "dict"
  | .df _ => some "dict"
  | _ => none
def isSub (t T : String) : Bool := t == T || (t == "bool" && T == "int")
def tyNs : List String := ["NoneType", "bool", "int", "str", "list", "tuple", "dict"]
def TyN (T : String) : Prop := ∀ t ∈ tyNs, kitB t T = some (isSub t T)
theorem tyN_int : TyN "int" := by unfold TyN tyNs; decide +kernel
theorem tyN_bool : TyN "bool" := by unfold TyN tyNs; decide +kernel
theorem tyN_tuple : TyN "tuple" := by unfold TyN tyNs; decide +kernel
section
variable {K : PySem.W.Frag} {B H : Hp} {v : V} {x : O} {f : List Addr} {d : PyData}
theorem tyX_lst {H : Hp} {a : Addr} {vs : List V} (h : H a = some (.lst vs)) : TyX K H (.ref a) (.type "list") := .base (.lst h)
theorem RF.ty (s : Sub B H) (r : RF K B v d) : ∃ t ∈ tyNs, tyO (.fz d) = some t ∧ TyX K H v (.type t) := by
  cases r with
  | non => exact ⟨_, by decide, rfl, .base .non⟩
  | bl b => exact ⟨_, by decide, rfl, .base (.bl b)⟩
  | int i => exact ⟨_, by decide, rfl, .base (.int i)⟩
  | str x => exact ⟨_, by decide, rfl, .base (.str x)⟩
  | lst e _ => exact ⟨_, by decide, rfl, tyX_lst (s _ _ e)⟩
  | tup e _ =>
    refine ⟨_, by decide, rfl, ?_⟩
    rcases s.sqT e with (h | ⟨o, h⟩) | ⟨o, its, n, hk, hc, _⟩
    · exact .base (.tup h)
    · exact .fTuple h
    · exact .kTuple hk hc
  | dic e r =>
    refine ⟨"dict", by decide, ?_, .base (.dK (s _ _ e))⟩
    cases r with
    | nil => rfl
    | @cons k => cases k <;> rfl
  | lm e _ _ => exact ⟨"list", by decide, rfl, tyX_lst (s _ _ e)⟩
theorem RO.ty {t : String} (s : Sub B H) (r : RO K B H v x f) (h : tyO x = some t) : t ∈ tyNs ∧ TyX K H v (.type t) := by
  cases r with
  | fz r =>
    obtain ⟨t', h1, h2, h3⟩ := r.ty s
    rw [h] at h2
    cases h2
    exact ⟨h1, h3⟩
  | hid => cases h
  | scr _ => cases h
  | tn _ _ _ => cases h
  | dl _ _ _ => cases h
  | dt _ _ _ => cases h
  | dq _ _ _ => cases h
  | dn _ _ _ _ => cases h
  | dz _ _ _ _ => cases h
  | fo _ _ _ _ => cases h
  | fl _ _ => cases h
  | al => cases h
  | lb _ => cases h
  | lf e _ => cases h; exact ⟨by decide, tyX_lst e⟩
  | df e _ _ => cases h; exact ⟨by decide, .base (.dK e)⟩
  | ol e _ => cases h; exact ⟨by decide, tyX_lst e⟩
  | ot e _ => cases h; exact ⟨by decide, .base (.tup (s _ _ e))⟩
  | od e _ _ => cases h; exact ⟨by decide, .base (.dK e)⟩
  | oi _ _ _ _ => cases h
  | exn _ _ _ => cases h
end
def oIsi (T : String) : List O → (O → Prop) → Prop
  | [x], R => ∃ t, tyO x = some t ∧ R (.fz (.bool (isSub t T)))
  | _, _ => False
def rIsi1 (K : PySem.W.Frag) (T : String) : List V → Hp → VK → Prop := fun vs H Q => match vs with
  | [v] => rIsi K [v, .ty T] H Q
  | _ => False
theorem rd_isi {K : PySem.W.Frag} {T : String} (hT : TyN T) : Rd K (rIsi1 K T) (oIsi T) := fun B H vs xs f R Q s rr h q => by
  unfold oIsi at h
  split at h
  · obtain ⟨t, h1, h2⟩ := h
    obtain ⟨v, g, rfl, r⟩ := ros1 rr
    obtain ⟨h3, h4⟩ := r.ty s h1
    exact ⟨v, _, _, _, _, rfl, .ty T, h4, kit_ty (hT t h3), q _ h2 _ B H (Out.here (.bl _) s)⟩
  · exact h.elim
section
variable {X : Cx} {Z : Ent} {e : Expr} {p p2 pos : Pos} {a1 : AD} {y : Str} {T : String}
theorem pe_tyn {y : Str} {p : Pos} {T : String} (hg : Gl X y) (hm : X.mg y = none) (hv : bootBuiltins y = some (.type T)) (hn : y ≠ "__name__" := by decide) (hdb : (y == ("__debug__" : Str)) = false := by decide) : PE X (.Name y p) (tC (.ty T)) :=
  ⟨fun pins s σ H Q I h => ld_blt I hg hm hv ⟨.ty T, H, I, rfl, h⟩ hn hdb⟩
theorem e_isi (hT : TyN T) (ha : PE X e (tAD X.K Z a1)) (hg : Gl X "isinstance") (hm : X.mg "isinstance" = none) (hg2 : Gl X y) (hm2 : X.mg y = none) (hv : bootBuiltins y = some (.type T)) (hn : y ≠ "__name__" := by decide) (hdb : (y == ("__debug__" : Str)) = false := by decide)
    (h1 : starEach [e, .Name y p2] X.env = (false, eval e X.env) :: starEach [.Name y p2] X.env := by rfl) (h2 : starEach [.Name y p2] X.env = (false, eval (.Name y p2) X.env) :: starEach [] X.env := by rfl) (h3 : (backTo pos (starEach [.Name y p2] X.env)).any (·.1) = false := by rfl) :
    PE X (.Call (.Name "isinstance" p) [e, .Name y p2] [] pos) (tE X.K Z (wRd [a1] (oIsi T))) :=
  pe_to (pe_callB call_isi hg hm rfl (pa_cons ha (pa_cons (pe_tyn hg2 hm2 hv hn hdb) pa_nil h2) h1) (by decide) (by decide) h1 h3) fun σ H Q q => by
    exact rd_glue (rd_isi hT) q
end
def wCh (w1 w2 w3 : WE) (od od' : List O → (O → Prop) → Prop) : WE := fun ρ R => w1 ρ fun d1 ρ1 => asF d1 fun f1 => w2 ρ1 fun d2 ρ2 => asF d2 fun f2 => od [.fz f1, .fz f2] fun z => asB z fun k => br k (w3 ρ2 fun d3 ρ3 => asF d3 fun f3 => od' [.fz f2, .fz f3] fun z2 => R z2 ρ3) (R (.fz (.bool false)) ρ2)
section
variable {X : Cx} {Z : Ent} {a b c : Expr} {pos : Pos} {w1 w2 w3 : WE} {op op' : CmpOp} {r r' : R2} {od od' : List O → (O → Prop) → Prop}
theorem ch_ok (hr : Rd X.K (r2L r) od) (hr' : Rd X.K (r2L r') od') {σ : St} {H : Hp} {Q : VK} (h : tE X.K Z (wCh w1 w2 w3 od od') σ H Q) : tChain r r' (tE X.K Z w1) (tE X.K Z w2) (tE X.K Z w3) σ H Q := by
  obtain ⟨B, ρ, fp, R, k, h, q⟩ := h
  refine ⟨B, ρ, fp, _, k, h, fun d1 ρ1 h1 v1 H1 B1 fp1 n1 k1 => ?_⟩
  obtain ⟨f1, rfl, h1⟩ := asF_iff h1
  have r1 := k1.headF
  obtain ⟨g1, k1', s1⟩ := k1.drop1
  refine ⟨B1, ρ1, g1, _, k1', h1, fun d2 ρ2 h2 v2 H2 B2 fp2 n2 k2 => ?_⟩
  obtain ⟨f2, rfl, h2⟩ := asF_iff h2
  have r2 := k2.headF
  obtain ⟨g2, k2', s2⟩ := k2.drop1
  have n12 := ((n1.less s1).trans n2).less s2
  refine hr B2 H2 [v1, v2] [.fz f1, .fz f2] ([] ++ ([] ++ [])) _ _ k2'.sub (.cons (.fz (r1.mono n2.bsub)) (.cons (.fz r2) .nil)) h2 fun z hz u B3 H3 o => ?_
  obtain ⟨kb, rfl, hb⟩ := asB_iff hz
  obtain ⟨g3, k3, n3⟩ := o.ok k2'
  have r3 := k3.headF
  obtain ⟨g3', k3', s3⟩ := k3.drop1
  have n123 := (n12.trans n3).less s3
  cases r3
  refine ⟨kb, rfl, ?_⟩
  cases kb with
  | false =>
    rw [if_neg Bool.false_ne_true]
    exact q _ ρ2 hb _ H3 B3 _ n123 (k3'.addF (.bl false))
  | true =>
    rw [if_pos rfl]
    refine ⟨B3, ρ2, g3', _, k3', hb, fun d3 ρ3 h3 v3 H4 B4 fp4 n4 k4 => ?_⟩
    obtain ⟨f3, rfl, h3⟩ := asF_iff h3
    have r4 := k4.headF
    obtain ⟨g4, k4', s4⟩ := k4.drop1
    refine hr' B4 H4 [v2, v3] [.fz f2, .fz f3] ([] ++ ([] ++ [])) _ _ k4'.sub (.cons (.fz ((r2.mono n3.bsub).mono n4.bsub)) (.cons (.fz r4) .nil)) h3 fun z2 hz2 u2 B5 H5 o2 => ?_
    obtain ⟨g5, k5, n5⟩ := o2.ok k4'
    exact q _ ρ3 hz2 _ H5 B5 _ (((n123.trans n4).less s4).trans n5) k5
theorem e_chain (ho : OpR X (compareOp op) r) (hr : Rd X.K (r2L r) od) (ho' : OpR X (compareOp op') r') (hr' : Rd X.K (r2L r') od') (ha : PE X a (tE X.K Z w1)) (hb : PE X b (tE X.K Z w2)) (hc : PE X c (tE X.K Z w3)) (hm : lastMarks [op, op'] [b, c] = false := by with_unfolding_all rfl) :
    PE X (.Compare a [op, op'] [b, c] pos) (tE X.K Z (wCh w1 w2 w3 od od')) := pe_to (pe_chain ho ho' ha hb hc hm) fun σ H Q q => ch_ok hr hr' q
end
def flatD : PyData → Bool
  | .none => true
  | .bool _ => true
  | .int _ => true
  | .str _ => true
  | _ => false
def vS : O → Option (List PyData)
  | .fz (.list ds) => some ds
  | .fz (.tuple ds) => some ds
  | .lf ds => some ds
  | .ol xs => unf xs
  | .ot xs => unf xs
  | _ => none
def inD (d : PyData) (ds : List PyData) : Bool := ds.any fun z => PyData.eqv z d
def oIn (neg : Bool) : List O → (O → Prop) → Prop
  | [.fz d, y], R => ∃ ds, vS y = some ds ∧ flatD d = true ∧ ds.all flatD = true ∧ R (.fz (.bool (if neg then !inD d ds else inD d ds)))
  | _, _ => False
section
variable {K : PySem.W.Frag} {B H : Hp} {v w : V} {d e : PyData}
theorem RF.flat (r : RF K B v d) (h : flatD d = true) : flatV v = true := by
  cases r with
  | non => rfl
  | bl _ => rfl
  | int _ => rfl
  | str _ => rfl
  | lst _ _ => cases h
  | tup _ _ => cases h
  | dic _ _ => cases h
  | lm _ _ _ => cases h
theorem RF.eqv (r : RF K B v d) (r2 : RF K B w e) (h : flatD d = true) (h2 : flatD e = true) : eqV v w = PyData.eqv d e := by
  cases r with
  | non => cases r2 <;> first | rfl | cases h2
  | bl a => cases r2 <;> first | rfl | cases h2
  | int i => cases r2 <;> first | rfl | cases h2
  | str x => cases r2 <;> first | rfl | cases h2
  | lst _ _ => cases h
  | tup _ _ => cases h
  | dic _ _ => cases h
  | lm _ _ _ => cases h
theorem RFs.flat : ∀ {vs : List V} {ds : List PyData}, RFs K B vs ds → ds.all flatD = true → vs.all flatV = true
  | _, _, .nil, _ => rfl
  | _, _, .cons r t, h => by
    rw [List.all_cons, Bool.and_eq_true] at h
    rw [List.all_cons, r.flat h.1, RFs.flat t h.2]
    rfl
theorem RFs.inD (r : RF K B w e) (h2 : flatD e = true) : ∀ {vs : List V} {ds : List PyData}, RFs K B vs ds → ds.all flatD = true → inV w vs = Pt.inD e ds
  | _, _, .nil, _ => rfl
  | _, _, .cons r1 t, h => by
    rw [List.all_cons, Bool.and_eq_true] at h
    have ih := RFs.inD r h2 t h.2
    unfold inV Pt.inD at *
    rw [List.any_cons, List.any_cons, ih, r1.eqv r h.1 h2]
theorem RO.seq {x : O} {f : List Addr} {ds : List PyData} (s : Sub B H) (r : RO K B H v x f) (h : vS x = some ds) : ∃ p vs, v = .ref p ∧ (SqL K H p vs ∨ SqT K H p vs) ∧ RFs K B vs ds := by
  cases r with
  | fz r =>
    cases r with
    | lst e t => cases h; exact ⟨_, _, rfl, .inl (SqL.of (s _ _ e)), t⟩
    | tup e t => cases h; exact ⟨_, _, rfl, .inr (s.sqT e), t⟩
    | _ => cases h
  | lf e t => cases h; exact ⟨_, _, rfl, .inl (SqL.of e), t⟩
  | ol e t =>
    rw [unf_iff h] at t
    exact ⟨_, _, rfl, .inl (SqL.of e), (ROs.unfz t).1⟩
  | ot e t =>
    rw [unf_iff h] at t
    exact ⟨_, _, rfl, .inr (SqT.of (s _ _ e)), (ROs.unfz t).1⟩
  | _ => cases h
theorem rd_in {neg : Bool} : Rd K (r2L (rIn K neg)) (oIn neg) := fun B H vs xs f R Q s rr h q => by
  unfold oIn at h
  split at h
  · obtain ⟨ds, h1, h2, h3, h4⟩ := h
    obtain ⟨v, w, g1, g2, rfl, r1, r2⟩ := ros2 rr
    cases r1 with
    | fz r1 =>
      obtain ⟨p, vs, rfl, hq, t⟩ := r2.seq s h1
      refine ⟨p, vs, rfl, hq, r1.flat h2, t.flat h3, ?_⟩
      rw [RFs.inD r1 h2 t h3]
      exact q _ h4 _ B H (Out.here (.bl _) s)
  · exact h.elim
end
def asStrs : List PyData → Option (List Str)
  | [] => some []
  | .str x :: r => (asStrs r).map (x :: ·)
  | _ :: _ => none
def wJoin (w w2 : WE) : WE := fun ρ R => w ρ fun d ρ1 => asF d fun f => match f with
  | .str a => w2 ρ1 fun d2 ρ2 => ∃ ds ys, vS d2 = some ds ∧ asStrs ds = some ys ∧ (ys.map (·.length)).sum + ys.length * a.length ≤ szMax ∧ R (.fz (.str (Txt.join a ys))) ρ2
  | _ => False
def sAug (i : Nat) (w : WE) (od : List O → (O → Prop) → Prop) : WS := fun E ρ => notHid (nth ρ i) (w ρ fun d ρ1 => notHid (nth ρ1 i) (od [nth ρ1 i, d] fun z => E.nx (ρ1.set i z)))
def parE : List Nat → List (Option O) → En → En
  | i :: is, some d :: ds, ρ => parE is ds (ρ.set i d)
  | _, _, ρ => ρ
def sPar (is : List Nat) (ws : List WE) : WS := fun E ρ => wADs (ws.map .ex) ρ fun ds ρ1 => E.nx (parE is ds ρ1)
section
variable {X : Cx} {Z : Ent} {ps : List Nat} {i j l : Nat} {x y z : Str} {a b c : Expr} {w w2 w3 : WE} {px py pz pt pos : Pos} {kt k2 : Nat} {pt2 : Pos}
theorem par_tmp {K : PySem.W.Frag} {B H : Hp} {σ : St} {ρ : En} {fp : List Addr} {v1 v2 : V} {d1 d2 : O} (k : Ok K Z B H (some v1 :: some v2 :: σ) (d1 :: d2 :: ρ) fp) (i j : Nat) : ∃ f2, Ok K Z B H ((σ.set i (some v1)).set j (some v2)) ((ρ.set i d1).set j d2) f2 ∧ ∀ a ∈ f2, a ∈ fp := by
  obtain ⟨f1, k1, s1⟩ := k.store (i + 1)
  obtain ⟨f2, k2, s2⟩ := (show Ok K Z B H (some v2 :: σ.set i (some v1)) (d2 :: ρ.set i d1) f1 from k1).store j
  exact ⟨f2, k2, fun a ha => s1 a (s2 a ha)⟩
theorem par_tmp3 {K : PySem.W.Frag} {B H : Hp} {σ : St} {ρ : En} {fp : List Addr} {v1 v2 v3 : V} {d1 d2 d3 : O} (k : Ok K Z B H (some v1 :: some v2 :: some v3 :: σ) (d1 :: d2 :: d3 :: ρ) fp) (i j l : Nat) : ∃ f2, Ok K Z B H (((σ.set i (some v1)).set j (some v2)).set l (some v3)) (((ρ.set i d1).set j d2).set l d3) f2 ∧ ∀ a ∈ f2, a ∈ fp := by
  obtain ⟨f1, k1, s1⟩ := k.store (i + 2)
  obtain ⟨f2, k2, s2⟩ := par_tmp (show Ok K Z B H (some v2 :: some v3 :: σ.set i (some v1)) (d2 :: d3 :: ρ.set i d1) f1 from k1) j l
  exact ⟨f2, k2, fun a ha => s1 a (s2 a ha)⟩
theorem s_par (hc : X.calm = true) (hN : X.N.Nodup) (hi : X.N[i]? = some x) (hj : X.N[j]? = some y) (hij : i ≠ j) (hx : X.env.scope.names.lookup x = some .local) (hy : X.env.scope.names.lookup y = some .local) (hp : ps.contains i = false) (hp2 : ps.contains j = false)
    (ha : PE X a (tE X.K Z w)) (hb : PE X b (tE X.K Z w2)) (hw : swappedStores [.Tuple [.Name x px, .Name y py] kt pt] (.Tuple [a, b] k2 pt2) X.env = pure (some [x, y])) (hs : swapsWithSole [.Tuple [.Name x px, .Name y py] kt pt] (.Tuple [a, b] k2 pt2) pos.line X.env = pure false := by rfl)
    (h1 : starEach [a, b] X.env = (false, eval a X.env) :: starEach [b] X.env := by rfl) (h2 : starEach [b] X.env = (false, eval b X.env) :: starEach [] X.env := by rfl) :
    PS X (.Assign [.Tuple [.Name x px, .Name y py] kt pt] (.Tuple [a, b] k2 pt2) pos) (tS X.K Z ps (sPar [i, j] [w, w2])) :=
  ps_to (ps_par hc hN hi hj hij hx hy (pa_cons ha (pa_cons hb pa_nil h2) h1) hw hs) fun D σ H q => by
    obtain ⟨B, ρ, fp, E, k, h, p⟩ := q
    refine args_ok [.ex w, .ex w2] k h fun ds ρ' h1 vs τ xs H' B' fp' g n k1 => ?_
    cases g with
    | ex g =>
      cases g with
      | ex g =>
        cases g
        obtain ⟨f2, k2, s2⟩ := par_tmp k1 i j
        exact ⟨_, _, rfl, p.nx _ h1 _ H' B' f2 (n.less s2) k2 ((Pin.set hp).trans (Pin.set hp2))⟩
theorem s_par3 (hc : X.calm = true) (hN : X.N.Nodup) (hi : X.N[i]? = some x) (hj : X.N[j]? = some y) (hl : X.N[l]? = some z) (hij : i ≠ j) (hil : i ≠ l) (hjl : j ≠ l) (hx : X.env.scope.names.lookup x = some .local) (hy : X.env.scope.names.lookup y = some .local) (hz : X.env.scope.names.lookup z = some .local) (hp : ps.contains i = false) (hp2 : ps.contains j = false) (hp3 : ps.contains l = false)
    (ha : PE X a (tE X.K Z w)) (hb : PE X b (tE X.K Z w2)) (hd : PE X c (tE X.K Z w3)) (hw : swappedStores [.Tuple [.Name x px, .Name y py, .Name z pz] kt pt] (.Tuple [a, b, c] k2 pt2) X.env = pure (some [x, y, z])) (hs : swapsWithSole [.Tuple [.Name x px, .Name y py, .Name z pz] kt pt] (.Tuple [a, b, c] k2 pt2) pos.line X.env = pure false := by rfl)
    (h1 : starEach [a, b, c] X.env = (false, eval a X.env) :: starEach [b, c] X.env := by rfl) (h2 : starEach [b, c] X.env = (false, eval b X.env) :: starEach [c] X.env := by rfl) (h3 : starEach [c] X.env = (false, eval c X.env) :: starEach [] X.env := by rfl) :
    PS X (.Assign [.Tuple [.Name x px, .Name y py, .Name z pz] kt pt] (.Tuple [a, b, c] k2 pt2) pos) (tS X.K Z ps (sPar [i, j, l] [w, w2, w3])) :=
  ps_to (ps_par3 hc hN hi hj hl hij hil hjl hx hy hz (pa_cons ha (pa_cons hb (pa_cons hd pa_nil h3) h2) h1) hw hs) fun D σ H q => by
    obtain ⟨B, ρ, fp, E, k, h, p⟩ := q
    refine args_ok [.ex w, .ex w2, .ex w3] k h fun ds ρ' h1 vs τ xs H' B' fp' g n k1 => ?_
    cases g with
    | ex g =>
      cases g with
      | ex g =>
        cases g with
        | ex g =>
          cases g
          obtain ⟨f2, k2, s2⟩ := par_tmp3 k1 i j l
          exact ⟨_, _, _, rfl, p.nx _ h1 _ H' B' f2 (n.less s2) k2 (((Pin.set hp).trans (Pin.set hp2)).trans (Pin.set hp3))⟩
end
def wLR1 (w : WE) : WE := fun ρ R => w ρ fun d ρ1 => asI d fun n => n ≤ szMax ∧ -1000000000 ≤ n ∧ R (.lf (rangeL 0 n.toNat)) ρ1
def wTR1 (w : WE) : WE := fun ρ R => w ρ fun d ρ1 => asI d fun n => n ≤ szMax ∧ -1000000000 ≤ n ∧ R (.fz (.tuple (rangeL 0 n.toNat))) ρ1
def wLR2 (w w2 : WE) : WE := fun ρ R => w ρ fun d ρ1 => asI d fun a => w2 ρ1 fun d2 ρ2 => asI d2 fun b => smallI a ∧ smallI b ∧ b - a ≤ szMax ∧ R (.lf (rangeL a (b - a).toNat)) ρ2
def wTR2 (w w2 : WE) : WE := fun ρ R => w ρ fun d ρ1 => asI d fun a => w2 ρ1 fun d2 ρ2 => asI d2 fun b => smallI a ∧ smallI b ∧ b - a ≤ szMax ∧ R (.fz (.tuple (rangeL a (b - a).toNat))) ρ2
section
variable {X : Cx} {Z : Ent} {a b : Expr} {p p2 pos pos2 : Pos} {w w2 : WE}
end
end Pt
namespace Pt
open PySem PySem.Spec L2
open PyProof.Rows (IsTup)
open Builtin
theorem turned (xs : Array Value) : ((List.range xs.size).filterMap fun (m : Nat) => xs[(((xs.size : Int) - 1) + (m : Int) * (-1)).toNat]?).toArray = xs.toList.reverse.toArray := by
  congr 1
  apply List.ext_getElem?
  intro i
  have e : (List.range xs.size).filterMap (fun (m : Nat) => xs[(((xs.size : Int) - 1) + (m : Int) * (-1)).toNat]?) = (List.range xs.size).filterMap (fun (m : Nat) => xs.toList.reverse[m]?) := by
    have cg : ∀ (l : List Nat) (f g : Nat → Option Value), (∀ m ∈ l, f m = g m) → l.filterMap f = l.filterMap g := fun l f g h => by
      induction l with
      | nil => rfl
      | cons a l ih => rw [List.filterMap_cons, List.filterMap_cons, h a (List.mem_cons_self ..), ih fun m hm => h m (List.mem_cons_of_mem _ hm)]
    refine cg _ _ _ fun m hm => ?_
    have hm' := List.mem_range.mp hm
    rw [List.getElem?_reverse (by rw [Array.length_toList]; exact hm'), Array.length_toList, Array.getElem?_toList]
    congr 1
    omega
  rw [e]
  have e2 : ∀ (l : List Value), (List.range l.length).filterMap (fun m => l[m]?) = l := fun l => by
    induction l with
    | nil => rfl
    | cons a l ih =>
      rw [List.length_cons, List.range_succ_eq_map, List.filterMap_cons, List.filterMap_map]
      show (a :: List.filterMap (fun m => l[m]?) (List.range l.length)) = a :: l
      rw [ih]
  have e3 := e2 xs.toList.reverse
  rw [List.length_reverse, Array.length_toList] at e3
  rw [e3]
def oBack : List O → (O → Prop) → Prop
  | [x], R => (∃ ds, vL x = some ds ∧ R (.lf ds.reverse)) ∨ (∃ ds, vT x = some ds ∧ R (.fz (.tuple ds.reverse)))
  | _, _ => False
theorem RFs.app {K : PySem.W.Frag} {B : Hp} : ∀ {vs us : List V} {ds es : List PyData}, RFs K B vs ds → RFs K B us es → RFs K B (vs ++ us) (ds ++ es)
  | _, _, _, _, .nil, r => r
  | _, _, _, _, .cons r t, r2 => .cons r (RFs.app t r2)
theorem RFs.rev {K : PySem.W.Frag} {B : Hp} : ∀ {vs : List V} {ds : List PyData}, RFs K B vs ds → RFs K B vs.reverse ds.reverse
  | _, _, .nil => .nil
  | _, _, .cons r t => by
    rw [List.reverse_cons, List.reverse_cons]
    exact (RFs.rev t).app (.cons r .nil)
end Pt
namespace Pt
open PySem PySem.Spec L2
open PyProof.Rows (IsTup envOfC)
section
variable {X : Cx} {Z : Ent} {tg e : Expr} {w : WE} {pos p tpos : Pos} {elts : List Expr} {kk : Nat}
def iSeq (K : PySem.W.Frag) (te : TE) : TI := fun σ H R => te σ H fun v H1 => ∃ a xs, v = .ref a ∧ ((SqL K H1 a xs ∧ R (Itl K a) H1) ∨ (SqT K H1 a xs ∧ R (Itt K a) H1))
theorem pi_seq {te : TE} (he : PE X e te) : PI X tg e (iSeq X.K te) := ⟨fun pins s σ H R I h => thn (he.run pins s σ H _ I h) fun v s1 ⟨x, H1, I1, r1, a, xs, ex, q⟩ => by
  subst ex; cases r1
  have fp : ∀ b ∈ [s1.heap.objs.size], _ := fun b hb => by
    cases List.mem_singleton.mp hb
    exact I1.fpOk (Nat.le_refl _) (I1.hok.fresh (Nat.le_refl _))
  rcases q with ⟨hq, q⟩ | ⟨hq, q⟩
  · obtain ⟨its, rv, pl, hz⟩ := I1.list hq
    exact wpAny_pyIter_list pl.isList ⟨_, [_], _, _, H1, rfl, I1.kept (t' := s1.toks) fun b o e => Heap.get?_push_of_some _ e, turn_list a _, ⟨_, Heap.get?_push_size _ rfl, rfl, rfl⟩, fp, q⟩
  · obtain ⟨its, rv, pl, hz⟩ := I1.tuple hq
    exact wpAny_pyIter_tuple (show s1.heap.IsTuple a its.toArray from pl) ⟨_, [_], _, _, H1, rfl, I1.kept (t' := s1.toks) fun b o e => Heap.get?_push_of_some _ e, turn_tuple a _, ⟨_, Heap.get?_push_size _ rfl, rfl, rfl⟩, fp, q⟩⟩
def asSf : O → (List PyData → Prop) → Prop
  | .fz (.list ds), k => k ds
  | .fz (.tuple ds), k => k ds
  | _, _ => False
theorem asSf_iff {x : O} {k : List PyData → Prop} (h : asSf x k) : ∃ ds, (x = .fz (.list ds) ∨ x = .fz (.tuple ds)) ∧ k ds := by
  unfold asSf at h
  split at h
  · exact ⟨_, .inl rfl, h⟩
  · exact ⟨_, .inr rfl, h⟩
  · exact h.elim
def wiS (w : WE) : WI := fun ρ R => wFz w ρ fun d ρ1 => asSf d fun ds => R ds ρ1
theorem i_seq (h : PE X e (tE X.K Z w)) : PI X tg e (tI X.K Z (wiS w)) := pi_to (pi_seq (e_fz h)) fun σ H R q => by
  obtain ⟨B, ρ, fp, Rd, k, h, q⟩ := q
  refine ⟨B, ρ, fp, _, k, h, fun d ρ' h1 v H' B' fp' n k1 => ?_⟩
  obtain ⟨ds, e, h2⟩ := asSf_iff h1
  obtain ⟨f2, k2, hs⟩ := k1.drop1
  rcases e with rfl | rfl
  · have r := k1.headF
    cases r with
    | @lst a vs _ hB rr => exact ⟨a, vs, rfl, .inl ⟨SqL.of (k1.sub _ _ hB), q ds ρ' h2 _ H' B' f2 (n.less hs) k2 (ItD.n _ (ItD.list (.inl (.inl hB)) rr))⟩⟩
  · have r := k1.headF
    cases r with
    | @tup a vs _ hB rr => exact ⟨a, vs, rfl, .inr ⟨k1.sub.sqT hB, q ds ρ' h2 _ H' B' f2 (n.less hs) k2 (ItD.n _ (ItD.tup hB rr))⟩⟩
def iEnumS (K : PySem.W.Frag) (ta : TA) : TI := fun σ H R => ta σ H fun vs H1 => ∃ a xs, vs = [.ref a] ∧ ((SqL K H1 a xs ∧ R (Ite K a) H1) ∨ (SqT K H1 a xs ∧ R (ItET K a) H1))
theorem pi_enumS {ta : TA} (hg : Gl X "enumerate") (hm : X.mg "enumerate" = none) (ha : PA X [e] ta) (hs : starEach [e] X.env = [(false, eval e X.env)] := by rfl) : PI X (.Tuple elts kk tpos) (.Call (.Name "enumerate" p) [e] [] pos) (iEnumS X.K ta) := ⟨fun pins s σ H R I h => by
  refine PyProof.Rows.Call_ (ld_blt I hg hm PyProof.Rows.boot_enumerate (PyProof.Rows.callWith_type1 (thn (ha.run pos pins s σ H _ I h) fun us s1 ⟨vs, H1, I1, r1, a, xs, ev, q⟩ => ?_) hs rfl))
  subst ev
  cases r1 with
  | cons r rr =>
    cases rr; cases r
    have fp : ∀ b ∈ [s1.heap.objs.size + 1, s1.heap.objs.size], _ := fun b hb => by
      have hle : s1.heap.objs.size ≤ b := by
        rcases List.mem_cons.mp hb with z | z
        · exact z ▸ Nat.le_succ _
        · exact (List.mem_singleton.mp z) ▸ Nat.le_refl _
      exact I1.fpOk hle (I1.hok.fresh hle)
    rcases q with ⟨hq, q⟩ | ⟨hq, q⟩
    · obtain ⟨its, rv, pl, hz⟩ := I1.list hq
      exact call_enumerate_list pl.isList fun h' he hit hsz hk => wpAny_pyIter_enum he ⟨_, [_, _], _, _, H1, rfl, I1.kept (t' := s1.toks) hk, turn_enum a _ _, ⟨⟨.none, he⟩, hit, Nat.succ_ne_self _⟩, fp, q⟩
    · obtain ⟨its, rv, pl, hz⟩ := I1.tuple hq
      have hal : a < s1.heap.objs.size := pl.lt
      exact enum1_call (begins_tuple a its.toArray) pl fun h' he hit hsz hk => wpAny_pyIter_enum he ⟨_, [_, _], _, _, H1, rfl, I1.kept (t' := s1.toks) hk, turn_enumT a _ _ (Nat.ne_of_lt hal), ⟨⟨.none, he⟩, ⟨_, hit, rfl, rfl⟩, Nat.succ_ne_self _, Nat.ne_of_lt (Nat.lt_succ_of_lt hal)⟩, fp, q⟩⟩
def wiE (w : WE) : WI := fun ρ R => wFz w ρ fun d ρ1 => asSf d fun ds => R (enumL ds) ρ1
theorem i_enum (hg : Gl X "enumerate") (hm : X.mg "enumerate" = none) (ha : PE X e (tE X.K Z w)) (hs : starEach [e] X.env = [(false, eval e X.env)] := by rfl) : PI X (.Tuple elts kk tpos) (.Call (.Name "enumerate" p) [e] [] pos) (tI X.K Z (wiE w)) :=
  pi_to (pi_enumS hg hm (pa_cons (e_fz ha) pa_nil hs) hs) fun σ H R q => by
    obtain ⟨B, ρ, fp, Rd, k, h, q⟩ := q
    refine ⟨B, ρ, fp, _, k, h, fun d ρ' h1 v H' B' fp' n k1 => ?_⟩
    obtain ⟨ds, e, h2⟩ := asSf_iff h1
    obtain ⟨f2, k2, hs⟩ := k1.drop1
    rcases e with rfl | rfl
    · have r := k1.headF
      cases r with
      | @lst a vs _ hB rr => exact ⟨a, vs, rfl, .inl ⟨SqL.of (k1.sub _ _ hB), q _ ρ' h2 _ H' B' f2 (n.less hs) k2 (ItD.n _ (ItD.enumL (.inl (.inl hB)) rr))⟩⟩
    · have r := k1.headF
      cases r with
      | @tup a vs _ hB rr => exact ⟨a, vs, rfl, .inr ⟨k1.sub.sqT hB, q _ ρ' h2 _ H' B' f2 (n.less hs) k2 (ItD.n _ (ItD.enumT hB rr))⟩⟩
end
def gOf (n m : Nat) (s : WS) : WF := fun ds R => ds.length = n ∧ s ⟨fun ρ => R (.fz .none) ρ, R, fun _ => False, fun _ => False, fun _ _ => False⟩ (ds ++ List.replicate (m - n) .hid)
structure Body (P : Program) (w : World) (K : PySem.W.Frag) (mg : Str → Option Value) (base : Heap) (T : List Addr) (N : List Str) (x : Str) (st : Stmt) (f : Addr) (fd : FuncData) (k : Nat) (cdv : Value) (A : Around) (outer : List Env) (s0 : Shared) (H : Hp) (E : XK) (X : Cx) (Z : Ent) : Prop where
  hX : X = cxOf (L2N.CX P w) P w K mg base N x (defScope st) f cdv A outer s0 H E
  hT : Z.T = T
  gd : X.A.guards = some []
  hr : Room k X.A
  hp : PassesOwn (model X.prog X.w) X.A X.env X.xe
  tk : L2N.Takes X Z.W
  hmg : X.mg = Z.mg
  hcd : fd.code = cdv
section
variable {P : Program} {w : World} {K : PySem.W.Frag} {mg : Str → Option Value} {base : Heap} {T : List Addr} {x : Str} {st : Stmt} {f : Addr} {fd : FuncData} {N qs : List Str} {n k : Nat} {ps : List Nat} {s : WS}
theorem fn_ofG {g : WFX} (F : Fun K x x st f fd) (S : FnScope N qs (defScope st)) (hq : qs.length = n) (hn : n ≤ N.length) (hps : ∀ i ∈ ps, i < n)
    (hg : ∀ ds Rx R, ds.length = n → g ds Rx R → ∃ Rx', (∀ x ρ, Rx' x ρ → Rx x ρ) ∧ s ⟨fun ρ => R (.fz .none) ρ, R, fun _ => False, fun _ => False, Rx'⟩ (ds ++ List.replicate (N.length - n) .hid))
    (D : ∀ (X : Cx) (cdv : Value) (A : Around) (outer : List Env) (s0 : Shared) (H : Hp) (E : XK) (Z : Ent), Body P w K mg base T N x st f fd k cdv A outer s0 H E X Z → PSs X (defBody st) (tS X.K Z ps s)) : FnG P w K mg base (L2N.CX P w) (k + 1) f fd qs (spX K T mg n ps g) :=
  FnG.of F S (fun vs H Q E h => by rw [h.1, hq]) fun cdv A outer s0 H vs Q E hcd hgd hr h => by
    obtain ⟨Z, e1, e2, e3, hz⟩ := fn_finX (s := s) hn hps h hg
    exact ⟨_, D _ cdv A outer s0 H E Z ⟨rfl, e3, hgd, hr, passes_of rfl, by rw [e1]; exact L2N.takes_of rfl rfl rfl rfl, e2.symm, hcd⟩, hz⟩
theorem fn_of (F : Fun K x x st f fd) (S : FnScope N qs (defScope st)) (hq : qs.length = n) (hn : n ≤ N.length) (hps : ∀ i ∈ ps, i < n)
    (D : ∀ (X : Cx) (cdv : Value) (A : Around) (outer : List Env) (s0 : Shared) (H : Hp) (E : XK) (Z : Ent), Body P w K mg base T N x st f fd k cdv A outer s0 H E X Z → PSs X (defBody st) (tS X.K Z ps s)) : FnG P w K mg base (L2N.CX P w) (k + 1) f fd qs (spD K T mg n ps (gOf n N.length s)) :=
  fn_ofG F S hq hn hps (fun _ _ _ _ h => ⟨fun _ _ => False, fun _ _ z => z.elim, h.2⟩) D
theorem fg_of (F : Fun K x x st f fd) (hm : mg x = some (.ref f)) (S : FnScope N qs (defScope st)) (hb : Binds K fd qs []) (hq : qs.length = n) (hn : n ≤ N.length) (hps : ∀ i ∈ ps, i < n)
    (D : ∀ (X : Cx) (cdv : Value) (A : Around) (outer : List Env) (s0 : Shared) (H : Hp) (E : XK) (Z : Ent), Body P w K mg base T N x st f fd k cdv A outer s0 H E X Z → PSs X (defBody st) (tS X.K Z ps s)) : Fg P w K mg base T (k + 1) x n ps (gOf n N.length s) :=
  ⟨f, fd, qs, fn_of F S hq hn hps D, hm, F.kp, hb⟩
end
end Pt
namespace Pt
open PySem PySem.Spec L2
def oAddI := oI2 (fun _ _ => True) fun i j => .int (i + j)
def wDict0 : WE := fun ρ R => R (.df []) ρ
theorem e_dict0 {X : Cx} {Z : Ent} {pos : Pos} : PE X (.Dict [] [] pos) (tE X.K Z wDict0) := pe_to pe_dnewK fun σ H Q q => by
  obtain ⟨B, ρ, fp, R, k, h, q⟩ := q
  refine fun p hp => ?_
  obtain ⟨g, k2, n2⟩ := (Out.dct (K := X.K) (kvs := []) (ds := []) rfl .nil k.sub hp).ok k
  exact q _ ρ h _ _ _ _ n2 k2
theorem Up.comp {K : PySem.W.Frag} {Z : Ent} {U V : WE → WE} (a : Up K Z U) (b : Up K Z V) : Up K Z (U ∘ V) := ⟨fun w σ H Q h => b.ok _ _ _ _ (a.ok _ _ _ _ h)⟩
def CPowA (i j : Int) : Prop := 0 ≤ j ∧ (Builtin.Int.intBits i : Int) * j ≤ 2 ^ 27
theorem op_powA {X : Cx} : OpR X (binaryOp .Pow) (rI CPowA fun i j => .int (i ^ j.toNat)) := opI fun _ _ _ _ _ _ _ hc q => PyProof.Rows.pow_int hc.1 hc.2 q
def oPowA := oI2 CPowA fun i j => .int (i ^ j.toNat)
theorem rd_powA {K : PySem.W.Frag} : Rd K (r2L (rI CPowA fun i j => .int (i ^ j.toNat))) oPowA := rd_I2 fun _ _ _ => .int _
end Pt
namespace Pt
open PySem PySem.Spec L2
theorem fn_imp {P : Program} {w : World} {K : PySem.W.Frag} {T : List Addr} {mg mg' : Str → Option Value} {base : Heap} {f : Addr} {fd : FuncData} {qs : List Str} {n k : Nat} {ps : List Nat} {g g' : WF} {CX : CXT} (F : FnG P w K mg' base CX k f fd qs (spD K T mg n ps g)) (h : ∀ ds R, g' ds R → g ds R) : FnG P w K mg' base CX k f fd qs (spD K T mg n ps g') :=
  F.imp fun vs H Q E ⟨h1, B, ds, fp, R, Rx, tb, nt, h2, h3, h4⟩ => ⟨h1, B, ds, fp, R, Rx, tb, nt, h2, h ds R h3, h4⟩
def gLaw : WF := fun ds R => ∃ ns : List Int, ds = [.scr ns] ∧ ns.length ≤ 63 ∧ ∀ ρ, R (.fz (.bool true)) ρ
open Classical in
noncomputable def noTb (H : Hp) : Hp := fun a => if ∃ ps, H a = some (.tbl ps) then none else H a
theorem noTb_sub (H : Hp) : Sub (noTb H) H := fun a o e => by
  unfold noTb at e
  split at e
  · cases e
  · exact e
theorem noTb_nt (H : Hp) : NTB (noTb H) := fun a o e ps z => by
  unfold noTb at e
  split at e
  · cases e
  · rename_i h
    exact h ⟨ps, by rw [e, z]⟩
theorem noTb_sqL {K : PySem.W.Frag} {H : Hp} {a : Addr} {vs : List V} (h : SqL K H a vs) : SqL K (noTb H) a vs := by
  have k : ∀ o, H a = some o → NT o → noTb H a = some o := fun o e n => by
    unfold noTb
    rw [if_neg]
    · exact e
    · rintro ⟨ps, z⟩
      rw [e] at z; cases z; exact n ps rfl
  rcases h with (x | ⟨o, x⟩) | x
  · exact .inl (.inl (k _ x pl_lst.1))
  · exact .inl (.inr ⟨o, k _ x pl_frz.1⟩)
  · exact .inr x
theorem law_sp {K : PySem.W.Frag} {T : List Addr} {mg : Str → Option Value} {H : Hp} {a : Addr} {ns : List Int} {ps : List Nat} {E : XK} (hl : ns.length ≤ 63) (hT : ∀ P ∈ T, H P = some (.tbl #[])) (h : SqL K H a (ns.map V.int)) : spD K T mg 1 ps gLaw [.ref a] H (fun v _ => v = .bl true) E := by
  refine ⟨rfl, noTb H, [.scr ns], [], fun d _ => d = .fz (.bool true), fun _ _ => False, fun P hP => LamX.TabS.nil (hT P hP), noTb_nt H, ⟨noTb_sub H, fun i e => ?_, .cons (f1 := []) (.scr (noTb_sqL h)) .nil, List.nodup_nil, fun a ha => (List.not_mem_nil ha).elim, ?_⟩, ⟨ns, rfl, hl, fun _ => rfl⟩, fun d ρ hd v H' B' fp' n k => ?_, fun _ _ z => z.elim⟩
  · cases i with
    | zero => cases e
    | succ i => cases e
  · exact Nxt.refl _ _ _
  · subst hd
    have r := k.headF
    cases r
    rfl
theorem law_cx {P : Program} {w : World} {H : Hp} {s : Shared} {e : Value} {s' : Shared} (h : L2N.CX P w [] H s (fun _ _ _ => False) e s') : False := by
  obtain ⟨a, B, H', cls, d, _, _, _, _, _, _, _, h⟩ := h
  exact h
def oEqA (neg : Bool) : List O → (O → Prop) → Prop
  | [.fz (.str a), .fz (.str b)], R => R (.fz (.bool (if neg then !decide (a = b) else decide (a = b))))
  | xs, R => oEq neg xs R
theorem op_eqA {X : Cx} (hu : X.A.units + 64 < cLine) : OpR X (compareOp .Eq) (fun x y H Q => rEq x y H Q ∨ rEqD X.K x y H Q) := OpR.or op_eq (op_eqD hu)
theorem op_neA {X : Cx} (hu : X.A.units + 64 < cLine) : OpR X (compareOp .NotEq) (fun x y H Q => rNe x y H Q ∨ rNeD X.K x y H Q) := OpR.or op_ne (op_neD hu)
theorem dec_str {a b : Str} : decide (V.str a = V.str b) = decide (a = b) := by
  by_cases h : a = b
  · rw [h]
    simp
  · rw [decide_eq_false h]
    exact decide_eq_false fun z => h (V.str.inj z)
theorem rd_eqA {K : PySem.W.Frag} : Rd K (r2L fun x y H Q => rEq x y H Q ∨ rEqD K x y H Q) (oEqA false) := fun B H vs xs f R Q s rr h q => by
  have gen : oEq false xs R → r2L (fun x y H Q => rEq x y H Q ∨ rEqD K x y H Q) vs H Q := fun h => by
    have z := rd_eq B H vs xs f R Q s rr h q
    cases vs with
    | nil => exact z
    | cons a vs =>
      cases vs with
      | nil => exact z
      | cons b vs =>
        cases vs with
        | nil => exact .inr z
        | cons _ _ => exact z
  unfold oEqA at h
  split at h
  · obtain ⟨v, w, _, _, rfl, r1, r2⟩ := ros2 rr
    cases r1 with
    | fz r1 =>
      cases r1
      cases r2 with
      | fz r2 =>
        cases r2
        refine .inl ⟨rfl, ?_⟩
        rw [dec_str]
        exact q _ h _ B H (Out.here (.bl _) s)
  · exact gen h
theorem rd_neA {K : PySem.W.Frag} : Rd K (r2L fun x y H Q => rNe x y H Q ∨ rNeD K x y H Q) (oEqA true) := fun B H vs xs f R Q s rr h q => by
  have gen : oEq true xs R → r2L (fun x y H Q => rNe x y H Q ∨ rNeD K x y H Q) vs H Q := fun h => by
    have z := rd_ne B H vs xs f R Q s rr h q
    cases vs with
    | nil => exact z
    | cons a vs =>
      cases vs with
      | nil => exact z
      | cons b vs =>
        cases vs with
        | nil => exact .inr z
        | cons _ _ => exact z
  unfold oEqA at h
  split at h
  · obtain ⟨v, w, _, _, rfl, r1, r2⟩ := ros2 rr
    cases r1 with
    | fz r1 =>
      cases r1
      cases r2 with
      | fz r2 =>
        cases r2
        refine .inl ⟨rfl, ?_⟩
        rw [dec_str]
        exact q _ h _ B H (Out.here (.bl _) s)
  · exact gen h
end Pt
namespace Pt
open PySem PySem.Spec L2
@[simp] theorem unf_map : ∀ ds : List PyData, unf (ds.map O.fz) = some ds
  | [] => rfl
  | d :: ds => by
    show (unf (ds.map O.fz)).map (d :: ·) = _
    rw [unf_map ds]
    rfl
section
variable {ρ : En} {R : O → En → Prop} {T : Bool → En → Prop} {E : DE} {w w2 w3 : WE} {wt wt2 : WT} {s s2 : WS} {i j : Nat} {as : List AD} {op op2 : List O → (O → Prop) → Prop} {g : WF} {f d : PyData} {k : O → Prop} {own : List Nat} {gg : WG} {wi : WI}
@[simp] theorem nth_zero {x : O} {r : En} : nth (x :: r) 0 = x := rfl
@[simp] theorem nth_succ {x : O} {r : En} : nth (x :: r) (i + 1) = nth r i := rfl
@[simp] theorem x_wC : wC f ρ R = R (.fz f) ρ := rfl
@[simp] theorem x_wV : wV i ρ R = asF (nth ρ i) fun f => R (.fz f) ρ := rfl
@[simp] theorem x_wM : wM i ρ R = notHid (nth ρ i) (R (nth ρ i) (ρ.set i .hid)) := rfl
@[simp] theorem x_asF {k : PyData → Prop} : asF (.fz f) k = k f := rfl
@[simp] theorem x_asI {a : Int} {k : Int → Prop} : asI (.fz (.int a)) k = k a := rfl
@[simp] theorem x_asB {b : Bool} {k : Bool → Prop} : asB (.fz (.bool b)) k = k b := rfl
@[simp] theorem x_nh1 {p : Prop} : notHid (.fz f) p = p := rfl
@[simp] theorem x_nh2 {p : Prop} {ds : List PyData} : notHid (.lf ds) p = p := rfl
@[simp] theorem x_nh3 {p : Prop} {ds : List O} : notHid (.ol ds) p = p := rfl
@[simp] theorem x_nh4 {p : Prop} {ns : List Int} : notHid (.scr ns) p = p := rfl
@[simp] theorem x_nh5 {p : Prop} {ds : List (Key × PyData)} : notHid (.df ds) p = p := rfl
@[simp] theorem x_wRd : wRd as op ρ R = wADs as ρ fun ds ρ1 => op (fillA as ds ρ1) fun z => R z ρ1 := rfl
@[simp] theorem x_ads0 {R : List (Option O) → En → Prop} : wADs [] ρ R = R [] ρ := rfl
@[simp] theorem x_ads1 {R : List (Option O) → En → Prop} : wADs (.ex w :: as) ρ R = w ρ fun d ρ1 => wADs as ρ1 fun ds ρ2 => R (some d :: ds) ρ2 := rfl
@[simp] theorem x_ads2 {R : List (Option O) → En → Prop} : wADs (.nm i :: as) ρ R = notHid (nth ρ i) (wADs as ρ fun ds ρ2 => R (none :: ds) ρ2) := rfl
@[simp] theorem x_fill0 {ds : List (Option O)} : fillA [] ds ρ = [] := rfl
@[simp] theorem x_fill1 {ds : List (Option O)} {x : O} : fillA (.ex w :: as) (some x :: ds) ρ = x :: fillA as ds ρ := rfl
@[simp] theorem x_fill2 {ds : List (Option O)} {x : Option O} : fillA (.nm i :: as) (x :: ds) ρ = nth ρ i :: fillA as ds ρ := rfl
@[simp] theorem x_wTb : wTb w ρ T = w ρ fun d ρ1 => asB d fun b => T b ρ1 := rfl
@[simp] theorem x_wTnot : wTnot wt ρ T = wt ρ fun b ρ1 => T (!b) ρ1 := rfl
@[simp] theorem x_wTand : wTand wt wt2 ρ T = wt ρ fun b ρ1 => br b (wt2 ρ1 T) (T false ρ1) := rfl
@[simp] theorem x_wTor : wTor wt wt2 ρ T = wt ρ fun b ρ1 => br b (T true ρ1) (wt2 ρ1 T) := rfl
@[simp] theorem x_wAndV : wAndV w w2 ρ R = w ρ fun d ρ1 => asB d fun b => br b (w2 ρ1 R) (R (.fz (.bool false)) ρ1) := rfl
@[simp] theorem x_wOrV : wOrV w w2 ρ R = w ρ fun d ρ1 => asB d fun b => br b (R (.fz (.bool true)) ρ1) (w2 ρ1 R) := rfl
@[simp] theorem x_wNotV : wNotV w ρ R = w ρ fun d ρ1 => asB d fun b => R (.fz (.bool (!b))) ρ1 := rfl
@[simp] theorem x_wIf : wIf wt w w2 ρ R = wt ρ fun b ρ1 => br b (w ρ1 R) (w2 ρ1 R) := rfl
@[simp] theorem x_brT {P Q : Prop} : br true P Q = P := rfl
@[simp] theorem x_brF {P Q : Prop} : br false P Q = Q := rfl
@[simp] theorem x_wFz : wFz w ρ R = w ρ fun d ρ1 => ∃ f, frO d = some f ∧ R (.fz f) ρ1 := rfl
@[simp] theorem x_wLf : wLf w ρ R = w ρ fun d ρ1 => toLf d fun d' => R d' ρ1 := rfl
@[simp] theorem x_toLf {ds : List PyData} : toLf (.lf ds) k = k (.lf ds) := rfl
@[simp] theorem x_frO1 : frO (.fz f) = some f := rfl
@[simp] theorem x_frO2 {ds : List PyData} : frO (.lf ds) = some (.list ds) := rfl
@[simp] theorem x_frO3 {ds : List (Key × PyData)} : frO (.df ds) = some (.dict (ds.map fun p => (kD p.1, p.2))) := rfl
@[simp] theorem x_wCh {w1 : WE} : wCh w1 w2 w3 op op2 ρ R = w1 ρ fun d1 ρ1 => asF d1 fun f1 => w2 ρ1 fun d2 ρ2 => asF d2 fun f2 => op [.fz f1, .fz f2] fun z => asB z fun k => br k (w3 ρ2 fun d3 ρ3 => asF d3 fun f3 => op2 [.fz f2, .fz f3] fun z2 => R z2 ρ3) (R (.fz (.bool false)) ρ2) := rfl
@[simp] theorem x_sNext : sNext E ρ = E.nx ρ := rfl
@[simp] theorem x_sSeq : sSeq s s2 E ρ = s { E with nx := s2 E } ρ := rfl
@[simp] theorem x_sBreak : sBreak E ρ = E.bk ρ := rfl
@[simp] theorem x_sCont : sCont E ρ = E.ct ρ := rfl
@[simp] theorem x_sNever : sNever E ρ = False := rfl
@[simp] theorem x_sDrop : sDrop w E ρ = w ρ fun _ ρ1 => E.nx ρ1 := rfl
@[simp] theorem x_sRet : sRet w E ρ = w ρ fun d ρ1 => E.rt d ρ1 := rfl
@[simp] theorem x_sRetN : sRetN E ρ = E.rt (.fz .none) ρ := rfl
@[simp] theorem x_sIf : sIf wt s s2 E ρ = wt ρ fun b ρ1 => br b (s E ρ1) (s2 E ρ1) := rfl
@[simp] theorem x_sStore : sStore i w E ρ = w ρ fun d ρ1 => E.nx (ρ1.set i d) := rfl
@[simp] theorem x_sGf : sGf i s E ρ = ∃ f, frO (nth ρ i) = some f ∧ s E (ρ.set i (.fz f)) := rfl
@[simp] theorem x_sAsg : sAsg gg w E ρ = w ρ fun d ρ1 => gg d ρ1 E.nx := rfl
@[simp] theorem x_gN {d : O} {R : En → Prop} : gN i d ρ R = R (ρ.set i d) := rfl
@[simp] theorem x_gsN {ds : List O} {R : En → Prop} : gsN ds ρ R = (ds = [] ∧ R ρ) := rfl
@[simp] theorem x_gsC {gs : List O → En → (En → Prop) → Prop} {d : O} {ds : List O} {R : En → Prop} : gsC gg gs (d :: ds) ρ R = gg d ρ fun ρ' => gs ds ρ' R := rfl
@[simp] theorem x_gT {n : Nat} {gs : List O → En → (En → Prop) → Prop} {d : O} {R : En → Prop} : gT n gs d ρ R = asT d fun xs => xs.length = n ∧ gs xs ρ R := rfl
@[simp] theorem x_asT {ds : List PyData} {k : List O → Prop} : asT (.fz (.tuple ds)) k = k (ds.map O.fz) := rfl
@[simp] theorem x_sFor : sFor wi gg s E ρ = wi ρ fun items ρ1 => forN gg s E items ρ1 := rfl
@[simp] theorem x_wCall : wCall as g ρ R = wADs as ρ fun ds ρ1 => callA as ds ρ1 fun xs ρ2 => g xs fun d ρf => R d (backA as ρf ρ2) := rfl
@[simp] theorem x_callA0 {k : List O → En → Prop} {ds : List (Option O)} : callA [] ds ρ k = k [] ρ := by cases ds <;> rfl
@[simp] theorem x_callA1 {k : List O → En → Prop} {ds : List (Option O)} {x : O} : callA (.ex w :: as) (some x :: ds) ρ k = callA as ds ρ fun xs ρ' => k (x :: xs) ρ' := rfl
@[simp] theorem x_callA2 {k : List O → En → Prop} {ds : List (Option O)} {x : Option O} : callA (.nm i :: as) (x :: ds) ρ k = notHid (nth ρ i) (callA as ds (ρ.set i .hid) fun xs ρ' => k (nth ρ i :: xs) ρ') := rfl
@[simp] theorem x_back0 {xs : List O} : backA [] xs ρ = ρ := by cases xs <;> rfl
@[simp] theorem x_back1 {xs : List O} : backA (.ex w :: as) xs ρ = backA as xs.tail ρ := rfl
@[simp] theorem x_back2 {xs : List O} : backA (.nm i :: as) xs ρ = backA as xs.tail (ρ.set i (hd0 xs)) := rfl
@[simp] theorem x_hd0 {x : O} {xs : List O} : hd0 (x :: xs) = x := rfl
@[simp] theorem x_wMu {ws : List WE} {lm : O → List O → (O → O → Prop) → Prop} : wMu "list" i ws lm ρ R = (isLst (nth ρ i) = true ∧ wADs (exs ws) ρ fun ds ρ1 => (isLst (nth ρ1 i) || isDct (nth ρ1 i)) = true ∧ lm (nth ρ1 i) (fillA (exs ws) ds ρ1) fun x' z => R z (ρ1.set i x')) := rfl
@[simp] theorem x_exs0 : exs [] = [] := rfl
@[simp] theorem x_exs1 {ws : List WE} : exs (w :: ws) = .ex w :: exs ws := rfl
@[simp] theorem x_isLst1 {ds : List PyData} : isLst (.lf ds) = true := rfl
@[simp] theorem x_isLst2 {ds : List O} : isLst (.ol ds) = true := rfl
@[simp] theorem x_lmA1 {ds : List PyData} {R : O → O → Prop} : lmAppend (.lf ds) [.fz f] R = (ds.length < szMax ∧ R (.lf (ds ++ [f])) (.fz .none)) := rfl
@[simp] theorem x_lmA2 {ds : List O} {d : O} {R : O → O → Prop} : lmAppend (.ol ds) [d] R = (ds.length < szMax ∧ R (.ol (ds ++ [d])) (.fz .none)) := rfl
@[simp] theorem x_lmC1 {ds : List PyData} {R : O → O → Prop} : lmClear (.lf ds) [] R = R (.lf []) (.fz .none) := rfl
@[simp] theorem x_lmC2 {ds : List O} {R : O → O → Prop} : lmClear (.ol ds) [] R = R (.lf []) (.fz .none) := rfl
@[simp] theorem x_lmPA {ds : List PyData} {a : Int} {R : O → O → Prop} : lmPopAt (.lf ds) [.fz (.int a)] R = ∃ f, 0 ≤ a ∧ a < 1000000000 ∧ ds[a.toNat]? = some f ∧ R (.lf (ds.eraseIdx a.toNat)) (.fz f) := rfl
@[simp] theorem x_lmP {ds : List PyData} {R : O → O → Prop} : lmPop (.lf ds) [] R = ∃ f, ds[ds.length - 1]? = some f ∧ R (.lf ds.dropLast) (.fz f) := rfl
@[simp] theorem x_sSetI {we wk : WE} : sSetI i we wk = sDrop (wMu "list" i [we, wk] lmSet) := rfl
@[simp] theorem x_lmS {ds : List PyData} {a : Int} {R : O → O → Prop} : lmSet (.lf ds) [.fz f, .fz (.int a)] R = ∃ j, ixN ds.length a = some j ∧ R (.lf (ds.set j f)) (.fz .none) := rfl
@[simp] theorem x_sAugI {wk we : WE} {od : List O → (O → Prop) → Prop} : sAugI i wk we od E ρ = (isLst (nth ρ i) = true ∧ wk ρ fun kd ρ1 => asI kd fun k => 0 ≤ k ∧ k < 1000000000 ∧ isLst (nth ρ1 i) = true ∧ ∃ f, itemO (nth ρ1 i) k = some f ∧ we ρ1 fun d ρ2 => isLst (nth ρ2 i) = true ∧ od [.fz f, d] fun z => asF z fun g => lmSet (nth ρ2 i) [.fz g, .fz (.int k)] fun x' _ => E.nx (ρ2.set i x')) := rfl
@[simp] theorem x_sAug {od : List O → (O → Prop) → Prop} : sAug i w od E ρ = notHid (nth ρ i) (w ρ fun d ρ1 => notHid (nth ρ1 i) (od [nth ρ1 i, d] fun z => E.nx (ρ1.set i z))) := rfl
@[simp] theorem x_sPar {is : List Nat} {ws : List WE} : sPar is ws E ρ = wADs (ws.map .ex) ρ fun ds ρ1 => E.nx (parE is ds ρ1) := rfl
@[simp] theorem x_parE0 {ds : List (Option O)} : parE [] ds ρ = ρ := by cases ds <;> rfl
@[simp] theorem x_parE1 {ds : List (Option O)} {is : List Nat} {x : O} : parE (i :: is) (some x :: ds) ρ = parE is ds (ρ.set i x) := rfl
@[simp] theorem x_oI2 {C : Int → Int → Prop} {h : Int → Int → PyData} {a b : Int} : oI2 C h [.fz (.int a), .fz (.int b)] k = (C a b ∧ k (.fz (h a b))) := rfl
@[simp] theorem x_oSub {a b : Int} : oSub [.fz (.int a), .fz (.int b)] k = k (.fz (.int (a - b))) := propext ⟨fun h => h.2, fun h => ⟨trivial, h⟩⟩
@[simp] theorem x_oDiv {a b : Int} : oDiv [.fz (.int a), .fz (.int b)] k = (CDivW a b ∧ k (.fz (.int (a / b)))) := rfl
@[simp] theorem x_oMod {a b : Int} : oMod [.fz (.int a), .fz (.int b)] k = (0 < b ∧ k (.fz (.int (a % b)))) := rfl
@[simp] theorem x_oPowA {a b : Int} : oPowA [.fz (.int a), .fz (.int b)] k = (CPowA a b ∧ k (.fz (.int (a ^ b.toNat)))) := rfl
@[simp] theorem x_oMulI {a b : Int} : oMul [.fz (.int a), .fz (.int b)] k = (CMulW a b ∧ k (.fz (.int (a * b)))) := rfl
@[simp] theorem x_oLt {a b : Int} : oLt [.fz (.int a), .fz (.int b)] k = k (.fz (.bool (decide (a < b)))) := propext ⟨fun h => h.2, fun h => ⟨trivial, h⟩⟩
@[simp] theorem x_oLe {a b : Int} : oLe [.fz (.int a), .fz (.int b)] k = k (.fz (.bool (decide (a ≤ b)))) := propext ⟨fun h => h.2, fun h => ⟨trivial, h⟩⟩
@[simp] theorem x_oGt {a b : Int} : oGt [.fz (.int a), .fz (.int b)] k = k (.fz (.bool (decide (b < a)))) := propext ⟨fun h => h.2, fun h => ⟨trivial, h⟩⟩
@[simp] theorem x_oGe {a b : Int} : oGe [.fz (.int a), .fz (.int b)] k = k (.fz (.bool (decide (b ≤ a)))) := propext ⟨fun h => h.2, fun h => ⟨trivial, h⟩⟩
@[simp] theorem x_oAddI {a b : Int} : oAddI [.fz (.int a), .fz (.int b)] k = k (.fz (.int (a + b))) := propext ⟨fun h => h.2, fun h => ⟨trivial, h⟩⟩
@[simp] theorem x_oNeg {a : Int} : oNeg [.fz (.int a)] k = k (.fz (.int (-a))) := rfl
@[simp] theorem x_oAdd1 {a b : Int} : oAdd [.fz (.int a), .fz (.int b)] k = k (.fz (.int (a + b))) := rfl
@[simp] theorem x_oAdd2 {a b : Str} : oAdd [.fz (.str a), .fz (.str b)] k = (a.length + b.length ≤ szMax ∧ k (.fz (.str (a ++ b)))) := rfl
@[simp] theorem x_vL1 {ds : List PyData} : vL (.lf ds) = some ds := rfl
@[simp] theorem x_vL2 {ds : List PyData} : vL (.fz (.list ds)) = some ds := rfl
@[simp] theorem x_vL3 {ds : List PyData} : vL (.fz (.tuple ds)) = none := rfl
@[simp] theorem x_vL4 {ds : List PyData} : vL (.ol (ds.map O.fz)) = some ds := unf_map ds
@[simp] theorem x_vT1 {ds : List PyData} : vT (.fz (.tuple ds)) = some ds := rfl
@[simp] theorem x_vT2 {ds : List PyData} : vT (.fz (.list ds)) = none := rfl
@[simp] theorem x_vT3 {ds : List PyData} : vT (.lf ds) = none := rfl
@[simp] theorem x_unf0 : unf [] = some [] := rfl
@[simp] theorem x_unf1 {xs : List O} : unf (.fz f :: xs) = (unf xs).map (f :: ·) := rfl
@[simp] theorem x_oLst {xs : List O} : oLst xs k = ∃ ds, unf xs = some ds ∧ ds.length ≤ szMax ∧ k (.lf ds) := rfl
@[simp] theorem x_oTup {xs : List O} : oTup xs k = ∃ ds, unf xs = some ds ∧ ds.length ≤ szMax ∧ k (.fz (.tuple ds)) := rfl
@[simp] theorem x_oAdd3 {ds es : List PyData} : oAdd [.lf ds, .lf es] k = (ds.length + es.length ≤ szMax ∧ k (.lf (ds ++ es))) := by simp [oAdd]
@[simp] theorem x_oAdd4 {ds es : List PyData} : oAdd [.lf ds, .fz (.list es)] k = (ds.length + es.length ≤ szMax ∧ k (.lf (ds ++ es))) := by simp [oAdd]
@[simp] theorem x_oAdd5 {ds es : List PyData} : oAdd [.fz (.list ds), .lf es] k = (ds.length + es.length ≤ szMax ∧ k (.lf (ds ++ es))) := by simp [oAdd]
@[simp] theorem x_oAdd6 {ds es : List PyData} : oAdd [.fz (.list ds), .fz (.list es)] k = (ds.length + es.length ≤ szMax ∧ k (.lf (ds ++ es))) := by simp [oAdd]
@[simp] theorem x_oAdd7 {ds es : List PyData} : oAdd [.fz (.tuple ds), .fz (.tuple es)] k = (ds.length + es.length ≤ szMax ∧ k (.fz (.tuple (ds ++ es)))) := by simp [oAdd]
@[simp] theorem x_oMulA1 {a b : Int} : oMulA [.fz (.int a), .fz (.int b)] k = (CMulW a b ∧ k (.fz (.int (a * b)))) := rfl
@[simp] theorem x_oMulA2 {ds : List PyData} {a : Int} : oMulA [.lf ds, .fz (.int a)] k = (a ≤ 1000000 ∧ -1000000 ≤ a ∧ ds.length * a.toNat ≤ szMax ∧ k (.lf (List.replicate a.toNat ds).flatten)) := by simp [oMulA]
@[simp] theorem x_toP1 : toP (.fz f) = f := rfl
@[simp] theorem x_toP2 {ds : List PyData} : toP (.lf ds) = .list ds := rfl
@[simp] theorem x_oEqI {a b : Int} {neg : Bool} : oEqA neg [.fz (.int a), .fz (.int b)] k = k (.fz (.bool (if neg then !decide (a = b) else decide (a = b)))) := propext ⟨fun h => h.2.2, fun h => ⟨rfl, rfl, h⟩⟩
@[simp] theorem x_oEqS {a b : Str} {neg : Bool} : oEqA neg [.fz (.str a), .fz (.str b)] k = k (.fz (.bool (if neg then !decide (a = b) else decide (a = b)))) := rfl
theorem x_oEqG {x y : O} {neg : Bool} (h1 : SeqAt.shaped (toP x) = true) (h2 : SeqAt.shaped (toP y) = true) (h : k (.fz (.bool (if neg then !PyData.eqv (toP x) (toP y) else PyData.eqv (toP x) (toP y))))) : oEqA neg [x, y] k := by
  unfold oEqA
  split
  · rename_i a b e
    simp only [List.cons.injEq, and_true] at e
    obtain ⟨rfl, rfl⟩ := e
    have z : PyData.eqv (.str a) (.str b) = decide (a = b) := by
      rw [Bool.eq_iff_iff]
      simp [PyData.eqv]
    simp only [x_toP1, z] at h
    exact h
  · exact ⟨h1, h2, h⟩
@[simp] theorem x_isN {neg : Bool} : oIsN neg [.fz f, .fz .none] k = k (.fz (.bool (if neg then !isNoneO (.fz f) else isNoneO (.fz f)))) := rfl
@[simp] theorem x_isNo1 : isNoneO (.fz .none) = true := rfl
@[simp] theorem x_isNo2 {a : Int} : isNoneO (.fz (.int a)) = false := rfl
@[simp] theorem x_isNo3 {ds : List PyData} : isNoneO (.fz (.tuple ds)) = false := rfl
@[simp] theorem x_isNo4 {ds : List PyData} : isNoneO (.fz (.list ds)) = false := rfl
@[simp] theorem x_len1 {ds : List PyData} : oLen [.fz (.list ds)] k = k (.fz (.int ds.length)) := by simp [oLen, lenO]
@[simp] theorem x_len2 {ds : List PyData} : oLen [.fz (.tuple ds)] k = k (.fz (.int ds.length)) := by simp [oLen, lenO]
@[simp] theorem x_len3 {ds : List PyData} : oLen [.lf ds] k = k (.fz (.int ds.length)) := by simp [oLen, lenO]
@[simp] theorem x_len4 {ns : List Int} : oLen [.scr ns] k = k (.fz (.int ns.length)) := by simp [oLen, lenO]
@[simp] theorem x_ix1 {ds : List PyData} {a : Int} : oIx [.fz (.list ds), .fz (.int a)] k = ∃ d, atI ds a = some d ∧ k (.fz d) := by simp [oIx, itemO, seqO]
@[simp] theorem x_ix2 {ds : List PyData} {a : Int} : oIx [.fz (.tuple ds), .fz (.int a)] k = ∃ d, atI ds a = some d ∧ k (.fz d) := by simp [oIx, itemO, seqO]
@[simp] theorem x_ix3 {ds : List PyData} {a : Int} : oIx [.lf ds, .fz (.int a)] k = ∃ d, atI ds a = some d ∧ k (.fz d) := by simp [oIx, itemO, seqO]
@[simp] theorem x_ix4 {ns : List Int} {a : Int} : oIx [.scr ns, .fz (.int a)] k = ∃ d, atI (ns.map PyData.int) a = some d ∧ k (.fz d) := by simp [oIx, itemO, seqO]
@[simp] theorem x_item {ds : List PyData} {a : Int} : itemO (.lf ds) a = atI ds a := by simp [itemO, seqO]
@[simp] theorem x_max2 {a b : Int} : oMax2 [.fz (.int a), .fz (.int b)] k = k (.fz (.int (max a b))) := by
  show k (.fz (.int (if b > a then b else a))) = _
  congr 3
  omega
@[simp] theorem x_min2 {a b : Int} : oMin2 [.fz (.int a), .fz (.int b)] k = k (.fz (.int (min a b))) := by
  show k (.fz (.int (if b < a then b else a))) = _
  congr 3
  omega
@[simp] theorem x_list1 {ds : List PyData} : oList [.fz (.tuple ds)] k = k (.lf ds) := by simp [oList]
@[simp] theorem x_list2 {ds : List PyData} : oList [.fz (.list ds)] k = k (.lf ds) := by simp [oList]
@[simp] theorem x_list3 {ds : List PyData} : oList [.lf ds] k = k (.lf ds) := by simp [oList]
@[simp] theorem x_tuple1 {ds : List PyData} : oTuple [.fz (.tuple ds)] k = k (.fz (.tuple ds)) := by simp [oTuple]
@[simp] theorem x_tuple2 {ds : List PyData} : oTuple [.fz (.list ds)] k = k (.fz (.tuple ds)) := by simp [oTuple]
@[simp] theorem x_tuple3 {ds : List PyData} : oTuple [.lf ds] k = k (.fz (.tuple ds)) := by simp [oTuple]
@[simp] theorem x_back_L {ds : List PyData} : oBack [.lf ds] k = k (.lf ds.reverse) := by simp [oBack]
@[simp] theorem x_back_F {ds : List PyData} : oBack [.fz (.list ds)] k = k (.lf ds.reverse) := by simp [oBack]
@[simp] theorem x_back_T {ds : List PyData} : oBack [.fz (.tuple ds)] k = k (.fz (.tuple ds.reverse)) := by simp [oBack]
@[simp] theorem x_sl1 {ds : List PyData} {lo hi : Option Int} : oSl lo hi (.lf ds) k = k (.lf (cutP ds lo hi)) := by simp [oSl]
@[simp] theorem x_sl2 {ds : List PyData} {lo hi : Option Int} : oSl lo hi (.fz (.list ds)) k = k (.lf (cutP ds lo hi)) := by simp [oSl]
@[simp] theorem x_sl3 {ds : List PyData} {lo hi : Option Int} : oSl lo hi (.fz (.tuple ds)) k = k (.fz (.tuple (cutP ds lo hi))) := by simp [oSl]
@[simp] theorem x_sl4 {ns : List Int} {lo hi : Option Int} : oSl lo hi (.scr ns) k = k (.lf ((cutP ns lo hi).map PyData.int)) := rfl
@[simp] theorem x_sl5 {x : Str} {lo hi : Option Int} : oSl lo hi (.fz (.str x)) k = (x.length ≤ szMax ∧ k (.fz (.str (cutS x lo hi)))) := rfl
@[simp] theorem x_pb0 {k : Option Int → En → Prop} : wPB .no ρ k = k none ρ := rfl
@[simp] theorem x_pb1 {k : Option Int → En → Prop} : wPB (.of w) ρ k = w ρ fun d ρ1 => asI d fun i => k (some i) ρ1 := rfl
@[simp] theorem x_wSlE {lo hi : PB} : wSl (.ex w) lo hi ρ R = w ρ fun d ρ1 => wPB lo ρ1 fun l ρ2 => wPB hi ρ2 fun u ρ3 => oSl l u d fun z => R z ρ3 := rfl
@[simp] theorem x_wSlN {lo hi : PB} : wSl (.nm i) lo hi ρ R = notHid (nth ρ i) (wPB lo ρ fun l ρ2 => wPB hi ρ2 fun u ρ3 => oSl l u (nth ρ3 i) fun z => R z ρ3) := rfl
@[simp] theorem x_wiS {R : List PyData → En → Prop} : wiS w ρ R = w ρ fun d ρ1 => ∃ f, frO d = some f ∧ asSf (.fz f) fun ds => R ds ρ1 := rfl
@[simp] theorem x_wiE {R : List PyData → En → Prop} : wiE w ρ R = w ρ fun d ρ1 => ∃ f, frO d = some f ∧ asSf (.fz f) fun ds => R (enumL ds) ρ1 := rfl
@[simp] theorem x_asS1 {ds : List PyData} {k : List PyData → Prop} : asSf (.fz (.list ds)) k = k ds := rfl
@[simp] theorem x_asS2 {ds : List PyData} {k : List PyData → Prop} : asSf (.fz (.tuple ds)) k = k ds := rfl
@[simp] theorem x_wiR1 {R : List PyData → En → Prop} : wiR1 w ρ R = w ρ fun d ρ1 => asI d fun n => smallI n ∧ R (rangeL 0 n.toNat) ρ1 := rfl
@[simp] theorem x_wiR2 {R : List PyData → En → Prop} : wiR2 w w2 ρ R = w ρ fun d ρ1 => asI d fun a => w2 ρ1 fun d2 ρ2 => asI d2 fun b => smallI a ∧ smallI b ∧ R (rangeL a (b - a).toNat) ρ2 := rfl
@[simp] theorem x_wiR3 {R : List PyData → En → Prop} : wiR3 w w2 w3 ρ R = w ρ fun d ρ1 => asI d fun a => w2 ρ1 fun d2 ρ2 => asI d2 fun b => w3 ρ2 fun d3 ρ3 => asI d3 fun c => c = -1 ∧ smallI a ∧ smallI b ∧ R (rangeC a (-1) (a - b).toNat) ρ3 := rfl
@[simp] theorem x_wLc {own : List Nat} : wLc wi gg wt w own ρ R = wi ρ fun items ρ1 => items.length ≤ szMax ∧ lcN gg wt w own (fun out ρ2 => R (.ol out) (wipeO ρ2 own)) items ρ1 [] := rfl
@[simp] theorem x_wYes : wYes ρ T = T true ρ := rfl
@[simp] theorem x_wipe0 : wipeO ρ [] = ρ := rfl
@[simp] theorem x_wipe1 {v : Nat} {vs : List Nat} : wipeO ρ (v :: vs) = (wipeO ρ vs).set v .hid := rfl
@[simp] theorem x_dict0 : wDict0 ρ R = R (.df []) ρ := rfl
@[simp] theorem x_repr : oRepr [.fz f] k = (okP f = true ∧ f.depth ≤ 40 ∧ k (.fz (.str f.shown))) := by simp [oRepr, plainO]
@[simp] theorem x_reprL {ds : List PyData} : oRepr [.lf ds] k = (okP (.list ds) = true ∧ (PyData.list ds).depth ≤ 40 ∧ k (.fz (.str (PyData.list ds).shown))) := by simp [oRepr, plainO]
@[simp] theorem x_isi {T : String} : oIsi T [.fz f] k = ∃ t, tyO (.fz f) = some t ∧ k (.fz (.bool (isSub t T))) := rfl
@[simp] theorem x_in1 {ds : List PyData} {neg : Bool} : oIn neg [.fz d, .fz (.tuple ds)] k = (flatD d = true ∧ ds.all flatD = true ∧ k (.fz (.bool (if neg then !inD d ds else inD d ds)))) := by simp [oIn, vS]
@[simp] theorem x_in2 {ds : List PyData} {neg : Bool} : oIn neg [.fz d, .fz (.list ds)] k = (flatD d = true ∧ ds.all flatD = true ∧ k (.fz (.bool (if neg then !inD d ds else inD d ds)))) := by simp [oIn, vS]
@[simp] theorem x_wTR1 : wTR1 w ρ R = w ρ fun d ρ1 => asI d fun n => n ≤ szMax ∧ -1000000000 ≤ n ∧ R (.fz (.tuple (rangeL 0 n.toNat))) ρ1 := rfl
@[simp] theorem x_wLR1 : wLR1 w ρ R = w ρ fun d ρ1 => asI d fun n => n ≤ szMax ∧ -1000000000 ≤ n ∧ R (.lf (rangeL 0 n.toNat)) ρ1 := rfl
@[simp] theorem x_wTR2 : wTR2 w w2 ρ R = w ρ fun d ρ1 => asI d fun a => w2 ρ1 fun d2 ρ2 => asI d2 fun b => smallI a ∧ smallI b ∧ b - a ≤ szMax ∧ R (.fz (.tuple (rangeL a (b - a).toNat))) ρ2 := rfl
@[simp] theorem x_wLR2 : wLR2 w w2 ρ R = w ρ fun d ρ1 => asI d fun a => w2 ρ1 fun d2 ρ2 => asI d2 fun b => smallI a ∧ smallI b ∧ b - a ≤ szMax ∧ R (.lf (rangeL a (b - a).toNat)) ρ2 := rfl
@[simp] theorem x_wJoin : wJoin w w2 ρ R = w ρ fun d ρ1 => asF d fun f => match f with
  | .str a => w2 ρ1 fun d2 ρ2 => ∃ ds ys, vS d2 = some ds ∧ asStrs ds = some ys ∧ (ys.map (·.length)).sum + ys.length * a.length ≤ szMax ∧ R (.fz (.str (Txt.join a ys))) ρ2
  | _ => False := rfl
@[simp] theorem x_forN0 : forN gg s E [] ρ = E.nx ρ := rfl
end
end Pt
namespace Pt
open PySem PySem.Spec L2
section
variable {g : WG} {s : WS} {E : DE} {wt : WT} {w : WE} {own : List Nat} {k : List O → En → Prop} {R : En → Prop}
theorem for_go : ∀ (items : List PyData) (P : Nat → En → Prop) (ρ : En), (∀ i d, items[i]? = some d → ∀ ρ, P i ρ → ∀ N : En → Prop, (∀ ρ', P (i + 1) ρ' → N ρ') → g (.fz d) ρ fun ρ1 => s { E with nx := N, ct := N, bk := E.nx } ρ1) → P 0 ρ → (∀ ρ', P items.length ρ' → E.nx ρ') → forN g s E items ρ
  | [], P, ρ, h, h0, hn => hn ρ h0
  | d :: r, P, ρ, h, h0, hn => h 0 d rfl ρ h0 (forN g s E r) fun ρ' h1 => for_go r (fun i => P (i + 1)) ρ' (fun i d e => h (i + 1) d e) h1 hn
theorem lc_go : ∀ (items : List PyData) (P : Nat → List O → En → Prop) (ρ : En) (acc : List O), (∀ i d, items[i]? = some d → ∀ acc ρ, P i acc ρ → ∀ (K1 : O → En → Prop) (K0 : En → Prop), (∀ y ρ3, P (i + 1) (acc ++ [y]) ρ3 → K1 y ρ3) → (∀ ρ2, P (i + 1) acc ρ2 → K0 ρ2) → g (.fz d) (wipeO ρ own) fun ρ1 => wt ρ1 fun b ρ2 => br b (w ρ2 K1) (K0 ρ2)) →
    P 0 acc ρ → (∀ acc' ρ', P items.length acc' ρ' → k acc' ρ') → lcN g wt w own k items ρ acc
  | [], P, ρ, acc, h, h0, hn => hn acc ρ h0
  | d :: r, P, ρ, acc, h, h0, hn => h 0 d rfl acc ρ h0 (fun y ρ3 => lcN g wt w own k r ρ3 (acc ++ [y])) (fun ρ2 => lcN g wt w own k r ρ2 acc) (fun y ρ3 h1 => lc_go r (fun i => P (i + 1)) ρ3 _ (fun i d e => h (i + 1) d e) h1 hn) fun ρ2 h1 => lc_go r (fun i => P (i + 1)) ρ2 _ (fun i d e => h (i + 1) d e) h1 hn
theorem while_go (P : Nat → En → Prop) (h : ∀ m ρ, P m ρ → ∀ N : En → Prop, (∀ m' ρ', m = m' + 1 → P m' ρ' → N ρ') → wt ρ fun b ρ1 => br b (s { E with nx := N, ct := N, bk := E.nx } ρ1) (E.nx ρ1)) : ∀ (m : Nat) (ρ : En), P m ρ → whileN wt s E (m + 1) ρ
  | 0, ρ, h0 => h 0 ρ h0 _ fun m' ρ' e => nomatch e
  | m + 1, ρ, h0 => h (m + 1) ρ h0 (whileN wt s E (m + 1)) fun m' ρ' e h1 => by
    cases e
    exact while_go P h m ρ' h1
theorem while_at (P : Nat → En → Prop) (m : Nat) (ρ : En) (h : ∀ m ρ, P m ρ → ∀ N : En → Prop, (∀ m' ρ', m = m' + 1 → P m' ρ' → N ρ') → wt ρ fun b ρ1 => br b (s { E with nx := N, ct := N, bk := E.nx } ρ1) (E.nx ρ1)) (h0 : P m ρ) : sWhile wt s E ρ := ⟨m + 1, while_go P h m ρ h0⟩
end
mutual
def wgt : PyData → Nat
  | .none => 4
  | .bool _ => 5
  | .int i => i.natAbs.log2 + 2
  | .str x => 10 * x.length + 2
  | .list ds => 2 + wgts ds
  | .tuple ds => 3 + wgts ds
  | .dict kvs => 2 + wgtk kvs
def wgts : List PyData → Nat
  | [] => 0
  | d :: ds => wgt d + 2 + wgts ds
def wgtk : List (PyData × PyData) → Nat
  | [] => 0
  | (k, v) :: r => wgt k + wgt v + 4 + wgtk r
end
mutual
def valD : PyData → Bool
  | .none => true
  | .bool _ => true
  | .int i => decide (i.natAbs.log2 < 1920)
  | .str x => x.cps.toList.all fun c => decide (c < 16 ^ 8)
  | .list ds => valDs ds
  | .tuple ds => valDs ds
  | .dict kvs => valDk kvs
def valDs : List PyData → Bool
  | [] => true
  | d :: ds => valD d && valDs ds
def valDk : List (PyData × PyData) → Bool
  | [] => true
  | (k, v) :: r => keyP k && valD k && valD v && valDk r
end
theorem wgts_le {c : Nat} : ∀ {ds : List PyData}, (∀ d ∈ ds, wgt d ≤ c) → wgts ds ≤ ds.length * (c + 2)
  | [], _ => Nat.zero_le _
  | d :: ds, h => by
    have h1 := h d (List.mem_cons_self ..)
    have h2 := wgts_le (c := c) fun x hx => h x (List.mem_cons_of_mem _ hx)
    show wgt d + 2 + wgts ds ≤ (ds.length + 1) * (c + 2)
    rw [Nat.add_mul]
    omega
theorem valDs_iff : ∀ {ds : List PyData}, valDs ds = true ↔ ∀ d ∈ ds, valD d = true
  | [] => by simp [valDs]
  | d :: ds => by simp [valDs, valDs_iff (ds := ds)]
theorem piled_text {ts : List Str} : (listText ts).length ≤ piled ts + 2 := by
  unfold listText
  rw [strLen_append]
  cases ts with
  | nil => decide
  | cons t r =>
    have e : textFrom 0 "[" (t :: r) = textFrom 1 (("[" : Str) ++ ("" : String) ++ t) r := rfl
    rw [e, textFrom_length_pos r 1 _ (by decide), strLen_append, strLen_append, piled_cons]
    show 1 + 0 + t.length + piled r + 1 ≤ _
    omega
theorem join_len : ∀ ts : List Str, (Str.join ", " ts).length ≤ piled ts
  | [] => Nat.le_refl _
  | t :: r => by
    have := join_length_add (t :: r) (List.cons_ne_nil _ _)
    omega
mutual
theorem shown_le : ∀ d : PyData, valD d = true → d.shown.length ≤ wgt d
  | .none, _ => by simp only [PyData.shown, wgt]; decide
  | .bool b, _ => by cases b <;> simp only [PyData.shown, wgt] <;> decide
  | .int i, h => by
    simp only [valD, decide_eq_true_eq] at h
    simp only [PyData.shown, wgt]
    rw [ofString_length]
    exact int_text_length_le (k := i.natAbs.log2 + 1) (Nat.succ_pos _) (Nat.lt_succ_self _)
  | .str x, h => by
    simp only [PyData.shown, wgt]
    simp only [valD, List.all_eq_true, decide_eq_true_eq] at h
    exact PySem.StrLaws.reprText_len x h
  | .list ds, h => by
    simp only [PyData.shown, wgt]
    have := shownAll_le ds h
    have := piled_text (ts := PyData.shownAll ds)
    omega
  | .tuple ds, h => by
    simp only [PyData.shown, wgt]
    have := shownAll_le ds h
    have := join_len (PyData.shownAll ds)
    unfold tupleText
    rw [strLen_append, strLen_append]
    have e : (Str.ofString (if ((PyData.shownAll ds).length == 1) = true then ",)" else ")")).length ≤ 2 := by
      split <;> decide
    have e1 : ("(" : Str).length = 1 := rfl
    omega
  | .dict kvs, h => by
    simp only [PyData.shown, wgt]
    have := shownKv_le kvs h
    have := join_len (PyData.shownKv kvs)
    unfold dictText
    rw [strLen_append, strLen_append]
    have e1 : ("{" : Str).length = 1 := rfl
    have e2 : ("}" : Str).length = 1 := rfl
    omega
theorem shownAll_le : ∀ ds : List PyData, valDs ds = true → piled (PyData.shownAll ds) ≤ wgts ds
  | [], _ => by simp only [PyData.shownAll, wgts]; decide
  | d :: ds, h => by
    simp only [valDs, Bool.and_eq_true] at h
    simp only [PyData.shownAll, wgts, piled_cons]
    have := shown_le d h.1
    have := shownAll_le ds h.2
    omega
theorem shownKv_le : ∀ ds : List (PyData × PyData), valDk ds = true → piled (PyData.shownKv ds) ≤ wgtk ds
  | [], _ => by simp only [PyData.shownKv, wgtk]; decide
  | (k, v) :: ds, h => by
    simp only [valDk, Bool.and_eq_true] at h
    simp only [PyData.shownKv, wgtk, piled_cons]
    rw [strLen_append, strLen_append]
    have := shown_le k h.1.1.2
    have := shown_le v h.1.2
    have := shownKv_le ds h.2
    have e1 : (": " : Str).length = 2 := rfl
    omega
end
mutual
theorem okP_of : ∀ d : PyData, valD d = true → wgt d ≤ szMax → okP d = true
  | .none, _, _ => rfl
  | .bool _, _, _ => rfl
  | .int i, h, _ => h
  | .str x, h, hz => decide_eq_true (Nat.le_trans (shown_le (.str x) h) hz)
  | .list ds, h, hz => by
    have z := Nat.le_trans (shown_le (.list ds) h) hz
    simp only [wgt] at hz
    simp only [okP, okPs_of ds h (by omega), decide_eq_true z, Bool.and_self]
  | .tuple ds, h, hz => by
    have z := Nat.le_trans (shown_le (.tuple ds) h) hz
    simp only [wgt] at hz
    simp only [okP, okPs_of ds h (by omega), decide_eq_true z, Bool.and_self]
  | .dict ds, h, hz => by
    have z := Nat.le_trans (shown_le (.dict ds) h) hz
    simp only [wgt] at hz
    simp only [okP, okKv_of ds h (by omega), decide_eq_true z, Bool.and_self]
theorem okPs_of : ∀ ds : List PyData, valDs ds = true → wgts ds ≤ szMax → okPs ds = true
  | [], _, _ => rfl
  | d :: ds, h, hz => by
    simp only [valDs, Bool.and_eq_true] at h
    simp only [wgts] at hz
    simp only [okPs, okP_of d h.1 (by omega), okPs_of ds h.2 (by omega), Bool.and_self]
theorem okKv_of : ∀ ds : List (PyData × PyData), valDk ds = true → wgtk ds ≤ szMax → okKv ds = true
  | [], _, _ => rfl
  | (k, v) :: ds, h, hz => by
    simp only [valDk, Bool.and_eq_true] at h
    simp only [wgtk] at hz
    simp only [okKv, h.1.1.1, okP_of k h.1.1.2 (by omega), okP_of v h.1.2 (by omega), okKv_of ds h.2 (by omega), Bool.and_self]
end
theorem cmul_ok {i j : Int} (a1 : -(2 ^ 400) < i) (a2 : i < 2 ^ 400) (b1 : -(2 ^ 400) < j) (b2 : j < 2 ^ 400) : CMulW i j := wide_mul (a := 400) (b := 400) (by omega) (by omega) (by decide) (by decide) (by decide)
theorem cdiv_ok {i j : Int} (h : 0 < j) (b2 : j < 2 ^ 400) : CDivW i j := wide_div (b := 400) h (by omega) (by decide) (by decide)
theorem enumL_at {ds : List PyData} {i : Nat} {d : PyData} (h : (enumL ds)[i]? = some d) : ∃ x, ds[i]? = some x ∧ d = .tuple [.int (i : Nat), x] := by
  unfold enumL at h
  rw [List.getElem?_map, List.getElem?_zipIdx] at h
  cases q : ds[i]? with
  | none => rw [q] at h; cases h
  | some x =>
    rw [q] at h
    cases h
    exact ⟨x, rfl, by simp⟩
theorem rangeL_at {lo : Int} {n i : Nat} {d : PyData} (h : (rangeL lo n)[i]? = some d) : i < n ∧ d = .int (lo + (i : Nat)) := by
  unfold rangeL at h
  rw [List.getElem?_map] at h
  cases q : (List.range n)[i]? with
  | none => rw [q] at h; cases h
  | some x =>
    rw [q] at h
    cases h
    obtain ⟨h1, h2⟩ := List.getElem?_eq_some_iff.mp q
    rw [List.length_range] at h1
    rw [List.getElem_range] at h2
    exact ⟨h1, by rw [h2]⟩
@[simp] theorem rangeL_len {lo : Int} {n : Nat} : (rangeL lo n).length = n := by simp [rangeL]
@[simp] theorem rangeC_len {lo c : Int} {n : Nat} : (rangeC lo c n).length = n := by simp [rangeC]
@[simp] theorem enumL_lenS {ds : List PyData} : (enumL ds).length = ds.length := enumL_len ds
@[simp] theorem x_toLf2 {ds : List PyData} {k : O → Prop} : toLf (.ol (ds.map O.fz)) k = k (.lf ds) := propext ⟨fun ⟨es, e, h⟩ => by
  have : ds = es := by
    have := congrArg unf e
    simpa using this
  rw [this]
  exact h, fun h => ⟨ds, rfl, h⟩⟩
@[simp] theorem x_oAll {bs : List Bool} {k : O → Prop} : oAll [.lf (bs.map PyData.bool)] k = k (.fz (.bool (bs.all id))) := by simp [oAll, asBools_map]
theorem lc_eq {g : WG} {wt : WT} {w : WE} {own : List Nat} {k : List O → En → Prop} {items : List PyData} {ρ : En} (F : List PyData) (P : En → Prop) (hF : F.length = items.length) (h : ∀ (i : Nat) (d y : PyData), items[i]? = some d → F[i]? = some y → ∀ ρ, P ρ → ∀ (K1 : O → En → Prop) (K0 : En → Prop), (∀ ρ', P ρ' → K1 (.fz y) ρ') → g (.fz d) (wipeO ρ own) fun ρ1 => wt ρ1 fun b ρ2 => br b (w ρ2 K1) (K0 ρ2))
    (h0 : P ρ) (hn : ∀ ρ', P ρ' → k (F.map O.fz) ρ') : lcN g wt w own k items ρ [] := by
  refine lc_go items (fun i acc ρ => P ρ ∧ acc = (F.take i).map O.fz) ρ [] (fun i d e acc ρ ⟨hp, ha⟩ K1 K0 h1 h2 => ?_) ⟨h0, by simp⟩ fun acc ρ ⟨hp, ha⟩ => ?_
  · have hi : i < F.length := by rw [hF]; exact (List.getElem?_eq_some_iff.mp e).1
    have ey : F[i]? = some F[i] := List.getElem?_eq_getElem hi
    refine h i d _ e ey ρ hp K1 K0 fun ρ' hp' => h1 _ _ ⟨hp', ?_⟩
    rw [ha, List.take_add_one, ey, List.map_append]
    rfl
  · rw [← hF, List.take_length] at ha
    subst ha
    exact hn ρ hp
end Pt
namespace Pt
open PySem PySem.Spec L2
def nI (l : List Nat) : List PyData := l.map fun n => .int (n : Nat)
@[simp] theorem nI_nil : nI [] = [] := rfl
@[simp] theorem nI_cons {x : Nat} {l : List Nat} : nI (x :: l) = .int (x : Nat) :: nI l := rfl
@[simp] theorem nI_len {l : List Nat} : (nI l).length = l.length := List.length_map _
@[simp] theorem nI_get {l : List Nat} {i : Nat} : (nI l)[i]? = (l[i]?).map fun n => PyData.int (n : Nat) := by simp [nI]
theorem nI_append {l r : List Nat} : nI (l ++ r) = nI l ++ nI r := List.map_append ..
theorem at_nat {ds : List PyData} {i : Nat} {d : PyData} (h : ds[i]? = some d) : atI ds (i : Nat) = some d := by
  have hi := (List.getElem?_eq_some_iff.mp h).1
  unfold atI ixN
  rw [if_pos (by omega), if_pos (by omega)]
  exact h
theorem at_int {ds : List PyData} {i : Nat} {j : Int} {d : PyData} (e : j = (i : Nat)) (h : ds[i]? = some d) : atI ds j = some d := by
  rw [e]
  exact at_nat h
theorem at_last {ds : List PyData} {d : PyData} : atI (ds ++ [d]) (-1) = some d := by
  unfold atI ixN
  rw [if_neg (by omega), if_pos (by rw [List.length_append]; show -(((ds.length + 1 : Nat)) : Int) ≤ -1; omega)]
  have e : (-1 + ((ds ++ [d]).length : Int)).toNat = ds.length := by
    rw [List.length_append]
    show (-1 + ((ds.length + 1 : Nat) : Int)).toNat = ds.length
    omega
  show (ds ++ [d])[(-1 + ((ds ++ [d]).length : Int)).toNat]? = some d
  rw [e]
  simp
theorem ix_nat {n i : Nat} (h : i < n) : ixN n (i : Nat) = some i := by
  unfold ixN
  rw [if_pos (by omega), if_pos (by omega)]
  rfl
theorem log_lt {x b : Nat} (h0 : 0 < b) (h : x < 2 ^ b) : x.log2 < b := PySem.Flt.log2_lt_of h0 h
theorem int_val {i : Int} (h : i.natAbs < 2 ^ 200) : valD (.int i) = true := by
  have := log_lt (b := 200) (by decide) h
  simp only [valD, decide_eq_true_eq]
  omega
theorem int_wgt {i : Int} {b : Nat} (h0 : 0 < b) (h : i.natAbs < 2 ^ b) : wgt (.int i) ≤ b + 1 := by
  have := log_lt h0 h
  simp only [wgt]
  omega
mutual
theorem depth_flat : ∀ ds : List PyData, ds.all flatD = true → PyData.depthAll ds = 0
  | [], _ => rfl
  | d :: ds, h => by
    rw [List.all_cons, Bool.and_eq_true] at h
    simp only [PyData.depthAll, depth_flat ds h.2]
    cases d <;> simp_all [flatD, PyData.depth]
end
theorem nI_flat (l : List Nat) : (nI l).all flatD = true := by
  rw [List.all_eq_true]
  intro d hd
  obtain ⟨x, _, rfl⟩ := List.mem_map.mp hd
  rfl
def PlantOk (p : List Nat) : Prop := p.length < 40 ∧ ∀ (i x : Nat), p[i]? = some x → x ≤ i
def tupN (p : List Nat) : PyData := .tuple (nI p)
theorem PlantOk.small {p : List Nat} (h : PlantOk p) : ∀ x ∈ p, x < 40 := fun x hx => by
  obtain ⟨i, hi⟩ := List.getElem?_of_mem hx
  have h1 := h.2 i x hi
  have h2 := (List.getElem?_eq_some_iff.mp hi).1
  have h3 := h.1
  omega
theorem PlantOk.le {p : List Nat} (h : PlantOk p) {i : Nat} (hi : i < p.length) : p[i] ≤ i := h.2 i _ (List.getElem?_eq_getElem hi)
theorem PlantOk.nil : PlantOk [] := ⟨by decide, fun i x h => by simp at h⟩
theorem PlantOk.push {p : List Nat} (h : PlantOk p) {x : Nat} (hx : x ≤ p.length) (hl : p.length + 1 < 40) : PlantOk (p ++ [x]) := by
  refine ⟨by rw [List.length_append]; exact hl, fun i y e => ?_⟩
  by_cases hi : i < p.length
  · rw [List.getElem?_append_left hi] at e
    exact h.2 i y e
  · rw [List.getElem?_append_right (by omega)] at e
    have z := (List.getElem?_eq_some_iff.mp e).1
    have e2 : i - p.length = 0 := by simp at z; omega
    rw [e2] at e
    cases e
    omega
def path (p : List Nat) : Nat → Nat → List Nat
  | 0, _ => []
  | _ + 1, 0 => [0]
  | k + 1, s + 1 => (s + 1) :: path p k (p[s]?.getD 0)
def way (p : List Nat) (s : Nat) : List Nat := path p (s + 1) s
theorem path_fuel {p : List Nat} (h : PlantOk p) : ∀ k s, s < k → path p k s = way p s := by
  have main : ∀ k j s, s < k → s < j → path p k s = path p j s := fun k => by
    induction k with
    | zero => intro j s h1; omega
    | succ k ih =>
      intro j s h1 h2
      cases j with
      | zero => omega
      | succ j =>
        cases s with
        | zero => rfl
        | succ s =>
          show (s + 1) :: _ = (s + 1) :: _
          have hs : p[s]?.getD 0 ≤ s := by
            cases e : p[s]? with
            | none => exact Nat.zero_le _
            | some x => exact h.2 s x e
          rw [ih j _ (by omega) (by omega)]
  exact fun k s hs => main k (s + 1) s hs (Nat.lt_succ_self s)
theorem way_zero (p : List Nat) : way p 0 = [0] := rfl
theorem way_succ {p : List Nat} (h : PlantOk p) {s x : Nat} (e : p[s]? = some x) : way p (s + 1) = (s + 1) :: way p x := by
  have hx := h.2 s x e
  show (s + 1) :: path p (s + 1) (p[s]?.getD 0) = _
  rw [e]
  exact congrArg _ (path_fuel h _ _ (show x < s + 1 by omega))
theorem way_le {p : List Nat} (h : PlantOk p) : ∀ s x, x ∈ way p s → x ≤ s := by
  have main : ∀ k s x, x ∈ path p k s → x ≤ s := fun k => by
    induction k with
    | zero => intro s x hx; cases hx
    | succ k ih =>
      intro s x hx
      cases s with
      | zero =>
        rw [show path p (k + 1) 0 = [0] from rfl] at hx
        simp at hx
        omega
      | succ s =>
        rcases List.mem_cons.mp hx with rfl | hx
        · exact Nat.le_refl _
        · have := ih _ x hx
          have hs : p[s]?.getD 0 ≤ s := by
            cases e : p[s]? with
            | none => exact Nat.zero_le _
            | some x => exact h.2 s x e
          omega
  exact fun s x hx => main _ s x hx
theorem way_len {p : List Nat} (h : PlantOk p) (s : Nat) : (way p s).length ≤ s + 1 := by
  have main : ∀ k s, (path p k s).length ≤ k := fun k => by
    induction k with
    | zero => exact fun s => Nat.le_refl _
    | succ k ih =>
      intro s
      cases s with
      | zero => exact Nat.succ_le_succ (Nat.zero_le _)
      | succ s => exact Nat.succ_le_succ (ih _)
  exact main _ _
def under (p : List Nat) (i s : Nat) : List Nat := ((List.range i).filter fun k => p[k]? == some s).map (· + 1)
theorem under_succ (p : List Nat) (i s : Nat) : under p (i + 1) s = under p i s ++ (if p[i]? == some s then [i + 1] else []) := by
  unfold under
  rw [List.range_succ, List.filter_append, List.map_append]
  congr 1
  by_cases h : (p[i]? == some s) = true
  · simp [h]
  · simp [h]
@[simp] theorem x_wMu2 {i : Nat} {wk : WE} {ws : List WE} {lm : O → List O → (O → O → Prop) → Prop} {ρ : En} {R : O → En → Prop} : wMu2 i wk ws lm ρ R = notHid (nth ρ i) (wk ρ fun kd ρ1 => asI kd fun k => asOl (nth ρ1 i) fun xs => ∃ j y, ixN xs.length k = some j ∧ xs[j]? = some y ∧ isLst y = true ∧ wADs (exs ws) (ρ1.set i .hid) fun ds ρ2 => nth ρ2 i = .hid ∧ lm y (fillA (exs ws) ds ρ2) fun y' z => R z (ρ2.set i (.ol (xs.set j y')))) := rfl
@[simp] theorem x_asOl {xs : List O} {k : List O → Prop} : asOl (.ol xs) k = k xs := rfl
theorem way_self {p : List Nat} (h : PlantOk p) {s : Nat} (hs : s ≤ p.length) : s ∈ way p s := by
  cases s with
  | zero => exact List.mem_cons_self ..
  | succ s => rw [way_succ h (List.getElem?_eq_getElem (show s < p.length by omega))]; exact List.mem_cons_self ..
def cntP (p : List Nat) (m s t : Nat) : Bool := (way p t).contains s && (way p t).all fun x => decide (x ≤ s) || decide (m < x)
def cnt (p : List Nat) (m s : Nat) : Nat := (List.range (p.length + 1)).countP (cntP p m s)
end Pt
namespace Pt
open PySem PySem.Spec L2
def ixOk : List (Option O) → (O → Prop) → Prop
  | [some (.ol xs), some (.fz (.int i))], R => ∃ j y, ixN xs.length i = some j ∧ xs[j]? = some y ∧ R y
  | _, _ => False
def wIxO (w w2 : WE) : WE := fun ρ R => wADs [.ex w, .ex w2] ρ fun ds ρ1 => ixOk ds fun y => R y ρ1
theorem ixOk_iff {ds : List (Option O)} {R : O → Prop} (h : ixOk ds R) : ∃ xs i j y, ds = [some (.ol xs), some (.fz (.int i))] ∧ ixN xs.length i = some j ∧ xs[j]? = some y ∧ R y := by
  unfold ixOk at h
  split at h
  · obtain ⟨j, y, h1, h2, h3⟩ := h
    exact ⟨_, _, j, y, rfl, h1, h2, h3⟩
  · exact h.elim
theorem ixO_ok {K : PySem.W.Frag} {Z : Ent} {w w2 : WE} {σ : St} {H : Hp} {Q : VK} (h : tE K Z (wIxO w w2) σ H Q) : tADs K Z [.ex w, .ex w2] σ H fun vs H1 => r2L (rIx K) vs H1 Q := by
  obtain ⟨B, ρ, fp, R, k, h, q⟩ := h
  refine args_ok _ k h fun ds ρ' h1 vs τ xs H' B' fp' g n k1 => ?_
  obtain ⟨xs, i, j, y, rfl, hj, hy, h1⟩ := ixOk_iff h1
  cases g with
  | ex g =>
    cases g with
    | ex g =>
      cases g
      rename_i v1 v2
      obtain ⟨sub, un, rs, nd, out, nx⟩ := k1
      cases rs with
      | cons r rest =>
        cases r with
        | @ol a us _ fo e ros =>
          cases rest with
          | cons r2 rest =>
            cases r2 with
            | fz r2 =>
              cases r2
              rename_i f3
              obtain ⟨v, g1, g2, hv, ry, _, pm⟩ := ros.split hy
              have nd1 : (fo ++ f3).Nodup := by
                have := List.nodup_append.mp nd
                rw [List.nodup_append]
                exact ⟨(List.nodup_cons.mp this.1).2, by simpa using this.2.1, fun b hb c hc => this.2.2 b (List.mem_cons_of_mem _ hb) c (by simpa using hc)⟩
              have nd2 : ((g1 ++ g2) ++ f3).Nodup := (pm.append_right f3).nodup_iff.mp nd1
              have nd3 : (g1 ++ f3).Nodup := nd2.sublist ((List.sublist_append_left g1 g2).append_right f3)
              have hin : ∀ b ∈ g1 ++ f3, b ∈ (a :: fo) ++ ([] ++ f3) := fun b hb => by
                rcases List.mem_append.mp hb with z | z
                · exact List.mem_append_left _ (List.mem_cons_of_mem _ (pm.symm.subset (List.mem_append_left _ z)))
                · exact List.mem_append_right _ z
              have k2 : Ok K Z B' H' (some v :: σ) (y :: ρ') (g1 ++ f3) := ⟨sub, fun m hm => by
                cases m with
                | zero => cases hm
                | succ m => exact un (m + 2) hm, .cons ry rest, nd3, fun b hb => out b (hin b hb), nx.less hin⟩
              have hat : atI us i = some v := by
                unfold L2.atI
                rw [ros.length, hj]
                exact hv
              exact .inl ⟨a, us, i, v, rfl, rfl, SqL.of e, hat, q _ ρ' h1 _ H' B' _ (n.less hin) k2⟩
theorem e_ixO {X : Cx} {Z : Ent} {a b : Expr} {pos : Pos} {w w2 : WE} (ha : PE X a (tE X.K Z w)) (hb : PE X b (tE X.K Z w2)) (hs : PlainIx b) : PE X (.Subscript a b pos) (tE X.K Z (wIxO w w2)) :=
  pe_to (pe_ix ix_seq ha hb hs) fun σ H Q q => ixO_ok q
@[simp] theorem x_wIxO {w w2 : WE} {ρ : En} {R : O → En → Prop} : wIxO w w2 ρ R = w ρ fun d ρ1 => w2 ρ1 fun d2 ρ2 => ixOk [some d, some d2] fun y => R y ρ2 := rfl
@[simp] theorem x_ixOk {xs : List O} {i : Int} {k : O → Prop} : ixOk [some (.ol xs), some (.fz (.int i))] k = ∃ j y, ixN xs.length i = some j ∧ xs[j]? = some y ∧ k y := rfl
end Pt
namespace Pt
open PySem PySem.Spec L2
def shortD (n k : Nat) (d : PyData) : Prop := valD d = true ∧ wgt d ≤ n ∧ d.depth ≤ k
theorem depthAll_le {k : Nat} : ∀ {ds : List PyData}, (∀ d ∈ ds, d.depth ≤ k) → PyData.depthAll ds ≤ k
  | [], _ => Nat.zero_le _
  | d :: ds, h => by
    simp only [PyData.depthAll]
    exact Nat.max_le.mpr ⟨h d (List.mem_cons_self ..), depthAll_le fun x hx => h x (List.mem_cons_of_mem _ hx)⟩
theorem short_tup {n k : Nat} {ds : List PyData} (h : ∀ d ∈ ds, shortD n k d) : shortD (3 + ds.length * (n + 2)) (k + 1) (.tuple ds) := by
  refine ⟨?_, ?_, ?_⟩
  · simp only [valD]
    exact valDs_iff.mpr fun d hd => (h d hd).1
  · simp only [wgt]
    have := wgts_le (c := n) fun d hd => (h d hd).2.1
    omega
  · simp only [PyData.depth]
    have := depthAll_le (k := k) fun d hd => (h d hd).2.2
    omega
theorem short_list {n k : Nat} {ds : List PyData} (h : ∀ d ∈ ds, shortD n k d) : shortD (3 + ds.length * (n + 2)) (k + 1) (.list ds) := by
  refine ⟨?_, ?_, ?_⟩
  · simp only [valD]
    exact valDs_iff.mpr fun d hd => (h d hd).1
  · simp only [wgt]
    have := wgts_le (c := n) fun d hd => (h d hd).2.1
    omega
  · simp only [PyData.depth]
    have := depthAll_le (k := k) fun d hd => (h d hd).2.2
    omega
theorem shortD.mono {n k n2 k2 : Nat} {d : PyData} (h : shortD n k d) (h1 : n ≤ n2) (h2 : k ≤ k2) : shortD n2 k2 d := ⟨h.1, Nat.le_trans h.2.1 h1, Nat.le_trans h.2.2 h2⟩
theorem short_ok {d : PyData} (h : shortD 900000 40 d) : okP d = true ∧ d.depth ≤ 40 := ⟨okP_of d h.1 (Nat.le_trans h.2.1 (by decide)), h.2.2⟩
theorem short_int {i : Int} (h : i.natAbs < 2 ^ 90) : shortD 1000 2 (.int i) := ⟨int_val (by omega), Nat.le_trans (int_wgt (b := 90) (by decide) h) (by decide), by simp only [PyData.depth]; omega⟩
theorem short_nI {l : List Nat} (h : ∀ x ∈ l, x < 2 ^ 64) : ∀ d ∈ nI l, shortD 1000 2 d := fun d hd => by
  obtain ⟨x, hx, rfl⟩ := List.mem_map.mp hd
  have := h x hx
  exact short_int (by show x < _; omega)
theorem seq_to {s s2 : WS} {E : DE} {ρ : En} (P : En → Prop) (h1 : ∀ N : En → Prop, (∀ ρ', P ρ' → N ρ') → s { E with nx := N } ρ) (h2 : ∀ ρ', P ρ' → s2 E ρ') : sSeq s s2 E ρ := h1 (s2 E) h2
theorem inD_nI (s : Nat) (l : List Nat) : inD (.int (s : Nat)) (nI l) = l.contains s := by
  unfold inD
  induction l with
  | nil => rfl
  | cons a l ih =>
    rw [nI_cons, List.any_cons, ih, List.contains_cons]
    congr 1
    rw [Bool.eq_iff_iff]
    simp [PyData.eqv]
    omega
end Pt
namespace Pt
open PySem PySem.Spec L2 PySem.Calls PyProof.Rows PySem.W
def heap1 (h : Heap) (us : List Value) : Heap := (h.push (seqObj "list" #[] 0)).update h.objs.size (Obj.mapSeq (· ++ us.toArray))
section
variable {prog : Program} {w : World} {A : Around} {E : Value → Shared → Prop} {s : Shared}
theorem gather {q : Addr} {T : String} {us : List Value} {ob : Obj} {m : Nat} {Q : List Value → Shared → Prop} (hT : T = "list" ∨ T = "tuple") (ho : s.heap.get? q = some ob) (hc : ob.cls = .type T) (hd : ob.data = .seq us.toArray m) (z : us.length ≤ sizeLine)
    (h : Q us { s with heap := heap1 s.heap us }) : wpAny (model prog w) A (collect (.ref q)) Q E s := by
  have ho2 : (s.heap.push (seqObj "list" #[] 0)).get? q = some ob := Heap.get?_push_of_some _ ho
  unfold collect
  refine wpAny_bind (wpAny_runValue (codeAny_builtin PyProof.Rows.entry_proto_collect' ?_)); show wpAny _ _ (do again (.builtin "list.__iadd__" ⟨[← newList [], .ref q], []⟩)) _ _ s
  refine wpAny_bind (wpAny_newList (wpAny_pure ⟨Code.quiet_builtin _ (by decide +kernel), codeAny_builtin entry_list_iadd' ?_⟩)); show wpAny _ _ (Builtin.List.listExtendWith (.ref s.heap.objs.size) (.ref q) (.ref s.heap.objs.size)) _ _ { s with heap := s.heap.push (seqObj "list" #[] 0) }
  unfold Builtin.List.listExtendWith
  refine wpAny_bind (wpAny_typeOf (T := T) ⟨ob, ho2, hc⟩ ?_); rw [if_pos (by rcases hT with rfl | rfl <;> simp <;> first | (right; decide) | (left; decide) | decide)]
  refine wpAny_bind (listItems_at ho2 hd ?_); refine wpAny_bind (listItems_at (xs := #[]) (n := 0) (Heap.get?_push_size _ rfl) rfl ?_); rw [if_neg (by simp)]
  refine wpAny_bind (listUpdate_at (xs := #[]) (n := 0) (Heap.get?_push_size _ rfl) rfl ?_ (Nat.zero_le _) (by show (#[] ++ us.toArray).size ≤ sizeLine + 1; simp only [Array.size_append, List.size_toArray, List.length_nil]; omega))
  refine wpAny_pure ?_
  show wpAny (model prog w) A (do
      let oo ← load s.heap.objs.size
      match oo.data with
      | .seq ys _ => pure ys.toList
      | _ => unsupported "internal:collect") Q E { s with heap := heap1 s.heap us }
  refine wpAny_bind (wpAny_load (get?_update_seq (Heap.get?_push_size _ rfl) _) ?_); show wpAny _ _ (pure ((#[] : Array Value) ++ us.toArray).toList) Q E _
  rw [show ((#[] : Array Value) ++ us.toArray).toList = us by simp]; exact wpAny_pure h
theorem sort_any {β : Type} {q : Addr} {T : String} {ob : Obj} {m : Nat} {us : List Value} {bs : List β} {enc : β → PyData} {R : Value → β → Prop} {rev : Bool} {Q : Value → Shared → Prop}
    (hT : T = "list" ∨ T = "tuple") (ho : s.heap.get? q = some ob) (hc : ob.cls = .type T) (hd : ob.data = .seq us.toArray m)
    (e : EachIs R us bs) (er : EachIs (fun v b => ∃ as, Reads s.heap v (enc b) as) us bs) (hal : AllAlike (bs.map enc)) (hk : Sortable (bs.map enc)) (hL : bs.length ≤ sizeLine)
    (hu : ∀ b, b ∈ bs → A.units + 2 + (enc b).depth < cLine) (kw : List (Str × Value)) (hkw : (rev = false ∧ kw = []) ∨ kw = [(Str.ofString "reverse", .bool rev)])
    (h : ∀ out, out.length = bs.length → EachIs R out (bs.mergeSort (dataLe rev enc)) → Q (.ref (s.heap.objs.size + 1)) { s with heap := sortedAll s.heap us (List.toArray out) }) :
    wpAny (model prog w) A (call (.builtin "sorted") [.ref q] kw) Q E s := by
  have hlen : us.length = bs.length := e.length
  have z : us.length ≤ sizeLine := by rw [hlen]; exact hL
  have a1 : argsOk "sorted" ⟨[.ref q], kw⟩ := by
    rcases hkw with ⟨_, rfl⟩ | rfl
    · exact args_sorted1 _
    · exact args_sorted_rev _ _
  have a2 : ∀ x, argsOk "list.sort" ⟨[.ref x], kw⟩ := fun x => by
    rcases hkw with ⟨_, rfl⟩ | rfl
    · exact args_list_sort _
    · exact args_list_sort_rev _ _
  refine call_function_entry_kw kind_sorted plain_sorted entry_sorted a1 ?_
  unfold Builtin.«sorted»; refine wpAny_bind (m := checkCount "sorted" 1 1 _) (wpAny_pure ?_); refine wpAny_bind (gather hT ho hc hd z ?_)
  refine wpAny_bind (wpAny_newList ?_ z)
  have hsz : (heap1 s.heap us).objs.size = s.heap.objs.size + 1 := by unfold heap1; rw [Heap.size_update, size_push']
  show wpAny _ _ _ _ _ { s with heap := copyHeap s.heap us }
  rw [hsz]
  have er2 : EachIs (fun v b => ∃ as, Reads (sortingHeap (copyHeap s.heap us) (s.heap.objs.size + 1) us) v (enc b) as) us bs := er.mono fun _ _ ⟨as, r⟩ => ⟨as, PyProof.Rows.Reads.keeps (fun _ _ => sorting_copy_old) r⟩
  have S := SortsAt.data (prog := prog) (w := w) (A := A.in1.in1) (s := { s with heap := sortingHeap (copyHeap s.heap us) (s.heap.objs.size + 1) us }) (each_map (R := fun v d => ∃ as, Reads (sortingHeap (copyHeap s.heap us) (s.heap.objs.size + 1) us) v d as) enc er2) hal hk (bound_map hu)
  have fin := h (sortVals (dataKind (sortingHeap (copyHeap s.heap us) (s.heap.objs.size + 1) us) (bs.map enc)) rev us us) (by rw [sortVals_length rev rfl]; exact hlen) (sortVals_data rev e er2 hal)
  refine wpAny_bind (wpAny_holding (wpAny_call_entry_kw slot_list_sort ⟨_, copyHeap_at s.heap us, rfl⟩ entry_list_sort ?_ (a2 _)))
  rcases hkw with ⟨rfl, rfl⟩ | rfl
  · exact list_sort_vals (s := { s with heap := copyHeap s.heap us }) (copyHeap_at s.heap us) S z ⟨_, rfl, wpAny_pure ⟨_, rfl, fin⟩⟩
  · exact list_sort_rev_vals (s := { s with heap := copyHeap s.heap us }) (copyHeap_at s.heap us) S z ⟨_, rfl, wpAny_pure ⟨_, rfl, fin⟩⟩
end
end Pt
namespace Pt
open PySem PySem.Spec L2 PySem.W
def rSortD (K : PySem.W.Frag) (rev : Bool) : List V → Hp → VK → Prop := fun vs H Q => ∃ (a : Addr) (us : List V) (ds : List PyData), vs = [.ref a] ∧ (SqL K H a us ∨ SqT K H a us) ∧ DpAll K H us ds ∧ AllAlike ds ∧ Sortable ds ∧ (∀ d ∈ ds, d.depth ≤ 40) ∧
  ∀ p, H p = none → Q (.ref p) (upd H p (.lst (((us.zip ds).mergeSort (dataLe rev Prod.snd)).map Prod.fst)))
theorem each_vals : ∀ {us : List V} {its : List Value} {ds : List PyData}, Vals us its → us.length = ds.length → EachIs (fun u (b : V × PyData) => RelV b.1 u) its (us.zip ds)
  | [], _, _, .nil, _ => .nil
  | v :: us, _, [], _, h => by cases h
  | v :: us, _, d :: ds, .cons r t, h => .cons r (each_vals t (by simpa using h))
theorem vals_each : ∀ {its : List Value} {bs : List (V × PyData)}, EachIs (fun u (b : V × PyData) => RelV b.1 u) its bs → Vals (bs.map Prod.fst) its
  | _, _, .nil => .nil
  | _, _, .cons r t => .cons r (vals_each t)
theorem dpAll_len {K : PySem.W.Frag} {H : Hp} : ∀ {us : List V} {ds : List PyData}, DpAll K H us ds → us.length = ds.length
  | _, _, .nil => rfl
  | _, _, .cons _ t => congrArg (· + 1) (dpAll_len t)
theorem zip_snd {α β : Type} : ∀ {xs : List α} {ys : List β}, xs.length = ys.length → (xs.zip ys).map Prod.snd = ys
  | [], [], _ => rfl
  | x :: xs, y :: ys, h => congrArg (y :: ·) (zip_snd (by simpa using h))
theorem each_zip {P : Value → PyData → Prop} : ∀ {its : List Value} {us : List V} {ds : List PyData}, EachIs P its ds → us.length = ds.length → EachIs (fun u (b : V × PyData) => P u b.2) its (us.zip ds)
  | _, [], _, .nil, _ => .nil
  | _, v :: us, _, .cons r t, h => .cons r (each_zip t (by simpa using h))
  | _, _ :: _, [], _, h => by cases h
theorem cr_sortD {X : Cx} {rev : Bool} (hu : X.A.units + 64 < cLine) (kw : List (Str × Value)) (hkw : (rev = false ∧ kw = []) ∨ kw = [(Str.ofString "reverse", .bool rev)]) : ∀ (pins : List (Addr × Obj)) (s : Shared) (σ : St) (H : Hp) (xs : List V) (us : List Value) (Q : VK), Inv X pins σ H s → Vals xs us → rSortD X.K rev xs H Q →
    wpAny (model X.prog X.w) X.A (call (.builtin "sorted") us kw) (EP X pins σ Q) X.xe s := by
  intro pins s σ H vs us0 Q I r h
  obtain ⟨a, us, ds, rfl, hs, hd, hal, hk, hdep, q⟩ := h
  rw [Vals.ref1 r]
  obtain ⟨its, rv, ob, m, T, hT, ho, hc, hob, hz⟩ : ∃ (its : List Value) (_ : Vals us its) (ob : Obj) (m : Nat) (T : String), (T = "list" ∨ T = "tuple") ∧ s.heap.get? a = some ob ∧ ob.cls = .type T ∧ ob.data = .seq its.toArray m ∧ us.length ≤ sizeLine := by
    rcases hs with hs | hs
    · obtain ⟨its, rv, ⟨o, n, ho, hc, _, hd⟩, hz⟩ := I.list hs
      exact ⟨its, rv, o, n, "list", .inl rfl, ho, hc, hd, hz⟩
    · obtain ⟨its, rv, ⟨o, ho, hc, n, hd⟩, hz⟩ := I.tuple hs
      exact ⟨its, rv, o, n, "tuple", .inr rfl, ho, hc, hd, hz⟩
  have hl := (dpAll_len hd)
  obtain ⟨as, hr⟩ := Dp.readsAll I ds _ its hd rv
  have e2 := each_zip (us := us) (readsAll_each (h := s.heap) id (by simpa using hr)) hl
  have e1 := each_vals rv hl
  have hm : (us.zip ds).map (Prod.snd) = ds := zip_snd hl
  refine sort_any (T := T) (rev := rev) (enc := Prod.snd) hT ho hc hob e1 (e2.mono fun _ _ h => h) (by rw [hm]; exact hal) (by rw [hm]; exact hk) (by rw [List.length_zip]; omega) (fun b hb => ?_) kw hkw fun out hlo heo => ?_
  · have : b.2 ∈ ds := by rw [← hm]; exact List.mem_map_of_mem hb
    have := hdep _ this
    omega
  · obtain ⟨ep, he'⟩ := PyProof.Rows.sortedAll_at s.heap its out.toArray
    have hlen : (((us.zip ds).mergeSort (dataLe rev Prod.snd)).map Prod.fst).length ≤ sizeLine := by
      rw [List.length_map, List.length_mergeSort, List.length_zip]
      omega
    exact ⟨.ref _, upd H (s.heap.objs.size + 1) (.lst (((us.zip ds).mergeSort (dataLe rev Prod.snd)).map Prod.fst)), I.laid (t' := s.toks) (fun _ _ => PyProof.Rows.sortedAll_old) (Nat.le_succ _) ⟨hlen, out, ep, vals_each heo, by simpa using he'⟩, rfl, q _ (I.hok.fresh (Nat.le_succ _))⟩
theorem cr_sortDt {X : Cx} (hu : X.A.units + 64 < cLine) : CallR X (.builtin "sorted") (rSortD X.K false) := fun pins s σ H xs us Q I r h => cr_sortD hu [] (.inl ⟨rfl, rfl⟩) pins s σ H xs us Q I r h
def oSortD (rev : Bool) : List O → (O → Prop) → Prop
  | [x], R => ∃ ds, vLT x = some ds ∧ PyData.canLayAll0 ds = true ∧ AllAlike ds ∧ Sortable ds ∧ (∀ d ∈ ds, d.depth ≤ 40) ∧ R (.lf (ds.mergeSort (dataLe rev id)))
  | _, _ => False
theorem rfs_zip {K : PySem.W.Frag} {B : Hp} : ∀ {vs : List V} {ds : List PyData}, RFs K B vs ds → ∀ b ∈ vs.zip ds, RF K B b.1 b.2
  | _, _, .nil, b, hb => by cases hb
  | _, _, .cons r t, b, hb => by
    rcases List.mem_cons.mp hb with rfl | hb
    · exact r
    · exact rfs_zip t b hb
theorem rfs_of {K : PySem.W.Frag} {B : Hp} : ∀ {bs : List (V × PyData)}, (∀ b ∈ bs, RF K B b.1 b.2) → RFs K B (bs.map Prod.fst) (bs.map Prod.snd)
  | [], _ => .nil
  | b :: bs, h => .cons (h b (List.mem_cons_self ..)) (rfs_of fun c hc => h c (List.mem_cons_of_mem _ hc))
theorem sort_zip {us : List V} {ds : List PyData} {rev : Bool} (h : us.length = ds.length) : ((us.zip ds).mergeSort (dataLe rev Prod.snd)).map Prod.snd = ds.mergeSort (dataLe rev id) := by
  refine (List.map_mergeSort (r := dataLe rev Prod.snd) (s := dataLe rev id) (f := Prod.snd) (l := us.zip ds) fun a _ b _ => rfl).trans ?_
  rw [zip_snd h]
theorem rd_sortD {K : PySem.W.Frag} {rev : Bool} : Rd K (rSortD K rev) (oSortD rev) := fun B H vs xs f R Q s rr h q => by
  unfold oSortD at h
  split at h
  · obtain ⟨ds, hv, hcl, hal, hk, hd, hR⟩ := h
    obtain ⟨v, g, rfl, r⟩ := ros1 rr
    obtain ⟨p, us, rfl, hsq, rf⟩ : ∃ p us, v = .ref p ∧ (SqL K H p us ∨ SqT K H p us) ∧ RFs K B us ds := by
      unfold vLT at hv
      cases e : vL _ with
      | some es =>
        rw [e] at hv
        cases hv
        obtain ⟨p, us, h1, h2, h3⟩ := r.vL s e
        exact ⟨p, us, h1, .inl (SqL.of h2), h3⟩
      | none =>
        rw [e] at hv
        obtain ⟨p, us, h1, h2, h3⟩ := r.vT s hv
        exact ⟨p, us, h1, .inr h2, h3⟩
    have hl := rf.length
    refine ⟨p, us, ds, rfl, hsq, rf.dp s hcl, hal, hk, hd, fun a ha => ?_⟩
    refine q _ hR _ B _ ?_
    have := rfs_of (K := K) (B := B) (bs := (us.zip ds).mergeSort (dataLe rev Prod.snd)) fun b hb => rfs_zip rf b ((List.mergeSort_perm _ _).mem_iff.mp hb)
    rw [sort_zip hl] at this
    exact Out.lst this s ha
  · exact h.elim
theorem canLay_ints : ∀ ns : List Int, PyData.canLayAll0 (ns.map PyData.int) = true
  | [] => rfl
  | n :: ns => by
    show (PyData.canLay0 (.int n) && PyData.canLayAll0 (ns.map PyData.int)) = true
    rw [canLay_ints ns]
    rfl
theorem foldl_max : ∀ (ns : List Int) (n : Int), (ns.foldl max n ∈ n :: ns) ∧ ∀ y ∈ n :: ns, y ≤ ns.foldl max n
  | [], n => ⟨by simp, fun y hy => by simp at hy; rw [hy]; exact Int.le_refl _⟩
  | a :: ns, n => by
    obtain ⟨h1, h2⟩ := foldl_max ns (max n a)
    refine ⟨?_, fun y hy => ?_⟩
    · rcases List.mem_cons.mp h1 with e | e
      · show ns.foldl max (max n a) ∈ _
        rw [e]
        rcases Int.le_total n a with z | z
        · rw [Int.max_eq_right z]; simp
        · rw [Int.max_eq_left z]; simp
      · exact List.mem_cons_of_mem _ (List.mem_cons_of_mem _ e)
    · have hm := h2 (max n a) (List.mem_cons_self ..)
      show y ≤ ns.foldl max (max n a)
      rcases List.mem_cons.mp hy with rfl | hy
      · omega
      · rcases List.mem_cons.mp hy with rfl | hy
        · omega
        · exact h2 y (List.mem_cons_of_mem _ hy)
theorem depth_intsA : ∀ ns : List Int, PyData.depthAll (ns.map PyData.int) = 0
  | [] => by simp [PyData.depthAll]
  | n :: ns => by
    show max (PyData.depth (.int n)) (PyData.depthAll (ns.map PyData.int)) = 0
    rw [depth_intsA ns]
    simp [PyData.depth]
@[simp] theorem x_vLT1 {ds : List PyData} : vLT (.lf ds) = some ds := rfl
@[simp] theorem x_vLT2 {ds : List PyData} : vLT (.fz (.list ds)) = some ds := rfl
@[simp] theorem x_vLT3 {ds : List PyData} : vLT (.fz (.tuple ds)) = some ds := rfl
end Pt
namespace Pt
open PySem PySem.Spec L2
section
variable {K : PySem.W.Frag} {Z : Ent} {B H : Hp} {σ : St} {ρ : En} {fp : List Addr}
def wTupO (ws : List WE) : WE := fun ρ R => wADs (exs ws) ρ fun ds ρ1 => (fillA (exs ws) ds ρ1).length ≤ szMax ∧ R (.ot (fillA (exs ws) ds ρ1)) ρ1
def wLstO (ws : List WE) : WE := fun ρ R => wADs (exs ws) ρ fun ds ρ1 => (fillA (exs ws) ds ρ1).length ≤ szMax ∧ R (.ol (fillA (exs ws) ds ρ1)) ρ1
theorem tupO_ok {ws : List WE} {σ : L2.St} {H : Hp} {Q : VK} (h : tE K Z (wTupO ws) σ H Q) : tADs K Z (exs ws) σ H fun vs H1 => vs.length ≤ sizeLine ∧ ∀ p, H1 p = none → Q (.ref p) (upd H1 p (.tup vs)) := by
  obtain ⟨B, ρ, fp, R, k, h, q⟩ := h
  refine args_ok _ k h fun ds ρ1 h1 vs τ xs H1 B1 fp1 g n1 k1 => ?_
  obtain ⟨hsz, hR⟩ := h1
  obtain ⟨ev, ef⟩ := got_exs g rfl
  rw [ef ρ1] at hsz hR
  obtain ⟨f1, f2, rfl, r, k2, fr⟩ := k1.frame g.len
  rw [ev] at r
  refine ⟨by rw [r.length]; exact szOk hsz, fun p hp => ?_⟩
  have hB := k1.sub.free hp
  have sb : Sub B1 (upd B1 p (.tup vs)) := fun a o e => by rw [upd_ne (ne_of_none e hB)]; exact e
  have n := Nxt.allocB (o := .tup vs) hp hB pl_tup
  have keep : ∀ a ∈ f1 ++ f2, ∀ o, H1 a = some o → NT o → upd H1 p (.tup vs) a = some o := fun a ha o e t => n.keep a o e List.not_mem_nil t
  have hpf : ∀ a ∈ f1 ++ f2, a ≠ p := fun a ha e => by rw [e] at ha; exact k1.lives p ha hp
  have nn : Nxt B1 H1 (f1 ++ f2) (upd B1 p (.tup vs)) (upd H1 p (.tup vs)) (f1 ++ f2) := ⟨n.bsub, fun a o e _ => n.keep a o e List.not_mem_nil, fun a e => (n.newB a e).imp_right (·.imp_right fun z => (List.not_mem_nil z).elim), fun a ha => .inl ha, n.live, n.tabs, n.ntb⟩
  refine q _ ρ1 hR _ _ (upd B1 p (.tup vs)) (f1 ++ f2) (n1.trans nn) ⟨k1.sub.upd, fun i z => ?_, ?_, k1.nd, fun a ha => by rw [upd_ne (hpf a ha)]; exact k1.out a ha, k1.nx.trans nn⟩
  · cases i with
    | zero => cases z
    | succ i => exact k2.un i z
  · rw [valsOf_cons]
    exact .cons (.ot upd_same (r.next sb fun a ha => keep a (List.mem_append_left _ ha))) (k2.rs.next sb fun a ha => keep a (List.mem_append_right _ ha))
def ixOkT : List (Option O) → (O → Prop) → Prop
  | [some (.ot xs), some (.fz (.int i))], R => ∃ j y, ixN xs.length i = some j ∧ xs[j]? = some y ∧ R y
  | _, _ => False
def wIxT (w w2 : WE) : WE := fun ρ R => wADs [.ex w, .ex w2] ρ fun ds ρ1 => ixOkT ds fun y => R y ρ1
end
section
variable {X : Cx} {Z : Ent} {a b : Expr} {es : List Expr} {pos : Pos} {w w2 : WE} {ws : List WE}
theorem e_tupO {k : Nat} (h : PA X es (tADs X.K Z (exs ws))) : PE X (.Tuple es k pos) (tE X.K Z (wTupO ws)) := pe_to (pe_tup h) fun σ H Q q => tupO_ok q
end
def partO : O → Option (List O)
  | .ol xs => some xs
  | .ot xs => some xs
  | _ => none
def backO : O → List O → O
  | .ol _, xs => .ol xs
  | .ot _, xs => .ot xs
  | x, _ => x
def wIxM (i : Nat) (wk : WE) : WE := fun ρ R => notHid (nth ρ i) (wk ρ fun kd ρ1 => asI kd fun k => ∃ xs j y, partO (nth ρ1 i) = some xs ∧ ixN xs.length k = some j ∧ xs[j]? = some y ∧ y ≠ .hid ∧ R y (ρ1.set i (backO (nth ρ1 i) (xs.set j .hid))))
section
variable {K : PySem.W.Frag} {Z : Ent}
def wMuT (wo : WE) (ws : List WE) (lm : O → List O → (O → O → Prop) → Prop) : WE := fun ρ R => wo ρ fun y ρ1 => isLst y = true ∧ wADs (exs ws) ρ1 fun ds ρ2 => lm y (fillA (exs ws) ds ρ2) fun _ z => R z ρ2
end
section
variable {X : Cx} {Z : Ent} {o e k : Expr} {es : List Expr} {name x : Str} {apos cpos pos p2 : Pos} {id : String} {ws : List WE} {wo wk : WE} {lm : O → List O → (O → O → Prop) → Prop} {r : V → List V → Hp → VK → Prop}
end
section
variable {ρ : En} {R : O → En → Prop} {w w2 : WE} {ws : List WE} {i : Nat} {lm : O → List O → (O → O → Prop) → Prop} {k : O → Prop}
@[simp] theorem x_wTupO : wTupO ws ρ R = wADs (exs ws) ρ fun ds ρ1 => (fillA (exs ws) ds ρ1).length ≤ szMax ∧ R (.ot (fillA (exs ws) ds ρ1)) ρ1 := rfl
@[simp] theorem x_wLstO : wLstO ws ρ R = wADs (exs ws) ρ fun ds ρ1 => (fillA (exs ws) ds ρ1).length ≤ szMax ∧ R (.ol (fillA (exs ws) ds ρ1)) ρ1 := rfl
@[simp] theorem x_wIxT : wIxT w w2 ρ R = w ρ fun d ρ1 => w2 ρ1 fun d2 ρ2 => ixOkT [some d, some d2] fun y => R y ρ2 := rfl
@[simp] theorem x_ixOkT {xs : List O} {a : Int} : ixOkT [some (.ot xs), some (.fz (.int a))] k = ∃ j y, ixN xs.length a = some j ∧ xs[j]? = some y ∧ k y := rfl
@[simp] theorem x_wIxM : wIxM i w ρ R = notHid (nth ρ i) (w ρ fun kd ρ1 => asI kd fun k => ∃ xs j y, partO (nth ρ1 i) = some xs ∧ ixN xs.length k = some j ∧ xs[j]? = some y ∧ y ≠ .hid ∧ R y (ρ1.set i (backO (nth ρ1 i) (xs.set j .hid)))) := rfl
@[simp] theorem x_wMuT : wMuT w ws lm ρ R = w ρ fun y ρ1 => isLst y = true ∧ wADs (exs ws) ρ1 fun ds ρ2 => lm y (fillA (exs ws) ds ρ2) fun _ z => R z ρ2 := rfl
@[simp] theorem x_part1 {xs : List O} : partO (.ol xs) = some xs := rfl
@[simp] theorem x_part2 {xs : List O} : partO (.ot xs) = some xs := rfl
@[simp] theorem x_bk1 {xs ys : List O} : backO (.ol xs) ys = .ol ys := rfl
@[simp] theorem x_bk2 {xs ys : List O} : backO (.ot xs) ys = .ot ys := rfl
@[simp] theorem x_nh6 {p : Prop} {ds : List O} : notHid (.ot ds) p = p := rfl
@[simp] theorem x_asT2 {ds : List O} {k : List O → Prop} : asT (.ot ds) k = k ds := rfl
end
end Pt
namespace Pt
open PySem PySem.Spec L2
def keyO : O → Option Key
  | .fz (.int i) => some (.inl i)
  | .fz (.str x) => some (.inr x)
  | _ => none
def freshK {α : Type} (kvs : List (Key × α)) (k : Key) : Prop := ∀ p ∈ kvs, p.1 ≠ k
theorem putK_fresh {kvs : List (Key × V)} {k : Key} {v : V} (h : freshK kvs k) : putK kvs k v = kvs ++ [(k, v)] := by
  unfold putK
  rw [if_neg]
  intro z
  obtain ⟨p, hp, e⟩ := List.any_eq_true.mp z
  exact h p hp (of_decide_eq_true e)
theorem fresh_keys {α β : Type} {kvs : List (Key × α)} {ds : List (Key × β)} {k : Key} (e : kvs.map (·.1) = ds.map (·.1)) (h : freshK ds k) : freshK kvs k := fun p hp z => by
  have : p.1 ∈ ds.map (·.1) := by rw [← e]; exact List.mem_map_of_mem hp
  obtain ⟨q, hq, eq⟩ := List.mem_map.mp this
  exact h q hq (eq.trans z)
def dcN (g : WG) (wt : WT) (wk w : WE) (own : List Nat) (k : List (Key × O) → En → Prop) : List PyData → En → List (Key × O) → Prop
  | [], ρ, acc => k acc ρ
  | d :: ds, ρ, acc => g (.fz d) (wipeO ρ own) fun ρ1 => wt ρ1 fun b ρ2 => br b (wk ρ2 fun kd ρ3 => ∃ key, keyO kd = some key ∧ freshK acc key ∧ w ρ3 fun y ρ4 => dcN g wt wk w own k ds ρ4 (acc ++ [(key, y)])) (dcN g wt wk w own k ds ρ2 acc)
def wDc (wi : WI) (g : WG) (wt : WT) (wk w : WE) (own : List Nat) : WE := fun ρ R => wi ρ fun items ρ1 => items.length ≤ szMax ∧ dcN g wt wk w own (fun out ρ2 => R (.od out) (wipeO ρ2 own)) items ρ1 []
section
variable {K : PySem.W.Frag} {Z : Ent} {B H : Hp} {σ : St} {ρ : En} {fp : List Addr}
theorem keyO_rf {v : V} {x : O} {k : Key} {f : List Addr} (r : RO K B H v x f) (h : keyO x = some k) : v = kV k := by
  cases r with
  | fz r =>
    cases r with
    | int i => cases h; rfl
    | str s => cases h; rfl
    | _ => cases h
  | _ => cases h
theorem Ok.pushD {D : Addr} {y : V} {acc : List (Key × O)} {dy : O} {key : Key} (hf : freshK acc key) (k : Ok K Z B H (some (.ref D) :: some y :: σ) (.od acc :: dy :: ρ) fp) : ∃ kvs f3, H D = some (.dK kvs) ∧ kvs.length = acc.length ∧ freshK kvs key ∧ Ok K Z B (upd H D (.dK (kvs ++ [(key, y)]))) (some (.ref D) :: σ) (.od (acc ++ [(key, dy)]) :: ρ) f3 ∧ Nxt B H fp B (upd H D (.dK (kvs ++ [(key, y)]))) f3 := by
  obtain ⟨f1, f2, rfl, r, k2, _⟩ := Ok.frame (τ := [some (.ref D), some y]) (xs := [.od acc, dy]) k rfl
  obtain ⟨n1, n2, n3⟩ := List.nodup_append.mp k.nd
  rw [show valsOf [some (V.ref D), some y] = [.ref D, y] from rfl] at r
  cases r with
  | @cons _ _ _ _ g1 g2 a b =>
    cases a with
    | @od _ kvs _ g0 hD ek rr =>
      cases b with
      | @cons _ _ _ _ g3 g4 c d =>
        cases d
        rw [List.append_nil] at *
        have nd := n1
        rw [List.cons_append] at nd
        obtain ⟨m1, m2⟩ := List.nodup_cons.mp nd
        have r0 := (rr.append (ys := [dy]) (us := [y]) (.cons c .nil)).upd (o := .dK (kvs ++ [(key, y)])) (p := D) (by rw [List.append_nil]; exact m1)
        rw [List.append_nil] at r0
        have hw := Ok.write (τ := [some (.ref D), some y]) (xs := [.od acc, dy]) (τ' := [some (.ref D)]) (xs' := [.od (acc ++ [(key, dy)])]) (p := D) (o' := .dK (kvs ++ [(key, y)])) (f1 := D :: g0 ++ g3) (f2 := f2) (f3 := D :: (g0 ++ g3) ++ []) k k2 (List.mem_cons_self ..)
          (.cons (.od upd_same (by simp [ek]) (by simpa using r0)) .nil) (fun a ha => by rw [List.append_nil] at ha; exact ha) (by rw [List.append_nil]; exact n1) (fun i z => by
            cases i with
            | zero => cases z
            | succ i => cases i <;> cases z) rfl
        have hl : kvs.length = acc.length := by
          have := congrArg List.length ek
          simpa using this
        exact ⟨kvs, _, hD, hl, fresh_keys ek hf, hw.1, hw.2⟩
theorem wipe2 {σ σ4 : L2.St} {own : List Nat} (ag : Agr own (wipe σ own) σ4) : wipe σ4 own = wipe σ own := ag.wipe.trans (by
  refine List.ext_getElem? fun k => ?_
  rw [wipe_get, wipe_get]
  cases qq : own.contains k with
  | false => rfl
  | true =>
    rw [if_pos rfl, if_pos rfl]
    cases (σ[k]? : Option (Option V)) <;> rfl)
theorem Ok.wipe1 {D : V} {acc : O} {own : List Nat} (k8 : Ok K Z B H (some D :: σ) (acc :: ρ) fp) : ∃ f9, Ok K Z B H (some D :: L2.wipe σ own) (acc :: wipeO ρ own) f9 ∧ ∀ a ∈ f9, a ∈ fp := by
  obtain ⟨a1, a2, rfl, a3, a4, _⟩ := Ok.frame (τ := [some D]) (xs := [acc]) k8 rfl
  obtain ⟨a5, a6, a7⟩ := a4.wipe own
  obtain ⟨m1, m2, m3⟩ := List.nodup_append.mp k8.nd
  have hsub : ∀ a ∈ a1 ++ a5, a ∈ a1 ++ a2 := fun a ha => by
    rcases List.mem_append.mp ha with z | z
    · exact List.mem_append_left _ z
    · exact List.mem_append_right _ (a7 a z)
  refine ⟨a1 ++ a5, k8.part (fun j z => ?_) (a3.append a6.rs) (List.nodup_append.mpr ⟨m1, a6.nd, fun a ha b hb e => m3 a ha b (a7 b hb) e⟩) hsub, hsub⟩
  cases j with
  | zero => cases z
  | succ j => exact a6.un j z
theorem Out.odO {p : Addr} (s : Sub B H) (hp : H p = none) : Out K B H (.ref p) (.od []) B (upd H p (.dK [])) :=
  ⟨[p], Nxt.alloc hp, .od upd_same rfl .nil, List.nodup_cons.mpr ⟨List.not_mem_nil, List.nodup_nil⟩, fun a ha => by rw [List.mem_singleton.mp ha]; exact s.free hp, s.updR (s.free hp)⟩
end
section
variable {X : Cx} {Z : Ent} {ps own : List Nat} {pos : Pos} {w wk : WE} {wt : WT} {g : WG}
theorem e_dc_ok {K : PySem.W.Frag} {wi : WI} {ow : List (Str × Nat)} {σ : L2.St} {H : Hp} {Q : VK} (h : tE K Z (wDc wi g wt wk w (ow.map (·.2))) σ H Q) : tDc (tI K Z wi) (tG K Z (ow.map (·.2)) g) (tT K Z wt) (tE K Z wk) (tE K Z w) (ow.map (·.2)) σ H Q := by
  generalize ow.map (·.2) = own at *
  obtain ⟨B, ρ, fp, R, k, h, q⟩ := h
  refine ⟨B, ρ, fp, _, k, h, fun items ρ1 h1 J H1 B1 f1 n1 k1 hJ D hD => ?_⟩
  obtain ⟨hz, h1⟩ := h1
  obtain ⟨f2, kw, hs2⟩ := k1.wipe own
  have o0 : Out K B1 H1 (.ref D) (.od []) B1 (upd H1 D (.dK [])) := Out.odO k1.sub hD
  obtain ⟨g0, k0, n0⟩ := o0.ok kw
  refine ⟨fun i m H' => i + m = items.length ∧ ∃ B' ρ' fp' acc, Nxt B1 H1 f1 B' H' fp' ∧ Ok K Z B' H' (some (.ref D) :: wipe σ own) (.od acc :: wipeO ρ' own) fp' ∧ acc.length ≤ i ∧ dcN g wt wk w own (fun out ρ2 => R (.od out) (wipeO ρ2 own)) (items.drop i) ρ' acc,
    ⟨items.length, Nat.zero_add _, B1, ρ1, g0, [], (Nxt.self hs2).trans n0, k0, Nat.le_refl _, h1⟩, fun i m H2 hW => ?_⟩
  obtain ⟨em, B2, ρ2, f3, acc, n2, k2, ha, h2⟩ := hW
  obtain ⟨ja, jb⟩ := hJ B2 H2 _ n2 k2.sub i
  by_cases hi : i < items.length
  · obtain ⟨hgo, hy⟩ := ja hi
    refine .inr ⟨hgo, fun H' => ∃ B' ρ' fp' acc, Nxt B1 H1 f1 B' H' fp' ∧ Ok K Z B' H' (some (.ref D) :: wipe σ own) (.od acc :: wipeO ρ' own) fp' ∧ acc.length ≤ i + 1 ∧ dcN g wt wk w own (fun out ρ2 => R (.od out) (wipeO ρ2 own)) (items.drop (i + 1)) ρ' acc, fun H' hN => ⟨m - 1, by omega, by omega, hN⟩, fun x H3 hyl => ?_⟩
    obtain ⟨d, B3, hd, o3⟩ := hy x H3 hyl
    rw [List.drop_eq_getElem_cons hi] at h2
    have ed : items[i] = d := by
      rw [List.getElem?_eq_getElem hi] at hd
      exact Option.some.inj hd
    rw [ed] at h2
    obtain ⟨fD, fE, rfl, rD, kE, fr⟩ := Ok.frame (τ := [some (.ref D)]) (xs := [.od acc]) k2 rfl
    obtain ⟨g3, k3, n3⟩ := o3.ok kE
    refine ⟨B3, _, g3, _, _, k3, h2, fun ρ4 h4 σ4 H4 B4 f4 n4 k4 ag => ⟨wipe2 ag, ?_⟩⟩
    have e4 : wipe σ4 own = wipe σ own := wipe2 ag
    have n14 := n3.trans n4
    refine ⟨B4, ρ4, f4, _, k4, h4, fun b ρ5 h5 H5 B5 f5 n5 k5 => ?_⟩
    cases b with
    | true =>
      rw [if_pos rfl]
      refine ⟨B5, ρ5, f5, _, k5, h5, fun kd ρ6 h6 kv H6 B6 f6 n6 k6 => ?_⟩
      obtain ⟨key, hkey, hfr, h6⟩ := h6
      obtain ⟨_, rk, _, _⟩ := k6.head
      have ekv := keyO_rf rk hkey
      obtain ⟨f7, k7, hs7⟩ := k6.drop1
      refine ⟨B6, ρ6, f7, _, k7, h6, fun y ρ7 h7 v H7 B7 f8 n7 k8 => ?_⟩
      obtain ⟨k9, n9⟩ := fr ((n14.trans n5).trans ((n6.less hs7).trans n7)) k8
      obtain ⟨kvs, f10, hDv, hlv, hfk, k10, n10⟩ := Ok.pushD hfr k9
      refine ⟨kvs, key, ekv, hDv, szLt (by omega), ?_⟩
      rw [putK_fresh hfk]
      obtain ⟨f9, k11, hs9⟩ := Ok.wipe1 (D := .ref D) (σ := σ4) (ρ := ρ7) (own := own) k10
      rw [e4] at k11
      exact ⟨B7, ρ7, f9, acc ++ [(key, y)], ((n2.trans n9).trans n10).less hs9, k11, by rw [List.length_append, List.length_singleton]; omega, h7⟩
    | false =>
      rw [if_neg Bool.false_ne_true]
      obtain ⟨k7, n7⟩ := fr (n14.trans n5) k5
      obtain ⟨f9, k9, hs9⟩ := Ok.wipe1 (D := .ref D) (σ := σ4) (acc := .od acc) (ρ := ρ5) (own := own) k7
      rw [e4] at k9
      exact ⟨B5, ρ5, f9, acc, (n2.trans n7).less hs9, k9, by omega, h5⟩
  · refine .inl ⟨jb (by omega), ?_⟩
    rw [List.drop_eq_nil_of_le (by omega)] at h2
    obtain ⟨a1, a2, rfl, a3, a4, _⟩ := Ok.frame (τ := [some (.ref D)]) (xs := [.od acc]) k2 rfl
    have a5 := a4.unwipe
    refine q _ _ h2 (.ref D) H2 B2 (a1 ++ a2) (n1.trans n2) ⟨k2.sub, fun j z => ?_, ?_, k2.nd, k2.out, k2.nx⟩
    · cases j with
      | zero => cases z
      | succ j => exact a5.un j z
    · rw [valsOf_cons]
      exact a3.append a5.rs
theorem e_dc {kx vx tg iter : Expr} {ifs : List Expr} {scope : Scope} {ow : List (Str × Nat)} {wi : WI} (hc : X.calm = true) (hN : X.N.Nodup) (hi : PI X tg iter (tI X.K Z wi)) (ok : BlkOk X.N X.env.scope scope ow)
    (hg : ∀ (s : Shared) (H : Hp) (C : Addr) (cl : List (Str × Addr)) (fp : List Addr), PG (X.blk s H scope (compEnvC scope cl C X.env) fp) tg (tG X.K Z (ow.map (·.2)) g)) (ht : ∀ (s : Shared) (H : Hp) (C : Addr) (cl : List (Str × Addr)) (fp : List Addr), PTs (X.blk s H scope (compEnvC scope cl C X.env) fp) ifs (tT X.K Z wt))
    (hk : ∀ (s : Shared) (H : Hp) (C : Addr) (cl : List (Str × Addr)) (fp : List Addr), PE (X.blk s H scope (compEnvC scope cl C X.env) fp) kx (tE X.K Z wk))
    (he : ∀ (s : Shared) (H : Hp) (C : Addr) (cl : List (Str × Addr)) (fp : List Addr), PE (X.blk s H scope (compEnvC scope cl C X.env) fp) vx (tE X.K Z w)) (hs : ∀ x, foldedSetIterable iter X.env x = pure x := by intro _; rfl) :
    PE X (.DictComp kx vx [⟨tg, iter, ifs, 0⟩] scope pos) (tE X.K Z (wDc wi g wt wk w (ow.map (·.2)))) := pe_to (pe_dc hc hN hi ok hg ht hk he hs) fun _ _ _ q => e_dc_ok q
end
def unfK : List (Key × O) → Option (List (Key × PyData))
  | [] => some []
  | (k, .fz d) :: r => (unfK r).map ((k, d) :: ·)
  | _ => none
theorem unfK_iff : ∀ {xs : List (Key × O)} {ds : List (Key × PyData)}, unfK xs = some ds → xs = ds.map fun p => (p.1, O.fz p.2)
  | [], _, h => by cases h; rfl
  | (k, .fz d) :: r, ds, h => by
    simp only [unfK] at h
    cases q : unfK r with
    | none => rw [q] at h; cases h
    | some es =>
      rw [q] at h
      cases h
      rw [unfK_iff q]
      rfl
  | (k, .ol _) :: r, _, h => by cases h
  | (k, .ot _) :: r, _, h => by cases h
  | (k, .od _) :: r, _, h => by cases h
  | (k, .oi _ _) :: r, _, h => by cases h
  | (k, .exn _ _) :: r, _, h => by cases h
  | (k, .scr _) :: r, _, h => by cases h
  | (k, .lf _) :: r, _, h => by cases h
  | (k, .df _) :: r, _, h => by cases h
  | (k, .dl _) :: r, _, h => by cases h
  | (k, .dt _) :: r, _, h => by cases h
  | (k, .dq _) :: r, _, h => by cases h
  | (k, .dn _ _) :: r, _, h => by cases h
  | (k, .dz _ _) :: r, _, h => by cases h
  | (k, .fo _ _) :: r, _, h => by cases h
  | (k, .fl _) :: r, _, h => by cases h
  | (k, .al _) :: r, _, h => by cases h
  | (k, .lb _ _) :: r, _, h => by cases h
  | (k, .tn _) :: r, _, h => by cases h
  | (k, .hid) :: r, _, h => by cases h
def toDf : O → (O → Prop) → Prop
  | .od xs, R => ∃ ds, unfK xs = some ds ∧ R (.df ds)
  | x, R => R x
def wDf (w : WE) : WE := fun ρ R => w ρ fun d ρ1 => toDf d fun d' => R d' ρ1
theorem df_ok {K : PySem.W.Frag} {Z : Ent} {w : WE} {σ : L2.St} {H : Hp} {Q : VK} (h : tE K Z (wDf w) σ H Q) : tE K Z w σ H Q := by
  obtain ⟨B, ρ, fp, R, k, h, q⟩ := h
  refine ⟨B, ρ, fp, _, k, h, fun d ρ' h1 v H' B' fp' n k1 => ?_⟩
  unfold toDf at h1
  split at h1
  · obtain ⟨ds, e, hR⟩ := h1
    have e2 := unfK_iff e
    subst e2
    obtain ⟨f1, f2, rfl, r, k2, fr⟩ := Ok.frame (τ := [some v]) (xs := [.od (ds.map fun p => (p.1, O.fz p.2))]) k1 rfl
    rw [show valsOf [some v] = [v] from rfl] at r
    cases r with
    | cons r t =>
      cases t
      cases r with
      | od hp ek rr =>
        have em : (ds.map fun p => (p.1, O.fz p.2)).map (·.2) = (ds.map (·.2)).map O.fz := by rw [List.map_map, List.map_map]; rfl
        rw [em] at rr
        obtain ⟨rf, rfl⟩ := ROs.unfz rr
        refine q _ ρ' hR _ H' B' _ n (k1.part (fun i z => ?_) ?_ k1.nd (fun a ha => ha))
        · cases i with
          | zero => cases z
          | succ i => exact k2.un i z
        · rw [valsOf_cons]
          have ek2 : (List.map (fun x => x.1) (ds.map fun p => (p.1, O.fz p.2))) = ds.map (·.1) := by rw [List.map_map]; rfl
          have := ROs.cons (K := K) (H := H') (RO.df hp (ek.trans ek2) rf) k2.rs
          simpa using this
  · exact q _ ρ' h1 v H' B' fp' n k1
theorem e_df {X : Cx} {Z : Ent} {e : Expr} {w : WE} (h : PE X e (tE X.K Z w)) : PE X e (tE X.K Z (wDf w)) := pe_to h fun _ _ _ q => df_ok q
def getK {α : Type} (kvs : List (Key × α)) (k : Key) : Option α := (kvs.find? fun kv => decide (kv.1 = k)).map (·.2)
def oDGet : List O → (O → Prop) → Prop
  | [.df kvs, x], R => ∃ k d, keyO x = some k ∧ getK kvs k = some d ∧ R (.fz d)
  | [.dl kvs, x], R => ∃ k d, keyO x = some k ∧ getK kvs k = some d ∧ R (.fz d)
  | _, _ => False
theorem getK_rf {K : PySem.W.Frag} {B : Hp} : ∀ {vs : List (Key × V)} {ds : List (Key × PyData)} {k : Key}, vs.map (·.1) = ds.map (·.1) → RFs K B (vs.map (·.2)) (ds.map (·.2)) → (∀ d, getK ds k = some d → ∃ v, valV vs k = some v ∧ RF K B v d) ∧ (getK ds k = none → valV vs k = none)
  | [], [], k, _, _ => ⟨fun d h => (nomatch (show none = some d from h)), fun _ => rfl⟩
  | [], _ :: _, _, e, _ => by cases e
  | _ :: _, [], _, e, _ => by cases e
  | (k1, v) :: vs, (k2, d) :: ds, k, e, r => by
    have e1 : k1 = k2 := (List.cons.inj e).1
    have e2 := (List.cons.inj e).2
    subst e1
    cases r with
    | cons r t =>
      by_cases hk : k1 = k
      · subst hk
        refine ⟨fun d' h => ⟨v, by simp [valV], ?_⟩, fun h => ?_⟩
        · have : d = d' := by simpa [getK] using h
          rw [← this]
          exact r
        · simp [getK] at h
      · obtain ⟨a, b⟩ := getK_rf (k := k) e2 t
        refine ⟨fun d' h => ?_, fun h => ?_⟩
        · have h' : getK ds k = some d' := by simpa [getK, hk] using h
          obtain ⟨u, h1, h2⟩ := a d' h'
          exact ⟨u, by simpa [valV, hk] using h1, h2⟩
        · have h' : getK ds k = none := by simpa [getK, hk] using h
          have := b h'
          simpa [valV, hk] using this
def rDGet : R2 := fun x y H Q => ∃ a v, x = .ref a ∧ DGet H a y (some v) ∧ Q v H
theorem rd_dget {K : PySem.W.Frag} : Rd K (r2L rDGet) oDGet := fun B H vs xs f R Q s rr h q => by
  unfold oDGet at h
  split at h
  · obtain ⟨k, d, hk, hd, hR⟩ := h
    obtain ⟨v, w, _, _, rfl, r1, r2⟩ := ros2 rr
    cases r1 with
    | df hp ek rf =>
      obtain ⟨u, h1, h2⟩ := (getK_rf ek rf).1 d hd
      rw [keyO_rf r2 hk]
      exact ⟨_, u, rfl, by rw [← h1]; exact DGet.k hp, q _ hR _ B H (Out.here h2 s)⟩
  · obtain ⟨k, d, hk, hd, hR⟩ := h
    obtain ⟨v, w, _, _, rfl, r1, r2⟩ := ros2 rr
    cases r1 with
    | dl hp ek rf =>
      obtain ⟨u, h1, h2⟩ := (getK_rf ek rf).1 d hd
      rw [keyO_rf r2 hk]
      exact ⟨_, u, rfl, .inl ⟨_, _, .inr ⟨_, s _ _ hp⟩, rfl, h1.symm⟩, q _ hR _ B H (Out.here h2 s)⟩
  · exact h.elim
theorem e_dget {X : Cx} {Z : Ent} {a b : Expr} {pos : Pos} {a1 a2 : AD} (hu : X.A.units + 1 < cLine) (ha : PE X a (tAD X.K Z a1)) (hb : PE X b (tAD X.K Z a2)) (hs : NoSl b) : PE X (.Subscript a b pos) (tE X.K Z (wRd [a1, a2] oDGet)) :=
  pe_to (pe_dget hu ha hb hs) fun σ H Q h => rd_glue rd_dget h
section
variable {ρ : En} {R : O → En → Prop} {w wk : WE} {wt : WT} {g : WG} {wi : WI} {own : List Nat} {k : O → Prop}
@[simp] theorem x_wDc : wDc wi g wt wk w own ρ R = wi ρ fun items ρ1 => items.length ≤ szMax ∧ dcN g wt wk w own (fun out ρ2 => R (.od out) (wipeO ρ2 own)) items ρ1 [] := rfl
@[simp] theorem x_wDf : wDf w ρ R = w ρ fun d ρ1 => toDf d fun d' => R d' ρ1 := rfl
@[simp] theorem x_key1 {i : Int} : keyO (.fz (.int i)) = some (.inl i) := rfl
@[simp] theorem x_key2 {x : Str} : keyO (.fz (.str x)) = some (.inr x) := rfl
@[simp] theorem x_dgetl {kvs : List (Key × PyData)} {x : O} : oDGet [.dl kvs, x] k = ∃ key d, keyO x = some key ∧ getK kvs key = some d ∧ k (.fz d) := rfl
@[simp] theorem x_dget {kvs : List (Key × PyData)} {x : O} : oDGet [.df kvs, x] k = ∃ key d, keyO x = some key ∧ getK kvs key = some d ∧ k (.fz d) := rfl
@[simp] theorem x_nh7 {p : Prop} {ds : List (Key × O)} : notHid (.od ds) p = p := rfl
end
theorem dc_go {g : WG} {wt : WT} {wk w : WE} {own : List Nat} {k : List (Key × O) → En → Prop} : ∀ (items : List PyData) (P : Nat → List (Key × O) → En → Prop) (ρ : En) (acc : List (Key × O)), (∀ i d, items[i]? = some d → ∀ acc ρ, P i acc ρ → ∀ (K1 : List (Key × O) → En → Prop), (∀ acc' ρ', P (i + 1) acc' ρ' → K1 acc' ρ') →
    g (.fz d) (wipeO ρ own) fun ρ1 => wt ρ1 fun b ρ2 => br b (wk ρ2 fun kd ρ3 => ∃ key, keyO kd = some key ∧ freshK acc key ∧ w ρ3 fun y ρ4 => K1 (acc ++ [(key, y)]) ρ4) (K1 acc ρ2)) → P 0 acc ρ → (∀ acc ρ, P items.length acc ρ → k acc ρ) → dcN g wt wk w own k items ρ acc
  | [], P, ρ, acc, _, h0, he => he acc ρ h0
  | d :: ds, P, ρ, acc, hs, h0, he => hs 0 d rfl acc ρ h0 (fun acc' ρ' => dcN g wt wk w own k ds ρ' acc') fun acc' ρ' hP => dc_go ds (fun i => P (i + 1)) ρ' acc' (fun i d hd => hs (i + 1) d (by simpa using hd)) hP he
end Pt
namespace Pt
open PySem PySem.Spec L2 PyProof.Rows
section
variable {X : Cx}
def dedup : List Int → List Int
  | [] => []
  | a :: l => if a ∈ l then dedup l else a :: dedup l
theorem dedup_mem : ∀ {l : List Int} {k : Int}, k ∈ dedup l ↔ k ∈ l
  | [], k => Iff.rfl
  | a :: l, k => by
    unfold dedup
    split
    · rename_i h
      rw [dedup_mem, List.mem_cons]
      exact ⟨.inr, fun z => z.elim (fun e => e ▸ h) id⟩
    · rw [List.mem_cons, List.mem_cons, dedup_mem]
theorem dedup_nodup : ∀ l : List Int, (dedup l).Nodup
  | [] => List.nodup_nil
  | a :: l => by
    unfold dedup
    split
    · exact dedup_nodup l
    · rename_i h
      exact List.nodup_cons.mpr ⟨fun z => h (dedup_mem.mp z), dedup_nodup l⟩
theorem dedup_le : ∀ l : List Int, (dedup l).length ≤ l.length
  | [] => Nat.le_refl _
  | a :: l => by
    have := dedup_le l
    unfold dedup
    split
    · rw [List.length_cons]; omega
    · rw [List.length_cons, List.length_cons]; omega
theorem dedup_len : ∀ {l : List Int}, (dedup l).length = l.length ↔ l.Nodup
  | [] => by simp [dedup]
  | a :: l => by
    have h1 := dedup_le l
    have ih := dedup_len (l := l)
    unfold dedup
    split
    · rename_i h
      rw [List.nodup_cons, List.length_cons]
      exact ⟨fun e => by omega, fun e => (e.1 h).elim⟩
    · rename_i h
      rw [List.nodup_cons, List.length_cons, List.length_cons]
      exact ⟨fun e => ⟨h, ih.mp (by omega)⟩, fun e => by rw [ih.mpr e.2]⟩
def tLenSetT (K : PySem.W.Frag) (ta : TE) : TE := fun σ H Q => ta σ H fun x H1 => ∃ (l : Addr) (ns : List Int), x = .ref l ∧ SqT K H1 l (ns.map V.int) ∧ ns.length ≤ 4000 ∧ Q (.int ((dedup ns).length : Nat)) H1
theorem pe_lenSetT {a : Expr} {ta : TE} {p p2 q pos : Pos} (hg : Gl X "len") (hm : X.mg "len" = none) (hg2 : Gl X "set") (hm2 : X.mg "set" = none) (ha : PE X a ta) (hc : X.calm = true := by rfl)
    (na : starEach [a] X.env = (false, eval a X.env) :: starEach [] X.env := by rfl) : PE X (.Call (.Name "len" p) [.Call (.Name "set" p2) [a] [] q] [] pos) (tLenSetT X.K ta) := by
  refine ⟨fun pins s σ H Q I h => Call_ (ld_blt I hg hm boot_len ?_)⟩
  refine callWith_builtin1 (args_cons ?_ rfl) rfl rfl
  refine Call_ (ld_blt I hg2 hm2 boot_set ?_)
  refine callWith_type1 (args_cons (thn (ha.run pins s σ H _ I h) fun v s1 ⟨x, H1, I1, r1, q1⟩ => args_nil ?_) na) na rfl
  obtain ⟨l, ns, rfl, hq, hl, q1⟩ := q1
  cases r1
  obtain ⟨its, r, pl, hz⟩ := I1.tuple hq
  refine call_set_tupI ns (I1.ok.hd hc) pl (by simpa using RZ.intsAre_vals r) (by unfold scanBound; omega) fun h' tk c hS hcn hk => args_nil ?_
  obtain ⟨o, es, ep, t, ho, hex, hd, g, hnd, hmem, hsb, hf, hn, _⟩ := hS
  have I2 : L2.Inv X pins σ H1 { s1 with heap := h', toks := tk } := I1.kept hk
  have e : c = (dedup ns).length := by
    rw [← hn, ← Array.length_toList, ← List.length_map (f := L2.keyOf)]
    refine List.Perm.length_eq (List.perm_iff_count.mpr fun k => ?_)
    rw [hnd.count, (dedup_nodup ns).count]
    have : k ∈ es.toList.map L2.keyOf ↔ k ∈ dedup ns := by rw [← hmem k, dedup_mem]; simp
    simp only [this]
  exact call_len_set ho hex hd hf (by rw [hn] <;> omega) ⟨.int (dedup ns).length, H1, I2.tok _, ⟨_, by rw [hn, e]⟩, q1⟩
end
section
variable {K : PySem.W.Frag}
def dropD {α : Type} (kvs : List (Key × α)) (k : Key) : List (Key × α) := kvs.filter fun kv => decide (kv.1 ≠ k)
def lmDPop : O → List O → (O → O → Prop) → Prop
  | .df kvs, [x], R => ∃ k d, keyO x = some k ∧ getK kvs k = some d ∧ R (.df (dropD kvs k)) (.fz d)
  | _, _, _ => False
theorem len_keys {α β : Type} {kvs : List (Key × α)} {ds : List (Key × β)} (e : kvs.map (fun x => x.1) = ds.map (fun x => x.1)) : kvs.length = ds.length := by simpa using congrArg List.length e
def lmDUpd : O → List O → (O → O → Prop) → Prop
  | .df kvs, [.df more], R => ((kvs ++ more).map (·.1)).Nodup ∧ kvs.length + more.length ≤ szMax ∧ R (.df (kvs ++ more)) (.fz .none)
  | _, _, _ => False
def oDE0 (neg : Bool) : List O → (O → Prop) → Prop
  | [.df ks, .df []], R => R (.fz (.bool (if neg then !(ks.length == 0) else (ks.length == 0))))
  | _, _ => False
def oMinK : List O → (O → Prop) → Prop
  | [.df kvs], R => ∃ is : List Int, kvs.map (·.1) = is.map Sum.inl ∧ is ≠ [] ∧ ∀ m, m ∈ is → (∀ j ∈ is, m ≤ j) → R (.fz (.int m))
  | _, _ => False
def wDict1 (wk wv : WE) : WE := fun ρ R => wk ρ fun kd ρ1 => ∃ key, keyO kd = some key ∧ wv ρ1 fun d ρ2 => asF d fun f => R (.df [(key, f)]) ρ2
def asNs : O → (List Int → Prop) → Prop
  | .fz (.tuple ds), R => ∃ ns, ds = ns.map PyData.int ∧ ns.length ≤ 4000 ∧ R ns
  | _, _ => False
def wLenSet (w : WE) : WE := fun ρ R => w ρ fun d ρ1 => asNs d fun ns => R (.fz (.int ((dedup ns).length : Nat))) ρ1
theorem rfs_ints {B : Hp} : ∀ {ns : List Int} {vs : List V}, RFs K B vs (ns.map PyData.int) → vs = ns.map V.int
  | [], _, r => by cases r; rfl
  | n :: ns, _, r => by
    cases r with
    | cons r t =>
      cases r
      rw [rfs_ints t]
      rfl
theorem lenSet_ok {Z : Ent} {w : WE} {σ : L2.St} {H : Hp} {Q : VK} (h : tE K Z (wLenSet w) σ H Q) : tLenSetT K (tE K Z w) σ H Q := by
  obtain ⟨B, ρ, fp, R, k, h, q⟩ := h
  refine ⟨B, ρ, fp, _, k, h, fun d ρ1 h1 v H1 B1 g1 n1 k1 => ?_⟩
  unfold asNs at h1
  split at h1
  · obtain ⟨ns, rfl, hl, hR⟩ := h1
    have r := k1.headF
    obtain ⟨g2, k2, hs2⟩ := k1.drop1
    cases r with
    | tup hsq rf =>
      rw [rfs_ints rf] at hsq
      exact ⟨_, ns, rfl, k1.sub.sqT hsq, hl, q _ ρ1 hR _ H1 B1 g2 (n1.less hs2) (k2.addF (.int _))⟩
  · exact h1.elim
theorem e_lenSet {X : Cx} {Z : Ent} {a : Expr} {w : WE} {p p2 q pos : Pos} (hg : Gl X "len") (hm : X.mg "len" = none) (hg2 : Gl X "set") (hm2 : X.mg "set" = none) (ha : PE X a (tE X.K Z w)) (hc : X.calm = true := by rfl)
    (na : starEach [a] X.env = (false, eval a X.env) :: starEach [] X.env := by rfl) : PE X (.Call (.Name "len" p) [.Call (.Name "set" p2) [a] [] q] [] pos) (tE X.K Z (wLenSet w)) := pe_to (pe_lenSetT hg hm hg2 hm2 ha hc na) fun σ H Q h => lenSet_ok h
end
section
variable {ρ : En} {R : O → En → Prop} {w w2 : WE} {k : O → Prop} {R2 : O → O → Prop}
@[simp] theorem x_lmDPop {kvs : List (Key × PyData)} {x : O} : lmDPop (.df kvs) [x] R2 = ∃ key d, keyO x = some key ∧ getK kvs key = some d ∧ R2 (.df (dropD kvs key)) (.fz d) := rfl
@[simp] theorem x_lmDUpd {kvs more : List (Key × PyData)} : lmDUpd (.df kvs) [.df more] R2 = (((kvs ++ more).map (·.1)).Nodup ∧ kvs.length + more.length ≤ szMax ∧ R2 (.df (kvs ++ more)) (.fz .none)) := rfl
@[simp] theorem x_dE0 {neg : Bool} {ks : List (Key × PyData)} : oDE0 neg [.df ks, .df []] k = k (.fz (.bool (if neg then !(ks.length == 0) else (ks.length == 0)))) := rfl
@[simp] theorem x_minK {kvs : List (Key × PyData)} : oMinK [.df kvs] k = ∃ is : List Int, kvs.map (·.1) = is.map Sum.inl ∧ is ≠ [] ∧ ∀ m, m ∈ is → (∀ j ∈ is, m ≤ j) → k (.fz (.int m)) := rfl
@[simp] theorem x_dict1 : wDict1 w w2 ρ R = w ρ fun kd ρ1 => ∃ key, keyO kd = some key ∧ w2 ρ1 fun d ρ2 => asF d fun f => R (.df [(key, f)]) ρ2 := rfl
@[simp] theorem x_wLenSet : wLenSet w ρ R = w ρ fun d ρ1 => asNs d fun ns => R (.fz (.int ((dedup ns).length : Nat))) ρ1 := rfl
@[simp] theorem x_isDct1 {ds : List (Key × PyData)} : isDct (.df ds) = true := rfl
@[simp] theorem x_isLst3 {ds : List (Key × PyData)} : isLst (.df ds) = false := rfl
@[simp] theorem x_wMuD {i : Nat} {ws : List WE} {lm : O → List O → (O → O → Prop) → Prop} : wMu "dict" i ws lm ρ R = (isDct (nth ρ i) = true ∧ wADs (exs ws) ρ fun ds ρ1 => (isLst (nth ρ1 i) || isDct (nth ρ1 i)) = true ∧ lm (nth ρ1 i) (fillA (exs ws) ds ρ1) fun x' z => R z (ρ1.set i x')) := by
  simp [wMu]
end
end Pt
namespace Pt
open PySem PySem.Spec L2 PyProof.Rows
section
variable {X : Cx}
def tyN (K : PySem.W.Frag) (x : V) (H : Hp) : Prop := ∃ a, x = .ref a ∧ ND K H a
theorem tyN_is {pins : List (Addr × Obj)} {σ : L2.St} {H : Hp} {s : Shared} {x : V} {v : Value} (I : L2.Inv X pins σ H s) (r : RelV x v) (ty : tyN X.K x H) :
    s.TypeIs v "tuple" ∧ ∀ a, v = .ref a → ∃ ob, s.heap.get? a = some ob ∧ ob.dict = none := by
  obtain ⟨a, rfl, d⟩ := ty
  obtain rfl := (show v = Value.ref a from r)
  rcases d with ⟨o, vs, e, hd⟩ | ⟨o, e, hc, hd⟩
  · obtain ⟨h1, _, its, _, o2, h2, h3, _⟩ := (show ObjOk X.prog X.w H s.heap a (.frz o (.tup vs)) from I.hok a _ e)
    rw [h1] at h2
    cases h2
    exact ⟨⟨o, h1, h3⟩, fun b z => by cases z; exact ⟨o, h1, hd⟩⟩
  · have h1 := I.kIn a o e
    exact ⟨⟨o, h1, hc⟩, fun b z => by cases z; exact ⟨o, h1, hd⟩⟩
variable {o e : Expr} {es : List Expr} {to : TE} {t : TA} {name : Str} {apos cpos : Pos} {id : String} {r : V → List V → Hp → VK → Prop}
def tBMN (K : PySem.W.Frag) (r : V → List V → Hp → VK → Prop) (to : TE) (t : TA) : TE := fun σ H Q => to σ H fun x H1 => tyN K x H1 ∧ t σ H1 fun xs H2 => r x xs H2 Q
theorem pe_bmN (slot : Slot "tuple" name id) (hty : typeOf (.builtin id) = pure (.type "method_descriptor")) (hm : MtR X id r) (ho : PE X o to) (ha : PA X (e :: es) t)
    (hbase : attributeBase o name X.env (eval o X.env) = eval o X.env := by rfl)
    (hfew : ((backTo cpos (starEach (e :: es) X.env)).all (fun x => !x.1) && (backToKw cpos (keywordEach [] X.env)).all (fun x => x.1.isSome) && decide ((e :: es).length + ([] : List Keyword).length + (if ([] : List Keyword).isEmpty then 0 else 1) < 30)) = true := by rfl)
    (hline : (apos.endLine == cpos.line) = true := by rfl) (hs : starEach (e :: es) X.env = (false, eval e X.env) :: starEach es X.env := by rfl) (hplain : (backTo cpos (starEach es X.env)).any (·.1) = false := by rfl) :
    PE X (.Call (.Attribute o name apos) (e :: es) [] cpos) (tBMN X.K r to t) := by
  refine ⟨fun pins s σ H Q I h => ?_⟩
  refine wpAny_Call_method_late hbase hfew hline rfl (thn (ho.run pins s σ H _ I h) fun v s1 ⟨x, H1, I1, r1, ty, q1⟩ => ?_)
  obtain ⟨h1, h2⟩ := tyN_is I1 r1 ty
  refine ⟨"tuple", id, PySem.F.plainAttrs_tuple, slot, hty, h1, h2, ?_⟩
  have hA := ha.run cpos pins s1 σ H1 _ I1 q1
  rw [hs] at hA ⊢
  exact Calls.callWith_builtin (by show (false || (backTo cpos (starEach es X.env)).any (·.1)) = false; rw [hplain]; rfl) (Calls.evalArgs_plain (thn hA fun us s2 ⟨vs, H2, I2, r2, q2⟩ => hm pins s2 σ H2 x vs v us Q I2 r1 r2 q2))
end
def asTn : O → (List PyData → Prop) → Prop
  | .tn ds, k => k ds
  | _, _ => False
def wVt (i : Nat) : WE := fun ρ R => asTn (nth ρ i) fun ds => R (.fz (.tuple ds)) ρ
def wVn (i : Nat) : WE := fun ρ R => asTn (nth ρ i) fun ds => R (.tn ds) ρ
section
variable {X : Cx} {Z : Ent} {pos : Pos}
end
def oTupN : List O → (O → Prop) → Prop
  | [x], R => ∃ ds, vL x = some ds ∧ R (.tn ds)
  | _, _ => False
def rML (r : V → List V → Hp → VK → Prop) : List V → Hp → VK → Prop
  | x :: xs => r x xs
  | [] => fun _ _ => False
inductive OT where
  | l | d | s | n
def tyO2 : OT → O → Bool
  | .l, .lf _ => true
  | .l, .ol _ => true
  | .l, .fz (.list _) => true
  | .d, .df _ => true
  | .d, .dt _ => true
  | .d, .od _ => true
  | .s, .fz (.str _) => true
  | .n, .tn _ => true
  | _, _ => false
def OT.nm : OT → String
  | .l => "list"
  | .d => "dict"
  | .s => "str"
  | .n => "tuple"
def tyR (K : PySem.W.Frag) : OT → V → Hp → Prop
  | .n => tyN K
  | T => tyV K T.nm
theorem tyO2_ok {K : PySem.W.Frag} {B H : Hp} {T : OT} {x : O} {v : V} {f : List Addr} (s : Sub B H) (r : RO K B H v x f) (h : tyO2 T x = true) : tyR K T v H := by
  cases T with
  | l =>
    cases r with
    | lf e _ => exact .inl ⟨rfl, _, SqL.of e⟩
    | ol e _ => exact .inl ⟨rfl, _, SqL.of e⟩
    | fz r =>
      cases r with
      | lst e _ => exact .inl ⟨rfl, _, SqL.of (s _ _ e)⟩
      | _ => cases h
    | _ => cases h
  | d =>
    cases r with
    | df e _ _ => exact .inr (.inr (.inl ⟨rfl, .inl ⟨_, e⟩⟩))
    | dt e _ _ => exact .inr (.inr (.inl ⟨rfl, .inr ⟨_, e⟩⟩))
    | od e _ _ => exact .inr (.inr (.inl ⟨rfl, .inl ⟨_, e⟩⟩))
    | fz r => cases r <;> cases h
    | _ => cases h
  | s =>
    cases r with
    | fz r =>
      cases r with
      | str _ => rfl
      | _ => cases h
    | _ => cases h
  | n =>
    cases r with
    | tn a b c => exact ⟨_, rfl, b.mono s⟩
    | fz r => cases r <;> cases h
    | _ => cases h
def tBR (K : PySem.W.Frag) (T : OT) (r : V → List V → Hp → VK → Prop) (to : TE) (t : TA) : TE := fun σ H Q => to σ H fun x H1 => tyR K T x H1 ∧ t σ H1 fun xs H2 => r x xs H2 Q
def wRmN (T : OT) (i : Nat) (as : List AD) (op : List O → (O → Prop) → Prop) : WE := fun ρ R => tyO2 T (nth ρ i) = true ∧ wADs (.nm i :: as) ρ fun ds ρ1 => op (fillA (.nm i :: as) ds ρ1) fun z => R z ρ1
def wRmE (T : OT) (w : WE) (as : List AD) (op : List O → (O → Prop) → Prop) : WE := fun ρ R => w ρ fun d ρ1 => tyO2 T d = true ∧ wADs as ρ1 fun ds ρ2 => op (d :: fillA as ds ρ2) fun z => R z ρ2
section
variable {K : PySem.W.Frag} {Z : Ent}
theorem rmE_ok {T : OT} {w : WE} {as : List AD} {op : List O → (O → Prop) → Prop} {r : V → List V → Hp → VK → Prop} {σ : L2.St} {H : Hp} {Q : VK} (hr : Rd K (rML r) op) (h : tE K Z (wRmE T w as op) σ H Q) : tBR K T r (tE K Z w) (tADs K Z as) σ H Q := by
  obtain ⟨B, ρ, fp, R, k, h, q⟩ := h
  refine ⟨B, ρ, fp, _, k, h, fun d ρ1 h1 v H1 B1 fp1 n1 k1 => ?_⟩
  obtain ⟨hT, h2⟩ := h1
  obtain ⟨f0, r0, _, _⟩ := k1.head
  refine ⟨tyO2_ok k1.sub r0 hT, ?_⟩
  obtain ⟨f1, f2, rfl, _, k2, fr⟩ := Ok.frame (τ := [some v]) (xs := [d]) k1 rfl
  refine args_ok as k2 h2 fun ds ρ2 h3 vs τ xs H2 B2 fp2 g n2 k6 => ?_
  obtain ⟨kA, nA⟩ := fr n2 k6
  obtain ⟨b1, b2, e12, rA, kB, _⟩ := Ok.frame (τ := some v :: τ) (xs := d :: xs) kA (congrArg (· + 1) g.len)
  obtain ⟨b3, b4, e34, rB, kC, _⟩ := k6.frame g.len
  obtain ⟨f', rr⟩ := g.reads rB kC
  obtain ⟨f9, r9, _, _⟩ := Ok.head (σ := τ ++ σ) (ρ := xs ++ ρ2) (v := v) (x := d) kA
  refine hr B2 H2 (v :: vs) _ _ _ Q kA.sub (.cons r9 rr) h3 fun z hz u B' H' o => ?_
  obtain ⟨g', k3, n3⟩ := o.ok kB
  refine q z ρ2 hz u H' B' g' (n1.trans (nA.trans ?_)) k3
  rw [e12]
  exact (Nxt.self fun a ha => List.mem_append_right _ ha).trans n3
end
section
variable {X : Cx} {Z : Ent} {o e : Expr} {es : List Expr} {name x : Str} {apos cpos pos : Pos} {id : String} {as : List AD} {w : WE} {op : List O → (O → Prop) → Prop} {r : V → List V → Hp → VK → Prop} {T : OT}
theorem pe_br (T : OT) {to : TE} {t : TA} (pa : PlainAttrs T.nm) (slot : Slot T.nm name id) (hty : typeOf (.builtin id) = pure (.type "method_descriptor")) (hm : MtR X id r) (ho : PE X o to) (ha : PA X (e :: es) t)
    (hbase : attributeBase o name X.env (eval o X.env) = eval o X.env)
    (hfew : ((backTo cpos (starEach (e :: es) X.env)).all (fun x => !x.1) && (backToKw cpos (keywordEach [] X.env)).all (fun x => x.1.isSome) && decide ((e :: es).length + ([] : List Keyword).length + (if ([] : List Keyword).isEmpty then 0 else 1) < 30)) = true)
    (hline : (apos.endLine == cpos.line) = true) (hs : starEach (e :: es) X.env = (false, eval e X.env) :: starEach es X.env) (hplain : (backTo cpos (starEach es X.env)).any (·.1) = false) :
    PE X (.Call (.Attribute o name apos) (e :: es) [] cpos) (tBR X.K T r to t) := by
  cases T with
  | n => exact pe_bmN slot hty hm ho ha hbase hfew hline hs hplain
  | l => exact pe_bm pa slot hty hm ho ha hbase hfew hline hs hplain
  | d => exact pe_bm pa slot hty hm ho ha hbase hfew hline hs hplain
  | s => exact pe_bm pa slot hty hm ho ha hbase hfew hline hs hplain
theorem e_rmE (T : OT) (pa : PlainAttrs T.nm) (slot : Slot T.nm name id) (hty : typeOf (.builtin id) = pure (.type "method_descriptor")) (hm : MtR X id r) (hr : Rd X.K (rML r) op) (ho : PE X o (tE X.K Z w)) (ha : PA X (e :: es) (tADs X.K Z as))
    (hbase : attributeBase o name X.env (eval o X.env) = eval o X.env := by rfl)
    (hfew : ((backTo cpos (starEach (e :: es) X.env)).all (fun x => !x.1) && (backToKw cpos (keywordEach [] X.env)).all (fun x => x.1.isSome) && decide ((e :: es).length + ([] : List Keyword).length + (if ([] : List Keyword).isEmpty then 0 else 1) < 30)) = true := by rfl)
    (hline : (apos.endLine == cpos.line) = true := by rfl) (hs : starEach (e :: es) X.env = (false, eval e X.env) :: starEach es X.env := by rfl) (hplain : (backTo cpos (starEach es X.env)).any (·.1) = false := by rfl) :
    PE X (.Call (.Attribute o name apos) (e :: es) [] cpos) (tE X.K Z (wRmE T w as op)) := pe_to (pe_br T pa slot hty hm ho ha hbase hfew hline hs hplain) fun σ H Q q => rmE_ok hr q
end
def oIndexL : List O → (O → Prop) → Prop
  | [x, .fz d], R => ∃ ds j z, vL x = some ds ∧ flatD d = true ∧ ds.all flatD = true ∧ ds[j]? = some z ∧ PyData.eqv z d = true ∧ (∀ (m : Nat) z', m < j → ds[m]? = some z' → PyData.eqv z' d = false) ∧ R (.fz (.int (j : Nat)))
  | _, _ => False
theorem flat_mem {ds : List PyData} (h : ds.all flatD = true) {z : PyData} {i : Nat} (e : ds[i]? = some z) : flatD z = true := List.all_eq_true.mp h z (List.mem_of_getElem? e)
theorem rfs_get2 {K : PySem.W.Frag} {B : Hp} : ∀ {vs : List V} {ds : List PyData} {i : Nat} {v : V}, RFs K B vs ds → vs[i]? = some v → ∃ d, ds[i]? = some d ∧ RF K B v d
  | _, _, _, _, .nil, e => by simp at e
  | _, _, 0, _, .cons r _, e => by simp at e; subst e; exact ⟨_, rfl, r⟩
  | _, _, i + 1, _, .cons _ t, e => by
    obtain ⟨d, h1, h2⟩ := rfs_get2 (i := i) t (by simpa using e)
    exact ⟨d, by simpa using h1, h2⟩
section
variable {K : PySem.W.Frag}
theorem rd_indexL : Rd K (rML (rIndex K)) oIndexL := fun B H vs xs f R Q s rr h q => by
  unfold oIndexL at h
  split at h
  · obtain ⟨ds, j, z, hv, hf, hfs, hz, he, hno, hR⟩ := h
    obtain ⟨v, w, _, _, rfl, r1, r2⟩ := ros2 rr
    obtain ⟨p, us, rfl, h2, rf⟩ := r1.vL s hv
    cases r2 with
    | fz r2 =>
      obtain ⟨u, hu, ru⟩ := rf.get hz
      refine ⟨p, us, w, j, u, rfl, rfl, SqL.of h2, r2.flat hf, rf.flat hfs, hu, by rw [ru.eqv r2 (flat_mem hfs hz) hf]; exact he, fun m u' hm hu' => ?_, q _ hR _ B H (Out.here (.int _) s)⟩
      obtain ⟨z', hz', rz'⟩ := rfs_get2 rf hu'
      rw [rz'.eqv r2 (flat_mem hfs hz') hf]
      exact hno m z' hm hz'
  · exact h.elim
end
def oIntB : List O → (O → Prop) → Prop
  | [.fz (.bool b)], R => R (.fz (.int (if b then 1 else 0)))
  | _, _ => False
theorem u1 {a b : Nat} (h : a + 64 < b) : a + 1 < b := by omega
section
variable {ρ : En} {R : O → En → Prop} {w : WE} {k : O → Prop} {i : Nat} {as : List AD} {op : List O → (O → Prop) → Prop} {T : OT}
@[simp] theorem x_intB {b : Bool} : oIntB [.fz (.bool b)] k = k (.fz (.int (if b then 1 else 0))) := rfl
@[simp] theorem x_wVt : wVt i ρ R = asTn (nth ρ i) fun ds => R (.fz (.tuple ds)) ρ := rfl
@[simp] theorem x_wVn : wVn i ρ R = asTn (nth ρ i) fun ds => R (.tn ds) ρ := rfl
@[simp] theorem x_asTn {ds : List PyData} {k : List PyData → Prop} : asTn (.tn ds) k = k ds := rfl
@[simp] theorem x_nh8 {p : Prop} {ds : List PyData} : notHid (.tn ds) p = p := rfl
@[simp] theorem x_frO4 {ds : List PyData} : frO (.tn ds) = some (.tuple ds) := rfl
@[simp] theorem x_oTupN1 {ds : List PyData} : oTupN [.lf ds] k = k (.tn ds) := by simp [oTupN]
@[simp] theorem x_oTupN2 {ds : List PyData} : oTupN [.fz (.list ds)] k = k (.tn ds) := by simp [oTupN]
@[simp] theorem x_wRmN : wRmN T i as op ρ R = (tyO2 T (nth ρ i) = true ∧ wADs (.nm i :: as) ρ fun ds ρ1 => op (fillA (.nm i :: as) ds ρ1) fun z => R z ρ1) := rfl
@[simp] theorem x_wRmE : wRmE T w as op ρ R = w ρ fun d ρ1 => tyO2 T d = true ∧ wADs as ρ1 fun ds ρ2 => op (d :: fillA as ds ρ2) fun z => R z ρ2 := rfl
@[simp] theorem x_ty1 {ds : List PyData} : tyO2 .l (.lf ds) = true := rfl
@[simp] theorem x_ty2 {ds : List PyData} : tyO2 .l (.fz (.list ds)) = true := rfl
@[simp] theorem x_ty3 {ds : List PyData} : tyO2 .n (.tn ds) = true := rfl
@[simp] theorem x_ty4 {x : Str} : tyO2 .s (.fz (.str x)) = true := rfl
end
end Pt
namespace Pt
open PySem PySem.Spec L2
theorem cpow_ok {i j : Int} (h : i.natAbs < 2 ^ 400) (h0 : 0 ≤ j) (h1 : j ≤ 20) : CPowA i j := by
  have b : Builtin.Int.intBits i ≤ 400 := PySem.intBits_le_iff.mpr h
  refine ⟨h0, ?_⟩
  have : (Builtin.Int.intBits i : Int) * j ≤ 400 * 20 := Int.mul_le_mul (by omega) h1 h0 (by omega)
  omega
end Pt
namespace Pt
open PySem PySem.Spec L2
def noDl : O → Bool
  | .fz _ => true
  | .lf _ => true
  | .df _ => true
  | .tn _ => true
  | .scr _ => true
  | .hid => true
  | _ => false
section
variable {K : PySem.W.Frag} {Z : Ent} {B B' H H' : Hp} {σ : St} {ρ : En} {fp fp' : List Addr}
def Subz (B B' : Hp) : Prop := ∀ a o, B a = some o → (∀ t u, o ≠ .frz t (.dK u)) → B' a = some o
theorem Subz.sqT (h : Subz B B') {a : Addr} {vs : List V} (x : SqT K B a vs) : SqT K B' a vs := by
  rcases x with (x | ⟨o, x⟩) | x
  · exact .inl (.inl (h _ _ x fun _ _ z => nomatch z))
  · exact .inl (.inr ⟨o, h _ _ x fun _ _ z => nomatch z⟩)
  · exact .inr x
theorem Subz.sqL (h : Subz B B') {a : Addr} {vs : List V} (x : SqL K B a vs) : SqL K B' a vs := by
  rcases x with (x | ⟨o, x⟩) | x
  · exact .inl (.inl (h _ _ x fun _ _ z => nomatch z))
  · exact .inl (.inr ⟨o, h _ _ x fun _ _ z => nomatch z⟩)
  · exact .inr x
theorem ND.monoz (h : Subz B B') {a : Addr} (d : ND K B a) : ND K B' a := by
  rcases d with ⟨o, vs, e, z⟩ | z
  · exact .inl ⟨o, vs, h _ _ e (fun _ _ z => nomatch z), z⟩
  · exact .inr z
mutual
theorem RF.monoz (h : Subz B B') : ∀ {d : PyData} {v : V}, RF K B v d → RF K B' v d
  | _, _, .non => .non
  | _, _, .bl b => .bl b
  | _, _, .int i => .int i
  | _, _, .str x => .str x
  | _, _, .lst e r => .lst (h _ _ e fun _ _ z => nomatch z) (RFs.monoz h r)
  | _, _, .tup e r => .tup (h.sqT e) (RFs.monoz h r)
  | _, _, .dic e r => .dic (h _ _ e fun _ _ z => nomatch z) (RFd.monoz h r)
  | _, _, .lm e d r => .lm (h _ _ e fun _ _ z => nomatch z) (fun i z => by
    obtain ⟨b, e1, e2⟩ := d i z
    exact ⟨b, e1, e2.monoz h⟩) (RFs.monoz h r)
theorem RFs.monoz (h : Subz B B') : ∀ {ds : List PyData} {vs : List V}, RFs K B vs ds → RFs K B' vs ds
  | _, _, .nil => .nil
  | _, _, .cons r s => .cons (RF.monoz h r) (RFs.monoz h s)
theorem RFd.monoz (h : Subz B B') : ∀ {ds : List (PyData × PyData)} {vs : List (Key × V)}, RFd K B vs ds → RFd K B' vs ds
  | _, _, .nil => .nil
  | _, _, .cons r s => .cons (RF.monoz h r) (RFd.monoz h s)
end
theorem RO.nextz (h : Subz B B') {x : O} {v : V} {fp : List Addr} (r : RO K B H v x fp) (hn : noDl x = true) (k : ∀ a ∈ fp, ∀ o, H a = some o → NT o → H' a = some o) : RO K B' H' v x fp := by
  cases r with
  | fz r => exact .fz (r.monoz h)
  | hid => exact .hid
  | tn e d r => exact .tn (h.sqT e) (d.monoz h) (r.monoz h)
  | scr e => exact .scr (h.sqL e)
  | lf e r => exact .lf (k _ (List.mem_cons_self ..) _ e pl_lst.1) (r.monoz h)
  | df e q r => exact .df (k _ (List.mem_cons_self ..) _ e pl_dK.1) q (r.monoz h)
  | dl _ _ _ => cases hn
  | dt _ _ _ => cases hn
  | dq _ _ _ => cases hn
  | dn _ _ _ _ => cases hn
  | dz _ _ _ _ => cases hn
  | fo _ _ _ _ => cases hn
  | fl _ _ => cases hn
  | al => cases hn
  | lb _ => cases hn
  | ol _ _ => cases hn
  | ot _ _ => cases hn
  | od _ _ _ => cases hn
  | oi _ _ _ _ => cases hn
  | exn _ _ _ => cases hn
theorem ROs.nextz (h : Subz B B') : ∀ {xs : List O} {vs : List V} {fp : List Addr}, ROs K B H vs xs fp → (∀ x ∈ xs, noDl x = true) → (∀ a ∈ fp, ∀ o, H a = some o → NT o → H' a = some o) → ROs K B' H' vs xs fp
  | _, _, _, .nil, _, _ => .nil
  | _, _, _, .cons r s, hn, k => .cons (RO.nextz h r (hn _ (List.mem_cons_self ..)) fun a ha => k a (List.mem_append_left _ ha)) (ROs.nextz h s (fun x hx => hn x (List.mem_cons_of_mem _ hx)) fun a ha => k a (List.mem_append_right _ ha))
def kPs (kvs : List (Key × PyData)) : PyData := .dict (kvs.map fun p => (kD p.1, p.2))
def wLock (i : Nat) (w : WE) : WE := fun ρ R => ∃ ds, nth ρ i = .df ds ∧ w (ρ.set i (.dl ds)) fun d ρ1 => noDl d = true ∧ (∀ x ∈ ρ1.set i .hid, noDl x = true) ∧ R d (ρ1.set i (.fz (kPs ds)))
end
def keyI (kvs : List (Key × PyData)) : List PyData := kvs.map fun p => kD p.1
def wiK (i : Nat) : WI := fun ρ R => ∃ ds, nth ρ i = .dl ds ∧ R (keyI ds) ρ
section
variable {K : PySem.W.Frag} {B : Hp}
theorem rf_key : ∀ (k : Key), RF K B (kV k) (kD k)
  | .inl i => .int i
  | .inr x => .str x
theorem ItD.keys {a : Addr} {o : Obj} {kvs : List (Key × V)} {ds : List (Key × PyData)} (h : B a = some (.frz o (.dK kvs))) (ek : kvs.map (·.1) = ds.map (·.1)) : ItD K (Itk a o kvs) B (keyI ds) := fun B' H' s1 s2 i => by
  have hl : kvs.length = ds.length := by
    have := congrArg List.length ek
    simpa using this
  have hH := s2 _ _ (s1 _ _ h)
  refine ⟨fun hi => ⟨⟨hH, by unfold keyI at hi; simp at hi; omega⟩, fun x H'' hy => ?_⟩, fun hi => ⟨hH, by unfold keyI at hi; simp at hi; omega⟩⟩
  obtain ⟨rfl, k, v, e, rfl⟩ := hy
  have ek2 : (kvs.map (·.1))[i]? = some k := by rw [List.getElem?_map, e]; rfl
  rw [ek, List.getElem?_map] at ek2
  refine ⟨kD k, B', ?_, Out.here (rf_key k) s2⟩
  unfold keyI
  rw [List.getElem?_map]
  cases ed : ds[i]? with
  | none => rw [ed] at ek2; cases ek2
  | some p =>
    rw [ed] at ek2
    have : p.1 = k := by simpa using ek2
    rw [← this]
    rfl
end
section
variable {w : WE} {i : Nat} {ρ : En} {R : O → En → Prop} {Ri : List PyData → En → Prop}
@[simp] theorem x_wLock : wLock i w ρ R = ∃ ds, nth ρ i = .df ds ∧ w (ρ.set i (.dl ds)) fun d ρ1 => noDl d = true ∧ (∀ x ∈ ρ1.set i .hid, noDl x = true) ∧ R d (ρ1.set i (.fz (kPs ds))) := rfl
@[simp] theorem x_wiK : wiK i ρ Ri = ∃ ds, nth ρ i = .dl ds ∧ Ri (keyI ds) ρ := rfl
@[simp] theorem x_nodl1 {f : PyData} : noDl (.fz f) = true := rfl
@[simp] theorem x_nodl2 {f : List PyData} : noDl (.lf f) = true := rfl
@[simp] theorem x_nodl3 {f : List PyData} : noDl (.tn f) = true := rfl
@[simp] theorem x_nodl4 : noDl .hid = true := rfl
@[simp] theorem x_nodl5 {f : List Int} : noDl (.scr f) = true := rfl
@[simp] theorem x_nodl6 {f : List (Key × PyData)} : noDl (.df f) = true := rfl
@[simp] theorem x_nhL {p : Prop} {ds : List (Key × PyData)} : notHid (.dl ds) p = p := rfl
end
end Pt
namespace Pt
open PySem PySem.Spec L2
def rDSet2 : V → List V → Hp → VK → Prop := fun x xs H Q => ∃ (a : Addr) (kvs : List (Key × V)) (k : Key) (v : V), x = .ref a ∧ xs = [v, kV k] ∧ H a = some (.dK kvs) ∧ kvs.length < sizeLine ∧ Q .non (upd H a (.dK (putK kvs k v)))
def lmDNew : O → List O → (O → O → Prop) → Prop
  | .df kvs, [.fz f, x], R => ∃ k, keyO x = some k ∧ kvs.length + 1 ≤ szMax ∧ (∀ p ∈ kvs, p.1 ≠ k) ∧ R (.df (kvs ++ [(k, f)])) (.fz .none)
  | _, _, _ => False
theorem putK_new {kvs : List (Key × V)} {k : Key} {v : V} (h : ∀ x ∈ kvs.map (·.1), x ≠ k) : putK kvs k v = kvs ++ [(k, v)] := by
  unfold putK
  rw [if_neg]
  intro z
  obtain ⟨p, hp, e⟩ := List.any_eq_true.mp z
  exact h _ (List.mem_map_of_mem hp) (of_decide_eq_true e)
theorem lm_dnew {K : PySem.W.Frag} : LMu K rDSet2 lmDNew := fun B H q x vs xs fx fa R Q s r rr nd h k => by
  unfold lmDNew at h
  split at h
  · obtain ⟨key, hk, hsz, hn, hR⟩ := h
    obtain ⟨v, w, _, _, rfl, r1, r2⟩ := ros2 rr
    cases r1 with
    | fz r1 =>
      cases r with
      | df hp ek rf =>
        rename_i _ ds f _ _ kvs
        have hl := len_keys ek
        have hsz2 : kvs.length < sizeLine := by
          have := szOk hsz
          omega
        rw [keyO_rf r2 hk]
        have hpk := putK_new (v := v) (k := key) (kvs := kvs) (by
          have ek' : kvs.map (·.1) = ds.map (·.1) := ek
          rw [ek']
          intro x hx
          obtain ⟨p, hp, rfl⟩ := List.mem_map.mp hx
          exact hn p hp)
        refine ⟨q, kvs, key, v, rfl, rfl, hp, hsz2, ?_⟩
        rw [hpk]
        refine k _ _ hR .non _ [] [] (.df upd_same (by simp [ek]) (by simpa using rf.append (.cons r1 .nil))) (.fz .non) (by simp) fun a ha => ?_
        simp at ha
        rw [ha]
        exact List.mem_append_left _ (List.mem_cons_self ..)
  · exact h.elim
def sSetD (i : Nat) (we wk : WE) : WS := sDrop (wMu "dict" i [we, wk] lmDNew)
section
variable {X : Cx} {Z : Ent} {ps : List Nat} {e k : Expr} {x : Str} {pos px p2 : Pos} {we wk : WE}
theorem s_setD (i : Nat) (hu : X.A.units + 1 < cLine) (he : PE X e (tE X.K Z we)) (hk : PE X k (tE X.K Z wk)) (hN : X.N[i]? = some x := by rfl) (hv : Vis X.env.scope x := by first | exact Or.inl rfl | exact Or.inr (Or.inl rfl) | exact Or.inr (Or.inr rfl)) (hd : (x == ("__debug__" : Str)) = false := by decide) (hcd : (x == ("__classdict__" : Str)) = false := by decide)
    (ha : ∀ v, assign (.Subscript (.Name x px) k p2) X.env v = (do let ov ← holding [v] (eval (.Name x px) X.env); let iv ← holding [v, ov] (eval k X.env); standAt p2; holding [v, ov, iv] (setItem ov iv v); release [v, ov, iv] []) := by intro _; rfl)
    (hs : swapsWithSole [.Subscript (.Name x px) k p2] e pos.line X.env = pure false := by rfl) (hw : swappedStores [.Subscript (.Name x px) k p2] e X.env = pure none := by rfl) (h1 : (assignEach [.Subscript (.Name x px) k p2] X.env).map (·.2) = [assign (.Subscript (.Name x px) k p2) X.env] := by rfl) :
    PS X (.Assign [.Subscript (.Name x px) k p2] e pos) (tS X.K Z ps (sSetD i we wk)) :=
  ps_to (ps_asg he (pg_sub (pe_var hN hv hd hcd) hk (set_dict hu) ha) hs hw h1) fun D σ H q => by
    obtain ⟨B, ρ, fp, E, kk, q, p⟩ := q
    have z : tE X.K Z (wMu "dict" i [we, wk] lmDNew) σ H fun _ H' => D.nx σ H' := ⟨B, ρ, fp, _, kk, q, fun d ρ' h1 v H' B' fp' n k1 => by
      obtain ⟨f2, k2, hs⟩ := k1.drop1
      exact p.nx ρ' h1 σ H' B' f2 (n.less hs) k2 (Pin.refl _ _)⟩
    obtain ⟨v, e1, _, z2⟩ := mu_glue lm_dnew z
    obtain ⟨B0, ρ0, f0, R0, k0, a0, b0⟩ := z2
    refine ⟨B0, ρ0, f0, R0, k0, a0, fun d ρ' h v' H' B' fp' n k1 => ⟨v, e1, ?_⟩⟩
    obtain ⟨B2, ρ2, f2, R2, k2, a2, b2⟩ := b0 d ρ' h v' H' B' fp' n k1
    refine ⟨B2, ρ2, f2, R2, k2, a2, fun d2 ρ3 h3 v2 H3 B3 f3 n3 k3 => ?_⟩
    obtain ⟨a, kvs, key, v5, rfl, ex, hH, hsz, hQ⟩ := b2 d2 ρ3 h3 v2 H3 B3 f3 n3 k3
    obtain ⟨rfl, rfl⟩ : v' = v5 ∧ v2 = kV key := by simpa using ex
    exact ⟨a, _, rfl, .inl ⟨kvs, key, hH, rfl, hsz, rfl⟩, hQ⟩
end
section
variable {w w2 : WE} {i : Nat} {ρ : En} {R2 : O → O → Prop}
@[simp] theorem x_sSetD : sSetD i w w2 = sDrop (wMu "dict" i [w, w2] lmDNew) := rfl
@[simp] theorem x_lmDNew {kvs : List (Key × PyData)} {x : O} {f : PyData} : lmDNew (.df kvs) [.fz f, x] R2 = ∃ k, keyO x = some k ∧ kvs.length + 1 ≤ szMax ∧ (∀ p ∈ kvs, p.1 ≠ k) ∧ R2 (.df (kvs ++ [(k, f)])) (.fz .none) := rfl
end
end Pt
namespace Pt
open PySem PySem.Spec L2
def oDivmod : List O → (O → Prop) → Prop
  | [.fz (.int i), .fz (.int j)], R => CDivP i j ∧ R (.fz (.tuple [.int (i / j), .int (i % j)]))
  | _, _ => False
@[simp] theorem x_divmod {i j : Int} {k : O → Prop} : oDivmod [.fz (.int i), .fz (.int j)] k = (CDivP i j ∧ k (.fz (.tuple [.int (i / j), .int (i % j)]))) := rfl
end Pt
set_option maxHeartbeats 400000
namespace Lr
open PySem PySem.Spec L2
end Lr
namespace Lr
open PySem PySem.Spec L2
end Lr
namespace Pt
open PySem PySem.Spec L2
def oListRev : List O → (O → Prop) → Prop
  | [x], R => ∃ ds, vL x = some ds ∧ R (.lf ds.reverse)
  | _, _ => False
@[simp] theorem x_listRev {x : O} {k : O → Prop} : oListRev [x] k = ∃ ds, vL x = some ds ∧ k (.lf ds.reverse) := rfl
end Pt
set_option maxHeartbeats 4000000
namespace Pt
open PySem PySem.Spec L2 LamX
open PyProof.Rows (envOfC IntsAre AllBare)
abbrev tb0 : Obj := { cls := .none, data := .fields #[] }
def H0 (told : Bool) (a : Addr) (vs : List Value) (ns : List Int) (ts : List Addr) : Hp := fun b =>
  if ts.contains b then some (.tbl #[]) else if told && b == a then some (.frz { cls := .type "list", data := .seq vs.toArray } (.lst (ns.map V.int))) else none
section
variable {P : Program} {w : World} {K : PySem.W.Frag} {mg mb : Str → Option Value} {CX : CXT} {k : Nat} {fa a : Addr} {fd : FuncData} {x : Str} {sp : Sp} {s1 : Shared} {vs : List Value} {ns : List Int} {cs : List (Addr × Addr)}
structure Start (K : PySem.W.Frag) (mg mb : Str → Option Value) (s1 : Shared) (a : Addr) (vs : List Value) (ns : List Int) (cs : List (Addr × Addr)) : Prop where
  inK : K.In s1.heap
  gl : s1.heap.Ns mainGlobals mg
  bl : s1.heap.Ns builtinsNs mb
  blt : ∀ x : Str, x ≠ "__name__" → mb x = bootBuiltins x
  lim : s1.heap.NoLimit
  gens : s1.gens = #[]
  obj : s1.heap.get? a = some { cls := .type "list", data := .seq vs.toArray }
  hin : IntsAre vs ns
  sz : ns.length ≤ sizeLine
  tab : ∀ p ∈ cs, s1.heap.get? p.2 = some tb0
  tabK : ∀ p ∈ cs, K.lookup p.2 = none
  code : ∀ p ∈ cs, PySem.W.CodeHd s1.heap p.1 p.2
  bmod : ∃ (bm : Addr) (ob : Obj), mg "__builtins__" = some (.ref bm) ∧ bm ≠ builtinsNs ∧ s1.heap.get? bm = some ob ∧ ob.cls = .type "module" ∧ ob.dict = some builtinsNs ∧ ob.data = .plain
def tabsOf (cs : List (Addr × Addr)) : List Addr := cs.map (·.2)
theorem H0_tab {told : Bool} {ts : List Addr} {b : Addr} (h : b ∈ ts) : H0 told a vs ns ts b = some (.tbl #[]) := if_pos (List.contains_iff_mem.mpr h)
theorem H0_cases {told : Bool} {ts : List Addr} {b : Addr} {u : HO} (h : H0 told a vs ns ts b = some u) : (b ∈ ts ∧ u = .tbl #[]) ∨ (told = true ∧ b = a ∧ u = .frz { cls := .type "list", data := .seq vs.toArray } (.lst (ns.map V.int))) := by
  unfold H0 at h
  split at h
  · rename_i m
    exact .inl ⟨List.contains_iff_mem.mp m, (Option.some.inj h).symm⟩
  · split at h
    · rename_i m
      have m2 := Bool.and_eq_true_iff.mp m
      exact .inr ⟨m2.1, beq_iff_eq.mp m2.2, (Option.some.inj h).symm⟩
    · cases h
theorem g_lawT (S : Start K mg mb s1 a vs ns cs) (room : Room k callerA) (F : ∀ base : Heap, K.In base → base.Ns mainGlobals mg → (∀ p ∈ cs, TabB base mg p.1 p.2) → FnG P w K mg base CX k fa fd [x] sp) (bind : ∀ (s : Shared) (u : Value), BindsTo s fd ⟨[u], []⟩ [(x, u)])
    (hsp : ∀ H : Hp, (∀ p ∈ cs, H p.2 = some (.tbl #[])) → SqL K H a (ns.map V.int) → sp [.ref a] H (fun v _ => v = .bl true) fun _ _ _ => False) (hCX : ∀ H e s', CX [] H s1 (fun _ _ _ => False) e s' → False) :
    codeAny (model P w) callerA (.call (.ref fa) ⟨[.ref a], []⟩) (fun r s' => r = .ok (.ret (.bool true)) ∧ OldK s1.heap s'.heap ∧ s'.os = s1.os ∧ AllBare s'.gens) s1 := by
  have hv := vals_ints S.hin
  have hn := S.hin.length
  have tabAt : ∀ b ∈ tabsOf cs, s1.heap.get? b = some tb0 := fun b hb => by
    obtain ⟨p, hp, rfl⟩ := List.mem_map.mp hb
    exact S.tab p hp
  have tabNK : ∀ b ∈ tabsOf cs, K.lookup b = none := fun b hb => by
    obtain ⟨p, hp, rfl⟩ := List.mem_map.mp hb
    exact S.tabK p hp
  have inT : ∀ p ∈ cs, p.2 ∈ tabsOf cs := fun p hp => List.mem_map_of_mem hp
  have noA : a ∉ tabsOf cs := fun h => by
    have e := tabAt a h
    rw [S.obj] at e
    exact nomatch (congrArg Obj.data (Option.some.inj e) : Data.seq vs.toArray _ = Data.fields #[])
  have main : ∀ told : Bool, (told = true → K.lookup a = none) → SqL K (H0 told a vs ns (tabsOf cs)) a (ns.map V.int) →
      codeAny (model P w) callerA (.call (.ref fa) ⟨[.ref a], []⟩) (fun r s' => r = .ok (.ret (.bool true)) ∧ OldK s1.heap s'.heap ∧ s'.os = s1.os ∧ AllBare s'.gens) s1 := by
    intro told htold sq
    obtain ⟨H, hH⟩ : ∃ H, H = H0 told a vs ns (tabsOf cs) := ⟨_, rfl⟩
    rw [← hH] at sq
    have kinds : ∀ {b : Addr} {u : HO}, H b = some u → (b ∈ tabsOf cs ∧ u = .tbl #[]) ∨ (told = true ∧ b = a ∧ u = .frz { cls := .type "list", data := .seq vs.toArray } (.lst (ns.map V.int))) := fun {b u} e => by
      rw [hH] at e
      exact H0_cases e
    have hok : HOk P w H s1.heap := fun b u e => by
      rcases kinds e with ⟨m, rfl⟩ | ⟨_, rfl, rfl⟩
      · exact tabAt b m
      · exact ⟨S.obj, by rw [List.length_map]; exact S.sz, vs, _, hv, S.obj⟩
    have free : ∀ {b : Addr} {o : Obj}, s1.heap.get? b = some o → (∀ us n, o.data ≠ .seq us n) → o ≠ tb0 → H b = none := fun {b o} e h1 h2 => by
      cases q : H b with
      | none => rfl
      | some u =>
        rcases kinds q with ⟨m, _⟩ | ⟨_, rfl, _⟩
        · rw [tabAt b m] at e
          exact absurd (Option.some.inj e).symm h2
        · rw [S.obj] at e
          cases e
          exact absurd rfl (h1 _ _)
    have under : ∀ {b : Addr} {o : Obj}, s1.heap.get? b = some o → (∀ us n, o.data ≠ .seq us n) → o ≠ tb0 → (hidT s1.heap H).get? b = some o := fun e h1 h2 => hidT_get e (free e h1 h2)
    have ofData : ∀ {o : Obj} {d : Data}, o.data = d → (∀ us n, d ≠ .seq us n) → d ≠ .fields #[] → (∀ us n, o.data ≠ .seq us n) ∧ o ≠ tb0 := fun {o d} e h1 h2 => ⟨fun us n z => h1 us n (e.symm.trans z), fun z => h2 (by rw [← e, z])⟩
    have nsU : ∀ {b : Addr} {m : Str → Option Value}, s1.heap.Ns b m → (hidT s1.heap H).Ns b m := fun {b m} z => by
      obtain ⟨o, es, ep, e, d, r⟩ := z
      obtain ⟨h1, h2⟩ := ofData d (fun _ _ z => nomatch z) (fun z => nomatch z)
      exact ⟨o, es, ep, under e h1 h2, d, r⟩
    have kb : K.In (hidT s1.heap H) := fun b o e => hidT_get (S.inK b o e) (by
      cases q : H b with
      | none => rfl
      | some u =>
        rcases kinds q with ⟨m, _⟩ | ⟨ht, rfl, _⟩
        · rw [tabNK b m] at e; cases e
        · rw [htold ht] at e; cases e)
    have mod : Mod K mg (hidT s1.heap H) := ⟨kb, nsU S.gl, ⟨mb, nsU S.bl, S.blt⟩, by obtain ⟨mc, h1, h2⟩ := S.lim; exact ⟨mc, nsU h1, h2⟩⟩
    have tb : ∀ p ∈ cs, TabB (hidT s1.heap H) mg p.1 p.2 := fun p hp => by
      have hpt := S.tab p hp
      refine ⟨?_, ?_, fun z => ?_⟩
      · obtain ⟨o, us, file, tf, flags, tg, inF, text, tt, e1, r1, r2, r3, r4, r5, r6, r7, r8, hne⟩ := S.code p hp
        obtain ⟨h1, h2⟩ := ofData r2 (fun _ _ z => nomatch z) (fun z => by
          have z' := Data.fields.inj z
          rw [z'] at r3
          simp at r3)
        exact ⟨o, us, file, tf, flags, tg, inF, text, tt, under e1 h1 h2, r1, r2, r3, r4, r5, r6, r7, r8, hne⟩
      · obtain ⟨bm, ob, b1, b2, b3, b4, b5, b6⟩ := S.bmod
        obtain ⟨h1, h2⟩ := ofData b6 (fun _ _ z => nomatch z) (fun z => nomatch z)
        refine ⟨bm, ob, b1, b2, fun q => ?_, fun q => ?_, under b3 h1 h2, b4, b5, b6⟩
        · obtain ⟨o, es, ep, e, d, _⟩ := S.gl
          rw [q, e] at b3
          cases b3
          rw [d] at b6
          cases b6
        · rw [q, hpt] at b3
          cases b3
          cases b6
      · obtain ⟨o, es, ep, e, d, _⟩ := S.gl
        rw [z, hpt] at e
        cases e
        cases d
    have e0 : Env0 P w K mg (hidT s1.heap H) callerA [] s1 H := ⟨rfl, mod, fun b o e => of_hidT e, Nat.le_of_eq (hidT_size _ _), trivial, fun b hb => (List.not_mem_nil hb).elim, hok, .of_eq S.gens⟩
    refine codeAny_mono ((F _ kb (nsU S.gl) tb).run callerA [] s1 H ⟨[.ref a], []⟩ [.ref a] [.ref a] _ _ rfl room e0 (bind s1 (.ref a)) (.cons rfl .nil) (hsp H (fun p hp => by rw [hH]; exact H0_tab (inT p hp)) sq)) fun r s' h => ?_
    cases r with
    | error e => exact (hCX H e s' h).elim
    | ok fl =>
      cases fl with
      | next => exact h.elim
      | brk => exact h.elim
      | cont => exact h.elim
      | ret u =>
        obtain ⟨v, H', os, bare, un, hok', rv, q⟩ := h
        obtain rfl : v = V.bl true := q
        obtain rfl : u = Value.bool true := rv
        have same : ∀ b o, b ∉ tabsOf cs → s1.heap.get? b = some o → s'.heap.get? b = some o := fun b o nb e => by
          cases q : H b with
          | none => exact un.keep b o e q (fun z => (List.not_mem_nil z).elim) fun z => (List.not_mem_nil z).elim
          | some u =>
            rcases kinds q with ⟨m, _⟩ | ⟨_, rfl, rfl⟩
            · exact absurd m nb
            · obtain ⟨e1, _⟩ := hok b _ q
              obtain ⟨e2, _⟩ := hok' b _ (un.frzs b _ _ q)
              rw [e] at e1
              cases e1
              exact e2
        have more : ∀ p ∈ cs, ∃ us : Array Value, s'.heap.get? p.2 = some { cls := .none, data := .fields us } := fun p hp => by
          obtain ⟨us, z⟩ := un.tbls p.2 #[] (by rw [hH]; exact H0_tab (inT p hp))
          exact ⟨_, hok' p.2 _ z⟩
        refine ⟨rfl, ⟨fun b o e => ?_, fun b o e => ?_⟩, os, bare⟩
        · by_cases hb : b ∈ tabsOf cs
          · obtain ⟨p, hp, rfl⟩ := List.mem_map.mp hb
            obtain ⟨us, hm⟩ := more p hp
            rw [S.tab p hp] at e
            cases e
            refine .inr (.inl ⟨((S.code p hp).tab (S.tab p hp)).isCodeTable, rfl, #[], us, rfl, ?_⟩)
            rw [Array.empty_append]
            exact hm
          · exact .inl (same b o hb e)
        · by_cases hb : b ∈ tabsOf cs
          · obtain ⟨p, hp, rfl⟩ := List.mem_map.mp hb
            obtain ⟨us, hm⟩ := more p hp
            exact ⟨_, hm⟩
          · exact ⟨o, same b o hb e⟩
  cases hk : K.lookup a with
  | some o =>
    have e := S.inK a o hk
    rw [S.obj] at e
    cases e
    exact main false (fun z => nomatch z) (.inr ⟨_, vs.toArray, _, hk, rfl, rfl, rfl, by rw [List.size_toArray, hn]; exact S.sz, by simpa using hv⟩)
  | none =>
    refine main true (fun _ => hk) (.inl (.inr ⟨{ cls := .type "list", data := .seq vs.toArray }, ?_⟩))
    unfold H0
    rw [if_neg fun z => noA (List.contains_iff_mem.mp z), if_pos (by simp)]
def HeadT (l : PySem.W.OpenLaw) (w : World) (K : PySem.W.Frag) (CX : CXT) (k n : Nat) (x : Str) (mg : Str → Option Value) (fa : Addr) (h : Heap) : Prop :=
  ∃ (fd : FuncData) (cs : List (Addr × Addr)) (sp : Sp), (∀ p ∈ cs, h.get? p.2 = some tb0) ∧ (∀ p ∈ cs, K.lookup p.2 = none) ∧ (∀ p ∈ cs, PySem.W.CodeHd h p.1 p.2) ∧ (∀ (s : Shared) (u : Value), BindsTo s fd ⟨[u], []⟩ [(x, u)]) ∧
    (∀ (H : Hp) (a : Addr) (ns : List Int), ns.length ≤ n → (∀ z ∈ ns, Builtin.Int.intBits z ≤ 1048576) → (∀ p ∈ cs, H p.2 = some (.tbl #[])) → SqL K H a (ns.map V.int) → sp [.ref a] H (fun v _ => v = .bl true) fun _ _ _ => False) ∧
    ∀ base : Heap, K.In base → base.Ns mainGlobals mg → (∀ p ∈ cs, TabB base mg p.1 p.2) → FnG l.prog w K mg base CX k fa fd [x] sp
end
def TabF (q : Program) (K : PySem.W.Frag) (h : Heap) : Prop := ∀ (x : Str) (c P : Addr) (d : DefRec), (PyProof.Rows.recsOf q).find? (fun e => e.name == x) = some d → PySem.W.tabIn K x = some (c, P) → PySem.W.CodeHd h c P ∧ h.get? P = some (PySem.W.tabObj #[])
theorem g_walkT {l : PySem.W.OpenLaw} {n k : Nat} {q : Program} {loose : List Str} {XP : (Str → Option Value) → Heap → Prop} {YP : World → Heap → Prop} {d : DefRec} {K : Params → PySem.W.Frag} {CX : World → CXT} {x : Str} (hn : l.most = some n) (hn2 : n ≤ sizeLine) (hdf : d.params.defaults = []) (hr : Room k callerA)
    (hY : ∀ (w : World) (h : Heap), YP w h → (K w.params).In h) (F : ∀ (w : World) (mg : Str → Option Value) (fa : Addr) (h : Heap), (K w.params).In h → h.Ns mainGlobals mg → mg d.name = some (.ref fa) → TabF q (K w.params) h → HeadT l w (K w.params) (CX w) k n x mg fa h)
    (hCX : ∀ (w : World) (H : Hp) (s : Shared) (e : Value) (s' : Shared), CX w [] H s (fun _ _ _ => False) e s' → False) :
    PySem.W.WalkO q loose XP YP l.row.toRowW d [] (fun f vs => PySem.call f vs) :=
  Att.attach_callB hn hdf fun w s0 s1 mg mb fa o pm cd doc a vs ns G Y ho hd hcd hmg obj hints0 len bits gens => by
    have inK := hY w _ Y
    obtain ⟨fd, cs, sp, t1, t2, t3, hb, hsp, hF⟩ := F w mg fa _ inK G.T.g hmg (fun x c P d h1 h2 => PySem.W.tab_of G.T inK h1 h2)
    exact g_lawT ⟨inK, G.T.g, G.T.b, G.T.builtins, G.T.nolimit, gens, obj, hints0, Nat.le_trans len hn2, t1, t2, t3, G.T.bmain⟩ hr hF hb (fun H hH hS => hsp H a ns len bits hH hS) fun H e s' => hCX w H s1 e s'
theorem tabIn_mk {K : PySem.W.Frag} {x : Str} {f c P : Addr} {oc oc2 : Value} {od od2 : Option Addr} {fd : FuncData} {vs : Array Value} {sl sl2 : Array (Option Value)} (a : PySem.W.nsIn K mainGlobals x = some (some (.ref f))) (l : K.lookup f = some ⟨oc, od, .func fd, sl⟩) (hc : fd.code = .ref c) (k : K.lookup c = some ⟨oc2, od2, .fields vs, sl2⟩)
    (hP : vs[11]? = some (.ref P)) : PySem.W.tabIn K x = some (c, P) := by
  unfold PySem.W.tabIn
  rw [a]
  dsimp only
  rw [l]
  dsimp only
  rw [hc]
  dsimp only
  rw [k]
  dsimp only
  rw [hP]
end Pt
set_option maxHeartbeats 400000
namespace Lk
open PySem PySem.Spec L2 PyProof.Rows PySem.W
theorem each_of {R : Value → Nat → Prop} : ∀ {vs : List Value} {i n : Nat}, vs.length = n → (∀ j v, vs[j]? = some v → R v (i + j)) → EachIs R vs (List.range' i n)
  | [], _, n, h, _ => by
    subst h
    exact .nil
  | v :: vs, i, n, h, k => by
    subst h
    show EachIs R (v :: vs) (List.range' i (vs.length + 1))
    rw [List.range'_succ]
    refine .cons (by simpa using k 0 v rfl) (each_of rfl fun j u hu => ?_)
    have := k (j + 1) u (by simpa using hu)
    rwa [show i + 1 + j = i + (j + 1) from by omega]
theorem size0 (n : Nat) : Builtin.Range.rangeSize 0 n 1 = n := by
  unfold Builtin.Range.rangeSize
  rw [if_pos (by decide)]
  split
  · omega
  · omega
section
variable {prog : Program} {w : World} {A : Around} {E : Value → Shared → Prop} {s : Shared} {r f : Addr} {n : Nat} {t u v : Tok} {Q : Value → Shared → Prop} {k : Nat → Int}
def byKey (k : Nat → Int) (n : Nat) : List Nat := (List.range n).mergeSort fun a b => decide (k a ≤ k b)
theorem sorted_key_range (hh : A.handled = none) (hr : IsRange s.heap r 0 n 1 t u v) (hsm : Builtin.Range.small 0 n 1 = true) (hn : n ≤ 2 ^ 20) (hu : A.units + 2 < cLine)
    (turn : ∀ i, i < n → ∀ (tok : Tok) (h : Heap) (tk : Nat), (∀ b o, s.heap.get? b = some o → h.get? b = some o) → wpAny (model prog w) A.in1.in1 (call (.ref f) [.int i tok]) (KeyPure (.int (k i)) { s with heap := h, toks := tk }) (fun _ _ => False) { s with heap := h, toks := tk })
    (h : ∀ (D : Addr) (out : List Value) (c : Nat) (h' : Heap) (tk : Nat), (∀ b o, s.heap.get? b = some o → h'.get? b = some o) → s.heap.get? D = none → h'.get? D = some (seqObj "list" out.toArray c) → EachIs (fun v i => ∃ t, v = .int (i : Nat) t) out (byKey k n) → Q (.ref D) { s with heap := h', toks := tk }) :
    wpAny (model prog w) A (call (.builtin "sorted") [.ref r] [(Str.ofString "key", .ref f)]) Q E s := by
  refine call_function_entry_kw kind_sorted plain_sorted entry_sorted (ksk_s1 _ _) ?_
  unfold Builtin.«sorted»
  refine wpAny_bind (m := checkCount "sorted" 1 1 _) (wpAny_pure ?_)
  have hh1 : A.in1.handled = none := hh
  refine wpAny_bind (collect_range (A := A.in1) hh1 hr hsm (size0 n) (Nat.le_trans hn (by decide)) fun h1 tk1 acc k1 hi => ?_)
  have hlen : acc.toList.length = n := by rw [Array.length_toList]; exact hi.1
  have hZ : acc.toList.length ≤ sizeLine := by rw [hlen]; exact Nat.le_trans hn (by decide)
  refine wpAny_bind (wpAny_newList ?_ hZ)
  have hL : (h1.push (seqObj "list" acc.toList.toArray 0)).get? h1.objs.size = some (seqObj "list" acc.toList.toArray 0) := Heap.get?_push_size _ rfl
  have hle : s.heap.get? h1.objs.size = none := by
    cases q : s.heap.get? h1.objs.size with
    | none => rfl
    | some o => exact absurd (Heap.lt_size (k1 _ _ q)) (Nat.lt_irrefl _)
  have he : EachIs (fun v (i : Nat) => ∃ t, v = Value.int (i : Nat) t) acc.toList (List.range n) := by
    rw [List.range_eq_range']
    refine each_of hlen fun j v hj => ?_
    obtain ⟨t, e⟩ := hi.2 j v (by rw [← Array.getElem?_toList]; exact hj)
    exact ⟨t, by rw [e]; simp⟩
  have keep : ∀ b o, s.heap.get? b = some o → b ≠ h1.objs.size ∧ (h1.push (seqObj "list" acc.toList.toArray 0)).get? b = some o := fun b o q => ⟨Nat.ne_of_lt (Heap.lt_size (k1 b o q)), Heap.get?_push_of_some _ (k1 b o q)⟩
  refine wpAny_bind (wpAny_holding (wpAny_call_entry_kw slot_list_sort ⟨_, hL, rfl⟩ entry_list_sort ?_ (ksk_l1 _ _)))
  rw [ksk_t1]
  refine keyH_tree (s := { s with heap := h1.push (seqObj "list" acc.toList.toArray 0), toks := tk1 }) (kz := (List.range n).map fun i => PyData.int (k i)) hL (by rw [List.length_map, List.length_range, hlen]) hZ (AllAlike.of fun _ _ => by simp [alike]) (Sortable.others fun _ => ⟨(fun z => nomatch z), fun _ z => nomatch z⟩)
    (fun d hd => by
      obtain ⟨i, _, rfl⟩ := List.mem_map.mp hd
      simp [PyData.depth]
      exact hu)
    (keyH_turns (s := { s with heap := h1.push (seqObj "list" acc.toList.toArray 0), toks := tk1 }) (k := fun i => PyData.int (k i)) he fun v i hv hi' h' tk' kp => ?_) fun h' tk' out c kp hD ko => ⟨.none, rfl, ?_⟩
  · obtain ⟨tok, rfl⟩ := hv
    exact turn i (List.mem_range.mp hi') tok h' tk' fun b o q => kp b o (keep b o q).1 (keep b o q).2
  · have eo := keyedOut_each (fun i : Nat => PyData.int (k i)) ko he
    rw [dataLe_int] at eo
    exact wpAny_pure ⟨_, rfl, h h1.objs.size out c h' tk' (fun b o q => kp b o (keep b o q).1 (keep b o q).2) hle hD eo⟩
end
end Lk
namespace Lk
open PySem PySem.Spec L2 PyProof.Rows PySem.W
structure LScope (scope : Scope) (xn iname : Str) : Prop where
  kind : scope.kind = .function
  co : scope.isCoroutine = false
  gen : scope.isGenerator = false
  nocell : ∀ y ∈ scope.names, y.2 ≠ .cell
  loc : scope.names.lookup iname = some .local
  free : scope.names.lookup xn = some .free
  frees : ∀ y ∈ scope.names, y.2 = .free → y.1 = xn
section
variable {prog : Program} {w : World} {A : Around} {s : Shared} {f c' c a : Addr} {q xn iname : Str} {scope : Scope} {params : Arguments} {cl : List (Str × Addr)} {pm ctv : Value} {p1 p2 p3 : Pos} {items : Array Value} {j : Nat} {key : Int} {tk0 : Tok}
theorem lam_turn (hroom : A.depth < recursionLimit) (L : LScope scope xn iname) (ho : s.heap.get? f = some (PySem.W.kla_obj "<lambda>" q params (.Subscript (.Name xn p1) (.Name iname p2) p3) scope cl pm c' ctv)) (hcode : s.heap.CodeRec (.ref c') q) (lim : s.heap.NoLimit)
    (hbind : ∀ u : Value, bindArgs (PySem.W.kla_fn "<lambda>" q params (.Subscript (.Name xn p1) (.Name iname p2) p3) scope cl pm (.ref c') ctv) ⟨[u], []⟩ = pure [(iname, u)])
    (hcl : cl.lookup xn = some c) (hcell : s.heap.IsCell c (some (.ref a))) (hp : IsTup s.heap a items) (hz : items.size ≤ sizeLine) (hx : items[j]? = some (.int key tk0)) (tok : Tok)
    (hd1 : (xn == ("__debug__" : Str)) = false) (hd2 : (iname == ("__debug__" : Str)) = false) (hd3 : (xn == ("__classdict__" : Str)) = false) (hs : ∀ o i, subscripted (.Name iname p2) false o i = operate [o, i] (getItem o i)) :
    wpAny (model prog w) A (call (.ref f) [.int j tok]) (KeyPure (.int key) s) (fun _ _ => False) s := by
  have hlt : j < items.size := (Array.getElem?_eq_some_iff.mp hx).1
  refine wpAny_call (PySem.W.kla_callFunE hroom ho rfl L.co L.gen rfl hcode ?_)
  rw [hbind]
  refine wpAny_pure (wpAny_newFunctionEnv L.nocell (fun y hy => ?_) (fun h₁ hns hsb => ⟨lim.fresh _ hsb, ?_⟩) L.kind)
  · rw [List.mem_singleton.mp hy]
    exact L.loc
  show codeAny _ _ (.expr (.Subscript (.Name xn p1) (.Name iname p2) p3) (PySem.W.envX q scope s.heap.objs.size f (.ref c') cl)) _ _
  have kp : ∀ b o, s.heap.get? b = some o → h₁.get? b = some o := fun b o e => hsb.extBut b o (Nat.ne_of_lt (Heap.lt_size e)) (Heap.get?_push_of_some _ e)
  refine PySem.W.kla_codeExpr (Subscript_ ?_)
  obtain ⟨oc, ec, hdc⟩ := hcell
  refine wpAny_Name (wpAny_loadName_free (c := c) (v := .ref a) L.kind L.free hcl ⟨oc, kp _ _ ec, hdc⟩ ?_ hd3) hd1
  refine wpAny_Name (wpAny_loadName_local (v := .int j tok) L.kind L.loc hns (by simp) ?_) hd2
  obtain ⟨ot, et, ht⟩ := hp
  have pl : IsTup h₁ a items := ⟨ot, kp _ _ et, ht⟩
  have h63 := line63
  refine subscriptTail_builtinR (x := .int key tk0) pl.typeIs slot_tuple_getitem.lookup (getItem_tuple (j := j) pl (by omega) (by omega) (by
    unfold seqIndex?
    simp
    omega) hx ⟨rfl, ?_⟩) (hs _ _)
  exact ⟨h₁, _, rfl, kp, .int _ _⟩
end
end Lk
namespace Lk
open PySem PySem.Spec L2 PyProof.Rows PySem.W LamX
theorem cr_range1 {X : Cx} : CallR X (.type "range") (fun vs H Q => ∃ j, vs = [V.int j] ∧ ∀ p, H p = none → Q (.ref p) (upd H p (.rng 0 j))) := by
  intro pins s σ H vs us Q I r h
  obtain ⟨j, rfl, q⟩ := h
  obtain ⟨u1, rfl, r1⟩ := vals1 r
  obtain ⟨t, rfl⟩ := r1
  refine call_range_1 ⟨.ref s.heap.objs.size, upd H s.heap.objs.size (.rng 0 j), I.laid (t' := s.toks + 2) (fun b o e => Heap.get?_push_of_some _ e) (Nat.le_refl _) ?_, rfl, q _ (I.hok.fresh (Nat.le_refl _))⟩
  exact ⟨_, _, _, Heap.get?_push_size _ rfl⟩
def keyAt (keys : List Int) (i : Nat) : Int := keys.getD i 0
section
variable {X : Cx} {pins : List (Addr × Obj)} {σ : L2.St} {H : Hp} {s : Shared}
theorem tab_more {pos : Pos} {H : Hp} {P c' : Addr} {q : Str} {ps : Array Value} (hP : H P = some (.tbl ps)) (hc : H c' = none) (ht : TriplesOk ps.toList) : ∀ P', TabS H P' q → TabS (upd (upd H P (.tbl (ps ++ #[rawInt pos.line, rawInt pos.col, .ref c']))) c' (CodeO c' q)) P' q := by
  intro P' ⟨ps', a1, a2, a3⟩
  have old : ∀ d, H d = some (CodeO d q) → upd (upd H P (.tbl (ps ++ #[rawInt pos.line, rawInt pos.col, .ref c']))) c' (CodeO c' q) d = some (CodeO d q) := fun d e => by
    rw [upd_ne (ne_of_none e hc), upd_ne fun z => ?_]
    · exact e
    · rw [z, hP] at e
      exact codeO_ne _ (Option.some.inj e).symm
  by_cases hb : P' = P
  · subst hb
    rw [hP] at a1
    cases a1
    have el : (ps ++ #[rawInt pos.line, rawInt pos.col, Value.ref c']).toList = ps.toList ++ [rawInt pos.line, rawInt pos.col, Value.ref c'] := by simp
    refine ⟨_, (upd_ne (ne_of_none hP hc)).trans upd_same, by rw [el]; exact TriplesOk_snoc _ _ _ _ ht, fun p2 cv hcv => ?_⟩
    rw [el] at hcv
    rcases among_app _ ht hcv with z | z
    · obtain ⟨d, e1, e2⟩ := a3 p2 cv z
      exact ⟨d, e1, old d e2⟩
    · exact ⟨c', z, upd_same⟩
  · refine ⟨ps', ?_, a2, fun p2 cv hcv => ?_⟩
    · rw [upd_ne (ne_of_none a1 hc), upd_ne hb]
      exact a1
    · obtain ⟨d, e1, e2⟩ := a3 p2 cv hcv
      exact ⟨d, e1, old d e2⟩
theorem lam_make3 {c P : Addr} {params : Arguments} {body : Expr} {scope : Scope} {pos : Pos} {E : Value → Shared → Prop} {Q : Value → Shared → Prop} (I : Inv X pins σ H s) (TB : TabB X.base X.mg c P) (hcode : X.env.code = .ref c)
    (hP : TabS H P (X.env.qual ++ "<lambda>")) (hdef : defaultsOf params X.env = ([], [])) (hfree : ∀ y ∈ scope.names, y.2 = .free → ∃ c, X.env.cells.lookup y.1 = some c)
    (h : ∀ (f c' : Addr) (pm ctv : Value) (H1 : Hp) (s' : Shared), Inv X pins σ H1 s' → ExtN H H1 → (∀ P', TabS H P' (X.env.qual ++ "<lambda>") → TabS H1 P' (X.env.qual ++ "<lambda>")) → (∀ b, H1 b = none → H b = none) →
      s'.heap.get? f = some (PySem.W.kla_obj "<lambda>" (X.env.qual ++ "<lambda>") params body scope (cloFrom X.env.cells scope.names []) pm c' ctv) → H1 c' = some (CodeO c' (X.env.qual ++ "<lambda>")) → Q (.ref f) s') :
    wpAny (model X.prog X.w) X.A (eval (.Lambda params body scope pos) X.env) Q E s := by
  obtain ⟨ps, e1, e2, e3⟩ := hP
  have inH : s.heap.get? P = some { cls := .none, data := .fields ps } := I.hok P _ e1
  have blt : s.heap.BuiltinsAt X.mg P := TB.bm.keeps I.bk
  refine PySem.W.kla_eval hdef ?_
  cases known : codeAmong pos ps.toList with
  | some cv =>
    obtain ⟨c', rfl, hc'⟩ := e3 pos cv known
    refine PySem.W.kla_makeFunctionHit (mg := X.mg) (c := c) (P := P) (ps := ps) (closure_ok hfree) I.ok.glob (I.mod.glob.keeps I.bk) hcode (TB.code.keeps I.bk) inH e2 known blt fun ctv g tk kp _ => ?_
    exact h g.objs.size c' _ ctv H _ (I.kept fun b o e => Heap.get?_push_of_some _ (kp b o e)) (ExtN.refl H) (fun _ t => t) (fun _ e => e) (Heap.get?_push_size _ rfl) hc'
  | none =>
    refine PySem.W.kla_makeFunction (mg := X.mg) (c := c) (P := P) (ps := ps) (closure_ok hfree) I.ok.glob (I.mod.glob.keeps I.bk) hcode (TB.code.keeps I.bk) inH e2 known TB.gP blt fun c' ctv g tk kp new lt rec tab => ?_
    obtain ⟨d, oc, us, t, rfl', ho, hd, hu⟩ := rec
    cases rfl'
    have hn : H c' = none := I.hok.fresh new
    have J := inv_table (t' := tk) (more := #[rawInt pos.line, rawInt pos.col, .ref c']) (h' := g.push (PySem.W.kla_obj "<lambda>" (X.env.qual ++ "<lambda>") params body scope (cloFrom X.env.cells scope.names []) ((X.mg "__name__").getD .none) c' ctv)) (q := X.env.qual ++ "<lambda>") I e1
      (fun b o hb e => Heap.get?_push_of_some _ (kp b o hb e)) (Heap.get?_push_of_some _ tab) new ⟨oc, us, t, Heap.get?_push_of_some _ ho, hd, hu⟩
    refine h g.objs.size c' _ ctv _ _ J (fun b o e n => ?_) (tab_more e1 hn e2) (fun b e => ?_) (Heap.get?_push_size _ rfl) upd_same
    · have hb : b ≠ P := fun z => n ps (by rw [z, e1] at e; exact (Option.some.inj e).symm)
      rw [upd_ne (ne_of_none e hn), upd_ne hb]
      exact e
    · exact NdefX.upd_none (NdefX.upd_none e)
def SK (K : PySem.W.Frag) (P : Addr) (q : Str) (ix : Nat) (σ : L2.St) (Q : VK) : V → Hp → Prop := fun x H1 => ∃ (r : Addr) (n : Nat) (a : Addr) (keys : List Int), x = .ref r ∧ H1 r = some (.rng 0 n) ∧ n ≤ 2 ^ 20 ∧ σ[ix]? = some (some (.ref a)) ∧ SqT K H1 a (keys.map V.int) ∧ n ≤ keys.length ∧ TabS H1 P q ∧
  ∀ (H2 : Hp) (D : Addr), ExtN H1 H2 → (∀ P', TabS H1 P' q → TabS H2 P' q) → (∀ b, H2 b = none → H1 b = none) → H2 D = none → Q (.ref D) (upd H2 D (.lst ((byKey (keyAt keys) n).map fun (i : Nat) => V.int i)))
def tSortKey (K : PySem.W.Frag) (P : Addr) (q : Str) (ix : Nat) (ta : TE) : TE := fun σ H Q => ta σ H fun x H1 => ∃ j, [x] = [V.int j] ∧ ∀ p, H1 p = none → SK K P q ix σ Q (.ref p) (upd H1 p (.rng 0 j))
theorem _root_.L2.SqT.extN {K : PySem.W.Frag} {H H' : Hp} {a : Addr} {xs : List V} (h : SqT K H a xs) (e : ExtN H H') : SqT K H' a xs := by
  rcases h with (x | ⟨o, x⟩) | x
  · exact .inl (.inl (e _ _ x fun _ z => nomatch z))
  · exact .inl (.inr ⟨o, e _ _ x fun _ z => nomatch z⟩)
  · exact .inr x
theorem pe_sortKey {c P : Addr} {params : Arguments} {scope : Scope} {xn iname : Str} {ix : Nat} {ea : Expr} {ta : TE} {p p2 p3 p4 p5 p6 lpos pos : Pos} {k2 : Pos} (hgS : Gl X "sorted") (hmS : X.mg "sorted" = none) (hgR : Gl X "range") (hmR : X.mg "range" = none) (ha : PE X ea ta)
    (TB : TabB X.base X.mg c P) (hcode : X.env.code = .ref c) (L : LScope scope xn iname) (hdef : defaultsOf params X.env = ([], [])) {kr : Nat} (hr : Room kr X.A)
    (hbind : ∀ (q : Str) (cl : List (Str × Addr)) (pm cv ctv u : Value), bindArgs (PySem.W.kla_fn "<lambda>" q params (.Subscript (.Name xn p4) (.Name iname p5) p6) scope cl pm cv ctv) ⟨[u], []⟩ = pure [(iname, u)])
    (hN : X.N[ix]? = some xn) (hkind : X.env.scope.names.lookup xn = some .cell) (hd1 : (xn == ("__debug__" : Str)) = false) (hd2 : (iname == ("__debug__" : Str)) = false) (hd3 : (xn == ("__classdict__" : Str)) = false) (hs : ∀ o i, subscripted (.Name iname p5) false o i = operate [o, i] (getItem o i))
    (he1 : starEach [ea] X.env = [(false, eval ea X.env)] := by rfl) :
    PE X (.Call (.Name "sorted" p) [.Call (.Name "range" p2) [ea] [] p3] [⟨some "key", .Lambda params (.Subscript (.Name xn p4) (.Name iname p5) p6) scope lpos, k2⟩] pos) (tSortKey X.K P (X.env.qual ++ "<lambda>") ix ta) := by
  have hsm : ∀ n : Nat, n ≤ 2 ^ 20 → Builtin.Range.small 0 n 1 = true := fun n h => small_one (by decide) (by decide) (by omega) (by omega)
  have hrg : PE X (.Call (.Name "range" p2) [ea] [] p3) (fun σ H Q => tCons ta tNil σ H fun vs H1 => ∃ j, vs = [V.int j] ∧ ∀ p, H1 p = none → Q (.ref p) (upd H1 p (.rng 0 j))) := pe_callTy cr_range1 hgR hmR boot_range (pa_cons ha pa_nil he1) (he := he1)
  refine ⟨fun pins s σ H Q I h => ?_⟩
  refine wpAny_Call_Name_kw (ld_blt I hgS hmS (by rfl) ?_)
  refine PyProof.Rows.callWith_kw ?_
  refine args_cons (thn (hrg.run pins s σ H (SK X.K P (X.env.qual ++ "<lambda>") ix σ Q) I h) fun x s1 ⟨xv, H1, I1, r1, hx⟩ => args_nil ?_)
  obtain ⟨r, n, a, keys, rfl, hr1, hn, hσ, hk, hnk, hP, q⟩ := hx
  obtain rfl : x = .ref r := r1
  show wpAny _ _ (evalAll ((do let v ← eval (.Lambda params (.Subscript (.Name xn p4) (.Name iname p5) p6) scope lpos) X.env; standAt pos; pure v) :: [])) _ _ s1
  have hfree : ∀ y ∈ scope.names, y.2 = .free → ∃ c, X.env.cells.lookup y.1 = some c := fun y hy e => by
    rw [L.frees y hy e]
    exact I1.ok.has _ (.inl hkind)
  refine wpAny_evalAll_cons (wpAny_bind (lam_make3 I1 TB hcode hP hdef hfree fun f c' pm ctv H2 s2 I2 e2 t2 l2 hf hc => wpAny_bind (wpAny_standAt (wpAny_pure (wpAny_evalAll_nil ?_)))))
  obtain ⟨m, hns, hl⟩ := I2.loc
  obtain ⟨u, ru, lu⟩ := hl ix xn (.ref a) hN hσ (.inr (.inl hkind))
  obtain rfl : u = .ref a := ru
  obtain ⟨cc, hcc, hcell⟩ : ∃ cc, X.env.cells.lookup xn = some cc ∧ s2.heap.IsCell cc (some (.ref a)) := by
    rcases lu with ⟨k', _⟩ | ⟨_, cc, e1, e2⟩
    · have k3 : X.env.scope.names.lookup xn = some .local := k'
      rw [hkind] at k3
      cases k3
    · exact ⟨cc, e1, e2⟩
  have hcl : (cloFrom X.env.cells scope.names []).lookup xn = some cc := by
    have hy : (xn, NameKind.free) ∈ scope.names := PySem.mem_of_lookup L.free
    obtain ⟨c2, h2⟩ := mem_lookup (cloFrom_has (cells := X.env.cells) (acc := []) hy)
    have h3 := NdefX.clo_cm hfree h2
    rw [hcc] at h3
    cases h3
    exact h2
  obtain ⟨its, rv, pl, hz⟩ := I2.tuple (hk.extN e2)
  obtain ⟨tt, tu, tv, hrg2⟩ : ∃ t u v, s2.heap.get? r = some { cls := .type "range", data := .fields #[.int 0 t, .int n u, .int 1 v] } := I2.hok r _ (e2 _ _ hr1 fun _ z => nomatch z)
  have hcr := NdefX.codeO_at I2.hok hc
  have lim : s2.heap.NoLimit := I2.ok.mod.nolimit.keeps I2.bk
  show wpAny _ _ (call (.builtin "sorted") [.ref r] [(Str.ofString "key", .ref f)]) _ _ s2
  refine sorted_key_range (k := keyAt keys) hr.hd hrg2 (hsm n hn) hn (by have := hr.un; omega) (fun i hi tok h' tk kp => ?_) fun D out c2 h' tk kp hD hout eo => ?_
  · obtain ⟨oc, ec, hdc⟩ := hcell
    obtain ⟨ot, et, ht⟩ := pl
    have hki : keys[i]? = some (keyAt keys i) := by
      unfold keyAt
      rw [List.getD_eq_getElem?_getD, List.getElem?_eq_getElem (by omega)]
      rfl
    obtain ⟨w', hw', rw'⟩ := rv.get (show (keys.map V.int)[i]? = some (V.int (keyAt keys i)) by rw [List.getElem?_map, hki]; rfl)
    obtain ⟨tk0, rfl⟩ := rw'
    obtain ⟨c3, oc3, us3, t3, e3, h3, d3, v3⟩ := hcr
    exact lam_turn (s := { s2 with heap := h', toks := tk }) (by have := hr.dp; show X.A.depth < _; omega) L (kp _ _ hf) ⟨c3, oc3, us3, t3, e3, kp _ _ h3, d3, v3⟩ (lim.keeps kp) (fun u => hbind _ _ _ _ _ u) hcl ⟨oc, kp _ _ ec, hdc⟩ ⟨ot, kp _ _ et, ht⟩ (by rw [List.size_toArray, ← rv.length]; exact hz) (by simpa using hw') tok hd1 hd2 hd3 hs
  · have hn0 : H2 D = none := I2.hok.gone hD
    have hlen : (byKey (keyAt keys) n).length = n := by
      unfold byKey
      rw [List.length_mergeSort, List.length_range]
    have hzl : ((byKey (keyAt keys) n).map fun (i : Nat) => V.int i).length ≤ sizeLine := by
      rw [List.length_map, hlen]
      exact Nat.le_trans hn (by decide)
    have vals : ∀ {us : List Value} {is : List Nat}, EachIs (fun v i => ∃ t, v = Value.int (i : Nat) t) us is → Vals (is.map fun (i : Nat) => V.int i) us := fun e => by
      induction e with
      | nil => exact .nil
      | cons h _ ih => exact .cons h ih
    have new : ObjOk X.prog X.w (upd H2 D (.lst ((byKey (keyAt keys) n).map fun (i : Nat) => V.int i))) h' D (.lst ((byKey (keyAt keys) n).map fun (i : Nat) => V.int i)) := ⟨hzl, out, c2, vals eo, hout⟩
    exact ⟨.ref D, _, I2.laidN (t' := tk) kp hD hn0 new, rfl, q H2 D e2 t2 l2 hn0⟩
end
end Lk
set_option maxHeartbeats 4000000
namespace Pt
open PySem PySem.Spec L2 LamX Lk
def wSortKey (ix : Nat) (w : WE) : WE := fun ρ R => w ρ fun d ρ1 => ∃ (n : Nat) (ds : List PyData) (keys : List Int), d = .fz (.int n) ∧ nth ρ1 ix = .fz (.tuple ds) ∧ asInts ds = some keys ∧ n ≤ keys.length ∧ n ≤ 2 ^ 20 ∧ R (.lf ((byKey (keyAt keys) n).map fun (i : Nat) => .int i)) ρ1
section
variable {K : PySem.W.Frag} {Z : Ent}
theorem sortKey_ok {P : Addr} {ix : Nat} {w : WE} {σ : L2.St} {H : Hp} {Q : VK} (hP : P ∈ Z.T) (h : tE K Z (wSortKey ix w) σ H Q) : tSortKey K P q0 ix (tE K Z w) σ H Q := by
  obtain ⟨B, ρ, fp, R, k, h, q⟩ := h
  refine ⟨B, ρ, fp, _, k, h, fun d ρ1 h1 v H1 B1 fp1 n1 k1 => ?_⟩
  obtain ⟨n, ds, keys, rfl, hx, hk, hnk, hn, hR⟩ := h1
  have r := k1.headF
  obtain ⟨f2, k2, hs⟩ := k1.drop1
  cases r
  refine ⟨n, rfl, fun r hr => ?_⟩
  obtain ⟨va, fa, e1, ra, _⟩ := k2.slot hx (fun z => nomatch z)
  cases ra with
  | fz ra =>
    cases ra with
    | @tup a vs _ hB rs =>
      have ek := asInts_rf rs hk
      subst ek
      have nr : ∀ b o, H1 b = some o → b ≠ r := fun b o e => ne_of_none e hr
      have x1 : ∀ b o, H1 b = some o → upd H1 r (.rng 0 n) b = some o := fun b o e => by rw [upd_ne (nr b o e)]; exact e
      have tb : ∀ P', TabS H1 P' q0 → TabS (upd H1 r (.rng 0 n)) P' q0 := fun P' t => t.ext x1
      refine ⟨r, n, a, keys, rfl, upd_same, hn, e1, ?_, hnk, tb _ (k2.nx.tabs _ (Z.tb P hP)), fun H2 D eN t2 l2 hD => ?_⟩
      · exact (k1.sub.sqT hB).extN (ExtN.of x1)
      have hk1 : ∀ b o, H1 b = some o → NT o → H2 b = some o := fun b o e nt => eN b o (x1 b o e) nt
      have nn : Nxt B1 H1 f2 B1 H2 f2 := ⟨Sub.refl B1, fun b o e _ nt => hk1 b o e nt, fun b e => .inl e, fun b hb => .inl hb, fun b e => by
        have z := l2 b e
        by_cases hb : b = r
        · rw [hb]; exact hr
        · rwa [upd_ne hb] at z, fun P' t => t2 P' (tb P' t), fun h => h⟩
      have ntB : NTB B1 := k1.nx.ntb Z.nt
      have k3 : Ok K Z B1 H2 σ ρ1 f2 := ⟨fun b o e => hk1 b o (k2.sub b o e) (ntB b o e), k2.un, k2.rs.next (Sub.refl B1) fun b _ o e nt => hk1 b o e nt, k2.nd, k2.out, k2.nx.trans nn⟩
      have o3 : Out K B1 H2 (.ref D) (.lf ((byKey (keyAt keys) n).map fun (i : Nat) => .int i)) B1 (upd H2 D (.lst ((byKey (keyAt keys) n).map fun (i : Nat) => V.int i))) := by
        have rr := rf_ints (K := K) (B := B1) ((byKey (keyAt keys) n).map fun (i : Nat) => (i : Int))
        rw [List.map_map, List.map_map] at rr
        exact Out.lst rr k3.sub hD
      obtain ⟨g, k4, n4⟩ := o3.ok k3
      exact q _ ρ1 hR _ _ _ g (((n1.less hs).trans nn).trans n4) k4
end
theorem e_sortKey {X : Cx} {Z : Ent} {c P : Addr} {params : Arguments} {scope : Scope} {xn iname : Str} {ea : Expr} {w : WE} {p p2 p3 p4 p5 p6 lpos pos k2 : Pos} {kr : Nat} (ix : Nat) (hgS : Gl X "sorted") (hmS : X.mg "sorted" = none) (hgR : Gl X "range") (hmR : X.mg "range" = none)
    (TB : TabB X.base X.mg c P) (hcode : X.env.code = .ref c) (hP : P ∈ Z.T) (hq : X.env.qual ++ "<lambda>" = q0) (L : LScope scope xn iname) (hdef : defaultsOf params X.env = ([], [])) (hr : Room kr X.A)
    (hbind : ∀ (q : Str) (cl : List (Str × Addr)) (pm cv ctv u : Value), bindArgs (PySem.W.kla_fn "<lambda>" q params (.Subscript (.Name xn p4) (.Name iname p5) p6) scope cl pm cv ctv) ⟨[u], []⟩ = pure [(iname, u)])
    (hN : X.N[ix]? = some xn) (hkind : X.env.scope.names.lookup xn = some .cell) (hs : ∀ o i, subscripted (.Name iname p5) false o i = operate [o, i] (getItem o i)) (ha : PE X ea (tE X.K Z w))
    (hd1 : (xn == ("__debug__" : Str)) = false := by decide) (hd2 : (iname == ("__debug__" : Str)) = false := by decide) (hd3 : (xn == ("__classdict__" : Str)) = false := by decide) (he1 : starEach [ea] X.env = [(false, eval ea X.env)] := by rfl) :
    PE X (.Call (.Name "sorted" p) [.Call (.Name "range" p2) [ea] [] p3] [⟨some "key", .Lambda params (.Subscript (.Name xn p4) (.Name iname p5) p6) scope lpos, k2⟩] pos) (tE X.K Z (wSortKey ix w)) :=
  pe_to (pe_sortKey hgS hmS hgR hmR ha TB hcode L hdef hr hbind hN hkind hd1 hd2 hd3 hs he1) fun σ H Q h => by
    rw [hq]
    exact sortKey_ok hP h
end Pt
namespace Pt
open PySem PySem.Spec L2 LamX
theorem head_mk {l : PySem.W.OpenLaw} {w : World} {K : PySem.W.Frag} {k : Nat} {io : List Nat} {mg : Str → Option Value} {fa : Addr} {h : Heap} {cs : List (Addr × Addr)} (fd : FuncData) (hb : ∀ (s : Shared) (u : Value), BindsTo s fd ⟨[u], []⟩ [("script", u)])
    (ht : ∀ p ∈ cs, h.get? p.2 = some tb0 ∧ K.lookup p.2 = none ∧ PySem.W.CodeHd h p.1 p.2)
    (F : ∀ base : Heap, (∀ p ∈ cs, TabB base mg p.1 p.2) → FnG l.prog w K mg base (L2N.CX l.prog w) k fa fd ["script"] (spD K (cs.map (·.2)) mg 1 io gLaw)) : HeadT l w K (L2N.CX l.prog w) k 63 "script" mg fa h :=
  ⟨fd, cs, _, fun p hp => (ht p hp).1, fun p hp => (ht p hp).2.1, fun p hp => (ht p hp).2.2, hb, fun H a ns hl _ hT hS => law_sp hl (fun P hP => by
    obtain ⟨p, hp, rfl⟩ := List.mem_map.mp hP
    exact hT p hp) hS, fun base _ _ TBs => F base TBs⟩
end Pt
namespace Pt
open PySem PySem.Spec L2
def gSubI (i : Nat) (wk : WE) : WG := fun d ρ R => isLst (nth ρ i) = true ∧ wk ρ fun kd ρ1 => (isLst (nth ρ1 i) || isDct (nth ρ1 i)) = true ∧ lmSet (nth ρ1 i) [d, kd] fun x' _ => R (ρ1.set i x')
section
variable {X : Cx} {Z : Ent} {own : List Nat} {k : Expr} {x : Str} {px p2 : Pos} {wk : WE}
end
end Pt
namespace Pt
open PySem PySem.Spec L2
def wMuD (i : Nat) (wk : WE) (ws : List WE) (lm : O → List O → (O → O → Prop) → Prop) : WE := fun ρ R => notHid (nth ρ i) (wk ρ fun kd ρ1 => ∃ xs key j y, nth ρ1 i = .od xs ∧ keyO kd = some key ∧ xs[j]? = some (key, y) ∧ (∀ i, i < j → ∀ e, xs[i]? = some e → e.1 ≠ key) ∧ isLst y = true ∧
  wADs (exs ws) (ρ1.set i .hid) fun ds ρ2 => nth ρ2 i = .hid ∧ lm y (fillA (exs ws) ds ρ2) fun y' z => R z (ρ2.set i (.od (xs.set j (key, y')))))
section
variable {X : Cx} {Z : Ent} {k : Expr} {name x : Str} {apos cpos pos p2 : Pos} {id : String} {wk : WE} {lm : O → List O → (O → O → Prop) → Prop} {r : V → List V → Hp → VK → Prop}
end
section
variable {ρ : En} {R : En → Prop} {T : O → En → Prop} {d : O} {i : Nat} {wk : WE} {ws : List WE} {lm : O → List O → (O → O → Prop) → Prop} {ix : Nat} {w : WE}
@[simp] theorem x_gSubI : gSubI i wk d ρ R = (isLst (nth ρ i) = true ∧ wk ρ fun kd ρ1 => (isLst (nth ρ1 i) || isDct (nth ρ1 i)) = true ∧ lmSet (nth ρ1 i) [d, kd] fun x' _ => R (ρ1.set i x')) := rfl
@[simp] theorem x_wMuDe : wMuD i wk ws lm ρ T = notHid (nth ρ i) (wk ρ fun kd ρ1 => ∃ xs key j y, nth ρ1 i = .od xs ∧ keyO kd = some key ∧ xs[j]? = some (key, y) ∧ (∀ i, i < j → ∀ e, xs[i]? = some e → e.1 ≠ key) ∧ isLst y = true ∧
  wADs (exs ws) (ρ1.set i .hid) fun ds ρ2 => nth ρ2 i = .hid ∧ lm y (fillA (exs ws) ds ρ2) fun y' z => T z (ρ2.set i (.od (xs.set j (key, y'))))) := rfl
@[simp] theorem x_sortKey : wSortKey ix w ρ T = w ρ fun d ρ1 => ∃ (n : Nat) (ds : List PyData) (keys : List Int), d = .fz (.int n) ∧ nth ρ1 ix = .fz (.tuple ds) ∧ asInts ds = some keys ∧ n ≤ keys.length ∧ n ≤ 2 ^ 20 ∧ T (.lf ((Lk.byKey (Lk.keyAt keys) n).map fun (i : Nat) => .int i)) ρ1 := rfl
end
end Pt
namespace Sh
open PySem PySem.Spec L2 Pt
def W_is_int : WS :=
  (sRet (wAndV (wRd [.ex (wV 0)] (oIsi "int")) (wNotV (wRd [.ex (wV 0)] (oIsi "bool")))))
def W_in_range (g_is_int : WF) : WS :=
  (sRet (wAndV (wCall [.ex (wV 0)] g_is_int) (wCh (wV 1) (wV 0) (wV 2) oLe oLe)))
def W_is_plant (g_in_range : WF) : WS :=
  (sSeq (sIf (wTor (wTnot (wTb (wRd [.ex (wV 0)] (oIsi "tuple")))) (wTb (wRd [.ex (wRd [.ex (wV 0)] oLen), .ex (wC (.int 40))] oGe)))
  (sRet (wC (.bool false)))
  sNext)
  (sRet (wRd [.ex (wLf (wLc (wiE (wV 0)) (gT 2 (gsC (gN 1) (gsC (gN 2) gsN))) wYes (wFz (wCall [.ex (wV 2), .ex (wC (.int 0)), .ex (wV 1)] g_in_range)) [1, 2]))] oAll)))
def W_require_plant (g_is_plant : WF) : WS :=
  (sIf (wTnot (wTb (wCall [.ex (wV 0)] g_is_plant)))
  sNever
  sNext)
def W_require_station (g_in_range : WF) : WS :=
  (sIf (wTnot (wTb (wCall [.ex (wV 1), .ex (wC (.int 0)), .ex (wRd [.ex (wV 0)] oLen)] g_in_range)))
  sNever
  sNext)
end Sh
namespace Sh
open PySem PySem.Spec L2 Pt
def isInt : PyData → Bool
  | .int _ => true
  | _ => false
def G_is_int : WF := fun ds R => ∃ d, ds = [.fz d] ∧ ∀ ρ, R (.fz (.bool (isInt d))) ρ
theorem sp_is_int : ∀ ds R, G_is_int ds R → gOf 1 1 W_is_int ds R := by
  rintro _ R ⟨d, rfl, h⟩
  refine ⟨rfl, ?_⟩
  cases d with
  | dict kvs => rcases dicT_or kvs with e | e <;> simp [W_is_int, tyO, e, isSub, isInt] at * <;> exact h _
  | _ => simp [W_is_int, tyO, isSub, isInt] at * <;> exact h _
def inRg (lo hi : Int) : PyData → Bool
  | .int v => decide (lo ≤ v) && decide (v ≤ hi)
  | _ => false
def G_in_range : WF := fun ds R => ∃ d lo hi, ds = [.fz d, .fz (.int lo), .fz (.int hi)] ∧ ∀ ρ, R (.fz (.bool (inRg lo hi d))) ρ
theorem sp_in_range : ∀ ds R, G_in_range ds R → gOf 3 3 (W_in_range G_is_int) ds R := by
  rintro _ R ⟨d, lo, hi, rfl, h⟩
  refine ⟨rfl, ?_⟩
  have hh := h [.fz d, .fz (.int lo), .fz (.int hi)]
  cases d <;> simp [W_in_range, G_is_int, isInt, inRg] at hh ⊢ <;> try exact hh
  rename_i v
  by_cases h1 : lo ≤ v <;> simp [h1] at hh ⊢ <;> exact hh
theorem isDic (d : PyData) : (∃ kvs, d = .dict kvs) ∨ ∀ kvs, d ≠ .dict kvs := by
  cases d with
  | dict kvs => exact .inl ⟨kvs, rfl⟩
  | _ => exact .inr fun kvs e => nomatch e
def plantB (ds : List PyData) : Bool := decide (ds.length < 40) && (ds.zipIdx.all fun p => inRg 0 p.2 p.1)
def plantD : PyData → Bool
  | .tuple ds => plantB ds
  | _ => false
def G_is_plant : WF := fun ds R => ∃ d, ds = [.fz d] ∧ ∀ ρ, R (.fz (.bool (plantD d))) ρ
theorem sp_is_plant : ∀ ds R, G_is_plant ds R → gOf 1 3 (W_is_plant G_in_range) ds R := by
  rintro _ R ⟨d, rfl, h⟩
  refine ⟨rfl, ?_⟩
  rcases isDic d with ⟨kvs, rfl⟩ | hnd
  · rcases dicT_or kvs with e | e <;> simp [W_is_plant, plantD, tyO, e, isSub] at h ⊢ <;> exact h _
  cases d <;> first | exact absurd rfl (hnd _) | skip
  all_goals simp [W_is_plant, plantD, tyO, isSub] at h ⊢ <;> try exact h _
  rename_i ds
  refine br_mk (fun h1 => ?_) (fun h1 => ?_)
  · have e : plantB ds = false := by simp [plantB] at h1 ⊢; omega
    rw [e] at h
    exact h _
  · have h1' : ds.length < 40 := by simp at h1; omega
    refine ⟨by unfold szMax; omega, ?_⟩
    refine lc_eq ((ds.zipIdx.map fun p => inRg 0 p.2 p.1).map PyData.bool) (fun ρ => ∃ x1 x2, ρ = [.fz (.tuple ds), x1, x2]) (by simp) (fun i d y e ey ρ ⟨x1, x2, hp⟩ K1 K0 k1 => ?_) ⟨_, _, rfl⟩ fun ρ ⟨x1, x2, hp⟩ => ?_
    · obtain ⟨x, ex, rfl⟩ := enumL_at e
      simp [List.getElem?_zipIdx, ex] at ey
      subst hp ey
      simp [G_in_range, and_assoc]
      exact k1 _ ⟨_, _, rfl⟩
    · subst hp
      have e : plantB ds = ds.zipIdx.all fun p => inRg 0 p.2 p.1 := by simp [plantB, h1']
      rw [e] at h
      rw [x_toLf2, x_oAll, List.all_map]
      exact h _
theorem inRg_nat {lo hi : Int} {n : Nat} (h1 : lo ≤ (n : Nat)) (h2 : (n : Nat) ≤ hi) : inRg lo hi (.int (n : Nat)) = true := by simp [inRg, h1, h2]
theorem plant_ok {p : List Nat} (h : PlantOk p) : plantD (tupN p) = true := by
  have h1 := h.1
  simp only [plantD, tupN, plantB, nI_len, h1, decide_true, Bool.true_and, List.all_eq_true]
  intro q hq
  obtain ⟨i, hi⟩ := List.getElem?_of_mem hq
  rw [List.getElem?_zipIdx] at hi
  cases e : p[i]? with
  | none => simp [e] at hi
  | some x =>
    simp [e] at hi
    subst hi
    have := h.2 i x e
    exact inRg_nat (by omega) (by simp; omega)
def G_require_plant : WF := fun ds R => ∃ p, ds = [.fz (tupN p)] ∧ PlantOk p ∧ ∀ ρ, R (.fz .none) ρ
theorem sp_require_plant : ∀ ds R, G_require_plant ds R → gOf 1 1 (W_require_plant G_is_plant) ds R := by
  rintro _ R ⟨p, rfl, hp, h⟩
  refine ⟨rfl, ?_⟩
  simp [W_require_plant, G_is_plant, plant_ok hp]
  exact h _
def G_require_station : WF := fun ds R => ∃ p s, ds = [.fz (tupN p), .fz (.int (s : Nat))] ∧ s ≤ p.length ∧ ∀ ρ, R (.fz .none) ρ
theorem sp_require_station : ∀ ds R, G_require_station ds R → gOf 2 2 (W_require_station G_in_range) ds R := by
  rintro _ R ⟨p, s, rfl, hs, h⟩
  refine ⟨rfl, ?_⟩
  simp [W_require_station, G_in_range, tupN, and_assoc]
  rw [inRg_nat (by omega) (by omega)]
  exact h _
def rows (p : List Nat) (i : Nat) : List O := (List.range (p.length + 1)).map fun s => .lf (nI (under p i s))
end Sh
namespace St
open PySem PySem.Spec L2 Pt Sh
def W_valid_stock (g_is_int : WF) : WS :=
  (sSeq (sIf (wTor (wTnot (wTb (wRd [.ex (wV 1)] (oIsi "tuple")))) (wTor (wTb (wRd [.ex (wRd [.ex (wV 1)] oLen), .ex (wRd [.ex (wRd [.ex (wV 0)] oLen), .ex (wC (.int 1))] oAdd)] (oEqA true))) (wTnot (wTb (wRd [.ex (wLf (wLc (wiS (wV 1)) (gN 2) wYes (wFz (wCall [.ex (wV 2)] g_is_int)) [2]))] oAll)))))
  (sRet (wC (.bool false)))
  sNext)
  (sRet (wRd [.ex (wLenSet (wV 1)), .ex (wRd [.ex (wV 1)] oLen)] (oEqA false))))
def W_require_stock (g_valid_stock : WF) : WS :=
  (sIf (wTnot (wTb (wCall [.ex (wV 0), .ex (wV 1)] g_valid_stock)))
  sNever
  sNext)
end St
namespace St
open PySem PySem.Spec L2 Pt Sh
def tupI (s : List Int) : PyData := .tuple (s.map PyData.int)
def stockD (n : Nat) : PyData → Bool
  | .tuple ds => match asInts ds with
    | some ns => decide (ns.length = n + 1) && decide ns.Nodup
    | none => false
  | _ => false
theorem asInts_all : ∀ {ds : List PyData}, ds.all isInt = true → ∃ ns : List Int, ds = ns.map PyData.int
  | [], _ => ⟨[], rfl⟩
  | d :: ds, h => by
    rw [List.all_cons, Bool.and_eq_true] at h
    obtain ⟨ns, rfl⟩ := asInts_all h.2
    cases d with
    | int i => exact ⟨i :: ns, rfl⟩
    | _ => cases h.1
theorem asInts_no : ∀ {ds : List PyData}, ds.all isInt = false → asInts ds = none
  | [], h => by cases h
  | d :: ds, h => by
    rw [List.all_cons] at h
    cases d with
    | int i =>
      have : asInts ds = none := asInts_no (by simpa [isInt] using h)
      simp [asInts, this]
    | _ => rfl
theorem asInts_len : ∀ {ds : List PyData} {ns : List Int}, asInts ds = some ns → ds = ns.map PyData.int
  | [], ns, h => by cases h; rfl
  | d :: ds, ns, h => by
    cases d with
    | int i =>
      simp only [asInts] at h
      cases q : asInts ds with
      | none => rw [q] at h; cases h
      | some ms =>
        rw [q] at h
        cases h
        rw [asInts_len q]
        rfl
    | _ => cases h
def G_valid_stock : WF := fun ds R => ∃ p d, ds = [.fz (tupN p), .fz d] ∧ p.length < 40 ∧ ∀ ρ, R (.fz (.bool (stockD p.length d))) ρ
theorem sp_valid_stock : ∀ ds R, G_valid_stock ds R → gOf 2 3 (W_valid_stock G_is_int) ds R := by
  rintro _ R ⟨p, d, rfl, hp, h⟩
  refine ⟨rfl, ?_⟩
  rcases isDic d with ⟨kvs, rfl⟩ | hnd
  · rcases dicT_or kvs with e | e <;> simp [W_valid_stock, stockD, tyO, e, isSub, tupN] at h ⊢ <;> exact h _
  cases d <;> first | exact absurd rfl (hnd _) | skip
  all_goals simp [W_valid_stock, stockD, tyO, isSub, tupN] at h ⊢ <;> try exact h _
  rename_i ds
  refine br_mk (fun h1 => ?_) (fun h1 => ?_)
  · have hl : ds.length ≠ p.length + 1 := by simp at h1; omega
    have e : (match asInts ds with | some ns => decide (ns.length = p.length + 1) && decide ns.Nodup | none => false) = false := by
      cases q : asInts ds with
      | none => rfl
      | some ns =>
        have := congrArg List.length (asInts_len q)
        simp at this
        have : ns.length ≠ p.length + 1 := by omega
        simp [this]
    rw [e] at h
    exact h _
  · have hl : ds.length = p.length + 1 := by simp at h1; omega
    refine ⟨by unfold szMax; omega, ?_⟩
    refine lc_eq (ds.map fun d => PyData.bool (isInt d)) (fun ρ => ∃ x, ρ = [.fz (.tuple (nI p)), .fz (.tuple ds), x]) (by simp) (fun i d y e ey ρ ⟨x, hx⟩ K1 K0 k1 => ?_) ⟨_, rfl⟩ fun ρ ⟨x, hx⟩ => ?_
    · subst hx
      rw [List.getElem?_map, e] at ey
      cases ey
      simp [G_is_int]
      exact k1 _ ⟨_, rfl⟩
    · subst hx
      rw [x_toLf2, show (ds.map fun d => PyData.bool (isInt d)) = (ds.map isInt).map PyData.bool by rw [List.map_map]; rfl, x_oAll, List.all_map]
      simp
      refine br_mk (fun h2 => ?_) (fun h2 => ?_)
      · have h2 : ds.all isInt = false := by simpa using h2
        rw [asInts_no h2] at h
        exact h _
      · have h2 : ds.all isInt = true := by simpa using h2
        obtain ⟨ns, rfl⟩ := asInts_all h2
        rw [asInts_map] at h
        simp at hl
        refine ⟨ns, rfl, by omega, ?_⟩
        simp
        have e : decide (((dedup ns).length : Int) = (ns.length : Int)) = (decide (ns.length = p.length + 1) && decide ns.Nodup) := by
          rw [show decide (ns.length = p.length + 1) = true from decide_eq_true hl, Bool.true_and]
          refine decide_eq_decide.mpr ⟨fun z => dedup_len.mp (by omega), fun z => by rw [dedup_len.mpr z]⟩
        rw [e]
        exact h _
def SOk (n b : Nat) (s : List Int) : Prop := s.length = n + 1 ∧ s.Nodup ∧ ∀ x ∈ s, x.natAbs < 2 ^ b
theorem SOk.mono {n b c : Nat} {s : List Int} (h : SOk n b s) (hb : b ≤ c) : SOk n c s := ⟨h.1, h.2.1, fun x hx => Nat.lt_of_lt_of_le (h.2.2 x hx) (Nat.pow_le_pow_right (by decide) hb)⟩
theorem stock_ok {n b : Nat} {s : List Int} (h : SOk n b s) : stockD n (tupI s) = true := by
  show (match asInts (s.map PyData.int) with | some ns => decide (ns.length = n + 1) && decide ns.Nodup | none => false) = true
  rw [asInts_map]
  simp [h.1, h.2.1]
def G_require_stock : WF := fun ds R => ∃ p s b, ds = [.fz (tupN p), .fz (tupI s)] ∧ p.length < 40 ∧ SOk p.length b s ∧ ∀ ρ, R (.fz .none) ρ
theorem sp_require_stock : ∀ ds R, G_require_stock ds R → gOf 2 2 (W_require_stock G_valid_stock) ds R := by
  rintro _ R ⟨p, s, b, rfl, hp, hs, h⟩
  refine ⟨rfl, ?_⟩
  simp [W_require_stock, G_valid_stock]
  refine ⟨p, _, ⟨rfl, rfl⟩, hp, ?_⟩
  rw [stock_ok hs]
  exact h _
end St
namespace Sw
open PySem PySem.Spec L2 Pt Sh St
def W_ranks : WS :=
  (sSeq (sStore 1 (wDf (wDc (wiE (wRd [.ex (wV 0)] (oSortD false))) (gT 2 (gsC (gN 2) (gsC (gN 3) gsN))) wYes (wV 3) (wV 2) [2, 3])))
  (sRet (wRd [.ex (wLf (wLc (wiS (wV 0)) (gN 3) wYes (wRd [.nm 1, .ex (wV 3)] oDGet) [3]))] oTuple)))
def W_wrong_stations : WS :=
  (sRet (wLf (wLc (wiE (wV 0)) (gT 2 (gsC (gN 2) (gsC (gN 3) gsN))) (wTb (wRd [.ex (wRd [.ex (wV 1), .ex (wRd [.ex (wV 2), .ex (wC (.int 1))] oAdd)] oIx), .ex (wRd [.ex (wV 1), .ex (wV 3)] oIx)] oLt)) (wFz (wRd [.ex (wV 2), .ex (wC (.int 1))] oAdd)) [2, 3])))
def W_require_ordered (g_wrong_stations : WF) : WS :=
  (sIf (wTb (wRd [.ex (wCall [.ex (wV 0), .ex (wV 1)] g_wrong_stations), .ex (wRd [] oLst)] (oEqA true)))
  sNever
  sNext)
def W_word_table : WS :=
  (sSeq (sStore 2 (wLc (wiS (wV 1)) (gN 3) wYes (wRd [] oLst) [3]))
  (sSeq (sFor (wiS (wSortKey 1 (wRd [.ex (wV 1)] oLen))) (gN 4)
  (sSeq (sStore 5 (wV 4))
  (sWhile (wTb (wRd [.ex (wV 5), .ex (wC (.int 0))] oGt))
  (sSeq (sStore 6 (wRd [.ex (wV 0), .ex (wRd [.ex (wV 5), .ex (wC (.int 1))] oSub)] oIx))
  (sSeq (sDrop (wMu2 2 (wV 6) [(wV 5)] lmAppend))
  (sStore 5 (wV 6)))))))
  (sRet (wM 2))))
end Sw
namespace Th
open Pt
def bx (s : List Int) (v : Nat) : Int := s.getD v 0
theorem bx_get {s : List Int} {v : Nat} (h : v < s.length) : s[v]? = some (bx s v) := by
  unfold bx
  rw [List.getD_eq_getElem?_getD, List.getElem?_eq_getElem h]
  rfl
theorem bx_set {s : List Int} {v w : Nat} {x : Int} (h : v < s.length) : bx (s.set v x) w = if v = w then x else bx s w := by
  unfold bx
  by_cases e : v = w
  · subst e
    rw [if_pos rfl, List.getD_eq_getElem?_getD, List.getElem?_set_self h]
    rfl
  · rw [if_neg e, List.getD_eq_getElem?_getD, List.getD_eq_getElem?_getD, List.getElem?_set_ne e]
def kids (p : List Nat) (v : Nat) : List Nat := under p p.length v
theorem mem_kids {p : List Nat} {v c : Nat} : c ∈ kids p v ↔ ∃ i, c = i + 1 ∧ p[i]? = some v := by
  unfold kids under
  rw [List.mem_map]
  constructor
  · rintro ⟨i, hi, rfl⟩
    rw [List.mem_filter] at hi
    exact ⟨i, rfl, by simpa using hi.2⟩
  · rintro ⟨i, rfl, e⟩
    exact ⟨i, List.mem_filter.mpr ⟨List.mem_range.mpr (List.getElem?_eq_some_iff.mp e).1, by simp [e]⟩, rfl⟩
theorem kids_gt {p : List Nat} (h : PlantOk p) {v c : Nat} (hc : c ∈ kids p v) : v < c ∧ c ≤ p.length := by
  obtain ⟨i, rfl, e⟩ := mem_kids.mp hc
  have := h.2 i v e
  have := (List.getElem?_eq_some_iff.mp e).1
  omega
theorem kids_nodup (p : List Nat) (v : Nat) : (kids p v).Nodup := by
  unfold kids under
  rw [List.nodup_iff_pairwise_ne, List.pairwise_map]
  exact (List.nodup_iff_pairwise_ne.mp (List.nodup_range.filter _)).imp fun h e => h (by simpa using e)
def best (s : List Int) : List Nat → Nat
  | [] => 0
  | k :: ks => ks.foldl (fun b o => if bx s o < bx s b then o else b) k
theorem foldl_best (s : List Int) : ∀ (ks : List Nat) (k : Nat), let b := ks.foldl (fun b o => if bx s o < bx s b then o else b) k; b ∈ k :: ks ∧ ∀ o ∈ k :: ks, bx s b ≤ bx s o
  | [], k => ⟨by simp, fun o ho => by simp at ho; rw [ho]; exact Int.le_refl _⟩
  | a :: ks, k => by
    obtain ⟨h1, h2⟩ := foldl_best s ks (if bx s a < bx s k then a else k)
    show (ks.foldl _ (if bx s a < bx s k then a else k)) ∈ _ ∧ _
    refine ⟨?_, fun o ho => ?_⟩
    · rcases List.mem_cons.mp h1 with e | e
      · rw [e]
        split <;> simp
      · exact List.mem_cons_of_mem _ (List.mem_cons_of_mem _ e)
    · have hk : bx s (if bx s a < bx s k then a else k) ≤ bx s k ∧ bx s (if bx s a < bx s k then a else k) ≤ bx s a := by
        split <;> omega
      have hm := h2 _ (List.mem_cons_self ..)
      show bx s (ks.foldl _ (if bx s a < bx s k then a else k)) ≤ bx s o
      rcases List.mem_cons.mp ho with rfl | ho
      · exact Int.le_trans hm hk.1
      · rcases List.mem_cons.mp ho with rfl | ho
        · exact Int.le_trans hm hk.2
        · exact h2 o (List.mem_cons_of_mem _ ho)
theorem best_mem {s : List Int} {ks : List Nat} (h : ks ≠ []) : best s ks ∈ ks := by
  cases ks with
  | nil => exact (h rfl).elim
  | cons k ks => exact (foldl_best s ks k).1
def Inj (n : Nat) (s : List Int) : Prop := s.length = n + 1 ∧ s.Nodup
theorem inj_eq {n : Nat} {s : List Int} (h : Inj n s) {v w : Nat} (hv : v ≤ n) (hw : w ≤ n) (e : bx s v = bx s w) : v = w := by
  have h1 := bx_get (s := s) (v := v) (by rw [h.1]; omega)
  have h2 := bx_get (s := s) (v := w) (by rw [h.1]; omega)
  rw [← e] at h2
  exact (List.getElem?_inj (by rw [h.1]; omega) h.2).mp (h1.trans h2.symm)
def chainF (p : List Nat) (s : List Int) : Nat → Nat → List Nat
  | 0, v => [v]
  | f + 1, v => v :: (if kids p v = [] then [] else chainF p s f (best s (kids p v)))
theorem kids_last {p : List Nat} (h : PlantOk p) {v : Nat} (hv : p.length ≤ v) : kids p v = [] := by
  cases e : kids p v with
  | nil => rfl
  | cons c r =>
    have := kids_gt h (v := v) (c := c) (by rw [e]; exact List.mem_cons_self ..)
    omega
theorem chainF_fuel {p : List Nat} (h : PlantOk p) (s : List Int) : ∀ (f g v : Nat), p.length ≤ v + f → p.length ≤ v + g → chainF p s f v = chainF p s g v
  | 0, 0, v, _, _ => rfl
  | 0, g + 1, v, hf, _ => by
    show [v] = v :: _
    rw [if_pos (kids_last h (by omega))]
  | f + 1, 0, v, _, hg => by
    show v :: _ = [v]
    rw [if_pos (kids_last h (by omega))]
  | f + 1, g + 1, v, hf, hg => by
    show v :: _ = v :: _
    by_cases e : kids p v = []
    · rw [if_pos e, if_pos e]
    · rw [if_neg e, if_neg e]
      have := kids_gt h (best_mem (s := s) e)
      rw [chainF_fuel h s f g _ (by omega) (by omega)]
def chain (p : List Nat) (s : List Int) (v : Nat) : List Nat := chainF p s p.length v
theorem chain_nil {p : List Nat} (h : PlantOk p) {s : List Int} {v : Nat} (e : kids p v = []) : chain p s v = [v] := by
  unfold chain
  cases p.length with
  | zero => rfl
  | succ n =>
    show v :: _ = [v]
    rw [if_pos e]
theorem chain_cons {p : List Nat} (h : PlantOk p) {s : List Int} {v : Nat} (e : kids p v ≠ []) : chain p s v = v :: chain p s (best s (kids p v)) := by
  unfold chain
  have hb := kids_gt h (best_mem (s := s) e)
  obtain ⟨n, hn⟩ : ∃ n, p.length = n + 1 := ⟨p.length - 1, by omega⟩
  rw [hn]
  show v :: _ = v :: _
  rw [if_neg e, chainF_fuel h s n (n + 1) _ (by omega) (by omega)]
theorem chain_head (p : List Nat) (s : List Int) (v : Nat) : ∃ r, chain p s v = v :: r := by
  unfold chain
  cases p.length with
  | zero => exact ⟨[], rfl⟩
  | succ n => exact ⟨_, rfl⟩
theorem chain_self (p : List Nat) (s : List Int) (v : Nat) : v ∈ chain p s v := by
  obtain ⟨r, e⟩ := chain_head p s v
  rw [e]
  exact List.mem_cons_self ..
theorem chain_ind {p : List Nat} (h : PlantOk p) (s : List Int) (P : Nat → Prop) (h0 : ∀ v, v ≤ p.length → kids p v = [] → P v) (h1 : ∀ v, v ≤ p.length → kids p v ≠ [] → P (best s (kids p v)) → P v) : ∀ v, v ≤ p.length → P v := by
  have go : ∀ k v, v ≤ p.length → p.length - v ≤ k → P v := by
    intro k
    induction k with
    | zero => exact fun v hv hk => h0 v hv (kids_last h (by omega))
    | succ k ih =>
      intro v hv hk
      by_cases e : kids p v = []
      · exact h0 v hv e
      · have := kids_gt h (best_mem (s := s) e)
        exact h1 v hv e (ih _ this.2 (by omega))
  exact fun v hv => go _ v hv (Nat.le_refl _)
theorem chain_ge {p : List Nat} (h : PlantOk p) (s : List Int) : ∀ v, v ≤ p.length → ∀ w ∈ chain p s v, v ≤ w ∧ w ≤ p.length := by
  refine chain_ind h s _ (fun v hv e w hw => ?_) (fun v hv e ih w hw => ?_)
  · rw [chain_nil h e] at hw
    simp at hw
    omega
  · rw [chain_cons h e] at hw
    have := kids_gt h (best_mem (s := s) e)
    rcases List.mem_cons.mp hw with rfl | hw
    · omega
    · have := ih w hw
      omega
def moves (s : List Int) (m : Int) : List Nat → List Int → List Int
  | [], l => l
  | [a], l => l.set a m
  | a :: b :: r, l => moves s m (b :: r) (l.set a (bx s b))
def mx : List Int → Int
  | [] => 0
  | a :: l => l.foldl max a
theorem mx_le {s : List Int} {x : Int} (h : x ∈ s) : x ≤ mx s := by
  cases s with
  | nil => cases h
  | cons a l => exact (foldl_max l a).2 x h
theorem mx_mem {s : List Int} (h : s ≠ []) : mx s ∈ s := by
  cases s with
  | nil => exact (h rfl).elim
  | cons a l => exact (foldl_max l a).1
theorem mx_eq {s : List Int} {m : Int} (h : m ∈ s) (h2 : ∀ y ∈ s, y ≤ m) : mx s = m := Int.le_antisymm (h2 _ (mx_mem fun e => by rw [e] at h; cases h)) (mx_le h)
def nxt (p : List Nat) (s : List Int) (v : Nat) : List Int := moves s (mx s + 1) (chain p s v) s
theorem moves_len (s : List Int) (m : Int) : ∀ (ch : List Nat) (l : List Int), (moves s m ch l).length = l.length
  | [], l => rfl
  | [a], l => List.length_set ..
  | a :: b :: r, l => by
    show (moves s m (b :: r) (l.set a (bx s b))).length = _
    rw [moves_len s m (b :: r), List.length_set]
theorem moves_other (s : List Int) (m : Int) : ∀ (ch : List Nat) (l : List Int) (w : Nat), w ∉ ch → (moves s m ch l)[w]? = l[w]?
  | [], l, w, _ => rfl
  | [a], l, w, h => by
    show (l.set a m)[w]? = _
    rw [List.getElem?_set_ne (fun e => h (by simp [e]))]
  | a :: b :: r, l, w, h => by
    show (moves s m (b :: r) (l.set a (bx s b)))[w]? = _
    rw [moves_other s m (b :: r) _ w (fun z => h (List.mem_cons_of_mem _ z)), List.getElem?_set_ne (fun e => h (by simp [e]))]
theorem nxt_len (p : List Nat) (s : List Int) (v : Nat) : (nxt p s v).length = s.length := moves_len _ _ _ _
theorem nxt_other {p : List Nat} {s : List Int} {v w : Nat} (h : w ∉ chain p s v) : bx (nxt p s v) w = bx s w := by
  unfold bx nxt
  rw [List.getD_eq_getElem?_getD, List.getD_eq_getElem?_getD, moves_other _ _ _ _ _ h]
theorem moves_at {p : List Nat} (h : PlantOk p) (s : List Int) (m : Int) : ∀ v, v ≤ p.length → ∀ l : List Int, l.length = p.length + 1 → ∀ w ∈ chain p s v, bx (moves s m (chain p s v) l) w = if kids p w = [] then m else bx s (best s (kids p w)) := by
  refine chain_ind h s _ (fun v hv e l hl w hw => ?_) (fun v hv e ih l hl w hw => ?_)
  · rw [chain_nil h e] at hw ⊢
    simp at hw
    subst hw
    rw [if_pos e]
    show bx (l.set w m) w = m
    rw [bx_set (by omega), if_pos rfl]
  · have hc := chain_cons h (s := s) e
    obtain ⟨r, er⟩ := chain_head p s (best s (kids p v))
    have em : moves s m (chain p s v) l = moves s m (chain p s (best s (kids p v))) (l.set v (bx s (best s (kids p v)))) := by
      rw [hc, er]
      rfl
    rw [em]
    have hb := kids_gt h (best_mem (s := s) e)
    rw [hc] at hw
    rcases List.mem_cons.mp hw with rfl | hw
    · rw [if_neg e]
      have hn : w ∉ chain p s (best s (kids p w)) := fun z => by have := chain_ge h s _ hb.2 w z; omega
      unfold bx
      rw [List.getD_eq_getElem?_getD, moves_other _ _ _ _ _ hn, List.getElem?_set_self (by omega)]
      rfl
    · exact ih _ (by simpa using hl) w hw
theorem nxt_at {p : List Nat} (h : PlantOk p) {s : List Int} (hl : s.length = p.length + 1) {v w : Nat} (hv : v ≤ p.length) (hw : w ∈ chain p s v) : bx (nxt p s v) w = if kids p w = [] then mx s + 1 else bx s (best s (kids p w)) := moves_at h s _ v hv s hl w hw
end Th
namespace Th
open Pt
section
variable {p : List Nat}
theorem way_kid (h : PlantOk p) {v c : Nat} (hc : c ∈ kids p v) : way p c = c :: way p v := by
  obtain ⟨i, rfl, e⟩ := mem_kids.mp hc
  exact way_succ h e
theorem way_ind (h : PlantOk p) (P : Nat → Prop) (h0 : P 0) (h1 : ∀ v c, c ∈ kids p v → P v → P c) : ∀ w, w ≤ p.length → P w := by
  intro w
  induction w using Nat.strongRecOn with
  | ind w ih =>
    intro hw
    cases w with
    | zero => exact h0
    | succ k =>
      have e : p[k]? = some p[k] := List.getElem?_eq_getElem (by omega)
      have := h.2 k _ e
      exact h1 p[k] (k + 1) (mem_kids.mpr ⟨k, rfl, e⟩) (ih _ (by omega) (by omega))
theorem kid_up (h : PlantOk p) {x y : Nat} (hy : y ∈ kids p x) : ∀ w, w ≤ p.length → y ∈ way p w → x ∈ way p w := by
  have hy2 := kids_gt h hy
  refine way_ind h _ (fun hw => ?_) (fun v c hc ih hw => ?_)
  · rw [way_zero] at hw
    simp at hw
    omega
  · rw [way_kid h hc] at hw ⊢
    rcases List.mem_cons.mp hw with e | hw
    · subst e
      obtain ⟨i, e1, e2⟩ := mem_kids.mp hy
      obtain ⟨j, e3, e4⟩ := mem_kids.mp hc
      have : i = j := by omega
      subst this
      rw [e2] at e4
      cases e4
      exact List.mem_cons_of_mem _ (way_self h (by omega))
    · exact List.mem_cons_of_mem _ (ih hw)
theorem kid_one (h : PlantOk p) {c y z : Nat} (hy : y ∈ kids p c) (hz : z ∈ kids p c) : ∀ w, w ≤ p.length → y ∈ way p w → z ∈ way p w → y = z := by
  have hy2 := kids_gt h hy
  have hz2 := kids_gt h hz
  refine way_ind h _ (fun a b => ?_) (fun v k hk ih a b => ?_)
  · rw [way_zero] at a
    simp at a
    omega
  · rw [way_kid h hk] at a b
    have hkv := kids_gt h hk
    have par : ∀ q, q ∈ kids p c → q = k → v = c := fun q hq e => by
      subst e
      obtain ⟨i, e1, e2⟩ := mem_kids.mp hq
      obtain ⟨j, e3, e4⟩ := mem_kids.mp hk
      have : i = j := by omega
      subst this
      rw [e2] at e4
      cases e4
      rfl
    rcases List.mem_cons.mp a with e | a
    · rcases List.mem_cons.mp b with e2 | b
      · exact e.trans e2.symm
      · have := par y hy e
        subst this
        have := way_le h _ _ b
        omega
    · rcases List.mem_cons.mp b with e2 | b
      · have := par z hz e2
        subst this
        have := way_le h _ _ a
        omega
      · exact ih a b
theorem chain_next (h : PlantOk p) (s : List Int) {c : Nat} (e : kids p c ≠ []) : ∀ v, v ≤ p.length → c ∈ chain p s v → best s (kids p c) ∈ chain p s v := by
  refine chain_ind h s _ (fun v hv e2 hw => ?_) (fun v hv e2 ih hw => ?_)
  · rw [chain_nil h e2] at hw
    simp at hw
    subst hw
    exact (e e2).elim
  · rw [chain_cons h e2] at hw ⊢
    rcases List.mem_cons.mp hw with rfl | hw
    · exact List.mem_cons_of_mem _ (chain_self p s _)
    · exact List.mem_cons_of_mem _ (ih hw)
theorem chain_split (h : PlantOk p) (s : List Int) {c w : Nat} (hcw : c ≤ w) : ∀ v, v ≤ p.length → c ∈ chain p s v → w ∈ chain p s v → w ∈ chain p s c := by
  refine chain_ind h s _ (fun v hv e hc hw => ?_) (fun v hv e ih hc hw => ?_)
  · rw [chain_nil h e] at hc hw
    simp at hc hw
    subst hc hw
    exact chain_self p s _
  · have hw0 := hw
    rw [chain_cons h e] at hc hw
    have hb := kids_gt h (best_mem (s := s) e)
    rcases List.mem_cons.mp hc with rfl | hc
    · exact hw0
    · rcases List.mem_cons.mp hw with rfl | hw
      · have := chain_ge h s _ hb.2 c hc
        omega
      · exact ih hc hw
variable {s : List Int}
theorem nxt_mem (h : PlantOk p) (hs : Inj p.length s) {x : Int} (hx : x ∈ nxt p s 0) : x ∈ s ∨ x = mx s + 1 := by
  obtain ⟨w, hw⟩ := List.getElem?_of_mem hx
  have hwl := (List.getElem?_eq_some_iff.mp hw).1
  rw [nxt_len] at hwl
  have e : x = bx (nxt p s 0) w := by
    rw [bx_get (by rw [nxt_len]; exact hwl)] at hw
    exact (Option.some.inj hw).symm
  by_cases hc : w ∈ chain p s 0
  · rw [nxt_at h hs.1 (by omega) hc] at e
    split at e
    · exact .inr e
    · rename_i hk
      have := kids_gt h (best_mem (s := s) hk)
      exact .inl (e ▸ List.mem_of_getElem? (bx_get (by rw [hs.1]; omega)))
  · rw [nxt_other hc] at e
    exact .inl (e ▸ List.mem_of_getElem? (bx_get hwl))
theorem bx_mem (hs : Inj p.length s) {v : Nat} (hv : v ≤ p.length) : bx s v ∈ s := List.mem_of_getElem? (bx_get (by rw [hs.1]; omega))
theorem par_eq {v w c : Nat} (h1 : c ∈ kids p v) (h2 : c ∈ kids p w) : v = w := by
  obtain ⟨i, e1, e2⟩ := mem_kids.mp h1
  obtain ⟨j, e3, e4⟩ := mem_kids.mp h2
  have : i = j := by omega
  subst this
  rw [e2] at e4
  exact Option.some.inj e4
theorem nxt_inj (h : PlantOk p) (hs : Inj p.length s) : Inj p.length (nxt p s 0) := by
  refine ⟨by rw [nxt_len]; exact hs.1, ?_⟩
  have key : ∀ v w, v ≤ p.length → w ≤ p.length → bx (nxt p s 0) v = bx (nxt p s 0) w → v = w := by
    intro v w hv hw e
    have top : ∀ u, u ≤ p.length → bx s u ≤ mx s := fun u hu => mx_le (bx_mem hs hu)
    by_cases a : v ∈ chain p s 0
    · rw [nxt_at h hs.1 (by omega) a] at e
      by_cases b : w ∈ chain p s 0
      · rw [nxt_at h hs.1 (by omega) b] at e
        by_cases ka : kids p v = []
        · rw [if_pos ka] at e
          by_cases kb : kids p w = []
          · rcases Nat.le_total v w with z | z
            · have := chain_split h s z 0 (by omega) a b
              rw [chain_nil h ka] at this
              simp at this
              exact this.symm
            · have := chain_split h s z 0 (by omega) b a
              rw [chain_nil h kb] at this
              simpa using this
          · rw [if_neg kb] at e
            have := top _ (kids_gt h (best_mem (s := s) kb)).2
            omega
        · rw [if_neg ka] at e
          have h1 := best_mem (s := s) ka
          by_cases kb : kids p w = []
          · rw [if_pos kb] at e
            have := top _ (kids_gt h h1).2
            omega
          · rw [if_neg kb] at e
            have h2 := best_mem (s := s) kb
            have := inj_eq hs (kids_gt h h1).2 (kids_gt h h2).2 e
            rw [this] at h1
            exact par_eq h1 h2
      · rw [nxt_other b] at e
        by_cases ka : kids p v = []
        · rw [if_pos ka] at e
          have := top _ hw
          omega
        · rw [if_neg ka] at e
          have h1 := best_mem (s := s) ka
          have := inj_eq hs (kids_gt h h1).2 hw e
          exact (b (this ▸ chain_next h s ka 0 (by omega) a)).elim
    · rw [nxt_other a] at e
      by_cases b : w ∈ chain p s 0
      · rw [nxt_at h hs.1 (by omega) b] at e
        by_cases kb : kids p w = []
        · rw [if_pos kb] at e
          have := top _ hv
          omega
        · rw [if_neg kb] at e
          have h2 := best_mem (s := s) kb
          have := inj_eq hs hv (kids_gt h h2).2 e
          exact (a (this ▸ chain_next h s kb 0 (by omega) b)).elim
      · rw [nxt_other b] at e
        exact inj_eq hs hv hw e
  rw [List.nodup_iff_pairwise_ne, List.pairwise_iff_getElem]
  intro i j hi hj hij e
  have hl := nxt_len p s 0
  have hs1 := hs.1
  have e1 := bx_get hi
  have e2 := bx_get hj
  rw [List.getElem?_eq_getElem hi] at e1
  rw [List.getElem?_eq_getElem hj, ← e] at e2
  have := key i j (by omega) (by omega) (Option.some.inj (e1.symm.trans e2))
  omega
theorem last_in (h : PlantOk p) (s : List Int) : ∀ v, v ≤ p.length → ∃ w ∈ chain p s v, kids p w = [] := by
  refine chain_ind h s _ (fun v hv e => ⟨v, chain_self p s v, e⟩) (fun v hv e ih => ?_)
  obtain ⟨w, hw, k⟩ := ih
  exact ⟨w, by rw [chain_cons h e]; exact List.mem_cons_of_mem _ hw, k⟩
theorem nxt_mx (h : PlantOk p) (hs : Inj p.length s) : mx (nxt p s 0) = mx s + 1 := by
  obtain ⟨w, hw, hk⟩ := last_in h s 0 (by omega)
  have hwl := (chain_ge h s 0 (by omega) w hw).2
  refine mx_eq ?_ fun y hy => ?_
  · have := bx_mem (nxt_inj h hs) hwl
    rwa [nxt_at h hs.1 (by omega) hw, if_pos hk] at this
  · rcases nxt_mem h hs hy with z | z
    · have := mx_le z
      omega
    · omega
def dayN (p : List Nat) (s : List Int) : Nat → List Int
  | 0 => s
  | t + 1 => nxt p (dayN p s t) 0
theorem dayN_inj (h : PlantOk p) (hs : Inj p.length s) : ∀ t, Inj p.length (dayN p s t)
  | 0 => hs
  | t + 1 => nxt_inj h (dayN_inj h hs t)
theorem dayN_mx (h : PlantOk p) (hs : Inj p.length s) : ∀ t, mx (dayN p s t) = mx s + t
  | 0 => by simp [dayN]
  | t + 1 => by
    show mx (nxt p _ 0) = _
    rw [nxt_mx h (dayN_inj h hs t), dayN_mx h hs t]
    omega
def Off (p : List Nat) (s : List Int) (x : Nat) : Prop := ∀ w ∈ chain p s 0, x ∉ way p w
theorem Off.kid (h : PlantOk p) {x y : Nat} (ho : Off p s x) (hy : y ∈ kids p x) : Off p s y := fun w hw z => ho w hw (kid_up h hy w (chain_ge h s 0 (by omega) w hw).2 z)
theorem Off.same (h : PlantOk p) {x : Nat} (hx : x ≤ p.length) (ho : Off p s x) : bx (nxt p s 0) x = bx s x := nxt_other fun z => ho x z (way_self h hx)
end
end Th
namespace Th
open Pt
section
variable {p : List Nat} {s : List Int}
def und (p : List Nat) (R : List Nat) (t : Nat) : Bool := R.any fun r => (way p t).contains r
theorem und_iff {R : List Nat} {t : Nat} : und p R t = true ↔ ∃ r ∈ R, r ∈ way p t := by
  unfold und
  simp
def tot (p : List Nat) (R : List Nat) : Nat := (List.range (p.length + 1)).countP (und p R)
structure AC (p : List Nat) (R : List Nat) : Prop where
  ac : ∀ r ∈ R, ∀ q ∈ R, r ∈ way p q → r = q
  nd : R.Nodup
  le : ∀ r ∈ R, r ≤ p.length
theorem below_kid (h : PlantOk p) {b : Nat} (hb : b ≤ p.length) : ∀ t, t ≤ p.length → b ∈ way p t → t = b ∨ ∃ c ∈ kids p b, c ∈ way p t := by
  refine way_ind h _ (fun x => ?_) (fun v k hk ih x => ?_)
  · rw [way_zero] at x
    simp at x
    exact .inl x.symm
  · rw [way_kid h hk] at x
    rcases List.mem_cons.mp x with e | x
    · exact .inl e.symm
    · rcases ih x with e | ⟨c, hc, z⟩
      · subst e
        exact .inr ⟨k, hk, way_self h (kids_gt h hk).2⟩
      · refine .inr ⟨c, hc, ?_⟩
        rw [way_kid h hk]
        exact List.mem_cons_of_mem _ z
theorem AC.pop (h : PlantOk p) {R : List Nat} (a : AC p R) {b : Nat} (hb : b ∈ R) : AC p (R.erase b ++ kids p b) := by
  have hbn := a.le b hb
  have hr : ∀ r ∈ R.erase b, r ∈ R ∧ r ≠ b := fun r hr => ⟨List.mem_of_mem_erase hr, fun e => by
    subst e
    exact (a.nd.not_mem_erase) hr⟩
  have x1 : ∀ r ∈ R, r ≠ b → ∀ c ∈ kids p b, c ∉ way p r := fun r hr hne c hc w => hne (a.ac b hb r hr (kid_up h hc r (a.le r hr) w)).symm
  have x2 : ∀ r ∈ R, r ≠ b → ∀ c ∈ kids p b, r ∉ way p c := fun r hr hne c hc w => by
    rw [way_kid h hc] at w
    rcases List.mem_cons.mp w with e | w
    · subst e
      exact x1 r hr hne r hc (way_self h (a.le r hr))
    · exact hne (a.ac r hr b hb w)
  refine ⟨fun r hr' q hq w => ?_, ?_, fun r hr' => ?_⟩
  · rcases List.mem_append.mp hr' with z | z
    · obtain ⟨z1, z2⟩ := hr r z
      rcases List.mem_append.mp hq with y | y
      · exact a.ac r z1 q (hr q y).1 w
      · exact (x2 r z1 z2 q y w).elim
    · rcases List.mem_append.mp hq with y | y
      · exact (x1 q (hr q y).1 (hr q y).2 r z w).elim
      · rw [way_kid h y] at w
        rcases List.mem_cons.mp w with e | w
        · exact e
        · have := way_le h _ _ w
          have := kids_gt h z
          omega
  · refine List.nodup_append.mpr ⟨a.nd.erase b, kids_nodup p b, fun r z c y e => ?_⟩
    subst e
    exact x1 r (hr r z).1 (hr r z).2 r y (way_self h (a.le r (hr r z).1))
  · rcases List.mem_append.mp hr' with z | z
    · exact a.le r (hr r z).1
    · exact (kids_gt h z).2
theorem und_pop (h : PlantOk p) {R : List Nat} (a : AC p R) {b : Nat} (hb : b ∈ R) : (und p (R.erase b ++ kids p b) b = false) ∧ ∀ t, t ≤ p.length → t ≠ b → und p (R.erase b ++ kids p b) t = und p R t := by
  have hbn := a.le b hb
  constructor
  · rw [Bool.eq_false_iff]
    intro z
    obtain ⟨r, hr, w⟩ := und_iff.mp z
    rcases List.mem_append.mp hr with z | z
    · have e := a.ac r (List.mem_of_mem_erase z) b hb w
      subst e
      exact a.nd.not_mem_erase z
    · have := way_le h _ _ w
      have := kids_gt h z
      omega
  · intro t ht hne
    rw [Bool.eq_iff_iff, und_iff, und_iff]
    constructor
    · rintro ⟨r, hr, w⟩
      rcases List.mem_append.mp hr with z | z
      · exact ⟨r, List.mem_of_mem_erase z, w⟩
      · exact ⟨b, hb, kid_up h z t ht w⟩
    · rintro ⟨r, hr, w⟩
      by_cases e : r = b
      · subst e
        rcases below_kid h hbn t ht w with z | ⟨c, hc, z⟩
        · exact (hne z).elim
        · exact ⟨c, List.mem_append_right _ hc, z⟩
      · exact ⟨r, List.mem_append_left _ ((List.mem_erase_of_ne e).mpr hr), w⟩
theorem count_one {f g : Nat → Bool} {b : Nat} : ∀ (l : List Nat), l.Nodup → b ∈ l → g b = true → f b = false → (∀ t ∈ l, t ≠ b → f t = g t) → l.countP g = l.countP f + 1
  | [], _, hb, _, _, _ => by cases hb
  | a :: l, hn, hb, hg, hf, he => by
    obtain ⟨n1, n2⟩ := List.nodup_cons.mp hn
    by_cases e : a = b
    · subst e
      rw [List.countP_cons_of_pos (by simpa using hg), List.countP_cons_of_neg (by simpa using hf)]
      congr 1
      exact List.countP_congr fun t ht => by rw [he t (List.mem_cons_of_mem _ ht) fun z => n1 (z ▸ ht)]
    · have hb2 : b ∈ l := by
        rcases List.mem_cons.mp hb with z | z
        · exact (e z.symm).elim
        · exact z
      have ih := count_one l n2 hb2 hg hf fun t ht => he t (List.mem_cons_of_mem _ ht)
      have ea := he a (List.mem_cons_self ..) e
      rw [List.countP_cons, List.countP_cons, ih, ea]
      omega
theorem tot_pop (h : PlantOk p) {R : List Nat} (a : AC p R) {b : Nat} (hb : b ∈ R) : tot p R = tot p (R.erase b ++ kids p b) + 1 := by
  obtain ⟨u1, u2⟩ := und_pop h a hb
  exact count_one _ List.nodup_range (List.mem_range.mpr (by have := a.le b hb; omega)) (und_iff.mpr ⟨b, hb, way_self h (a.le b hb)⟩) u1 fun t ht hne => u2 t (by have := List.mem_range.mp ht; omega) hne
theorem way_top (h : PlantOk p) : ∀ t, t ≤ p.length → 0 ∈ way p t := way_ind h _ (by rw [way_zero]; simp) fun v c hc ih => by rw [way_kid h hc]; exact List.mem_cons_of_mem _ ih
theorem ac_top (p : List Nat) : AC p [0] := ⟨fun r hr q hq _ => by simp at hr hq; omega, by simp, fun r hr => by simp at hr; omega⟩
theorem tot_top (h : PlantOk p) : tot p [0] = p.length + 1 := by
  unfold tot
  rw [List.countP_eq_length.mpr fun t ht => und_iff.mpr ⟨0, by simp, way_top h t (by have := List.mem_range.mp ht; omega)⟩, List.length_range]
theorem tot_nil (p : List Nat) : tot p [] = 0 := List.countP_eq_zero.mpr fun t _ => by simp [und]
end
end Th
namespace Th
open Pt
variable {p : List Nat} {s : List Int}
theorem chain_up (h : PlantOk p) (s : List Int) : ∀ v, v ≤ p.length → ∀ k ∈ chain p s v, ∀ w, k ∈ kids p w → k ≠ v → w ∈ chain p s v ∧ best s (kids p w) = k :=
  chain_ind h s (fun v => ∀ k ∈ chain p s v, ∀ w, k ∈ kids p w → k ≠ v → w ∈ chain p s v ∧ best s (kids p w) = k) (fun v hv e k hk w hw hne => by
    rw [chain_nil h e] at hk
    exact (hne (List.mem_singleton.mp hk)).elim) fun v hv e ih k hk w hw hne => by
    rw [chain_cons h e] at hk ⊢
    rcases List.mem_cons.mp hk with rfl | hk
    · exact (hne rfl).elim
    · by_cases hb : k = best s (kids p v)
      · subst hb
        have := par_eq hw (best_mem (s := s) e)
        subst this
        exact ⟨List.mem_cons_self .., rfl⟩
      · obtain ⟨a, b⟩ := ih k hk w hw hb
        exact ⟨List.mem_cons_of_mem _ a, b⟩
theorem gone (h : PlantOk p) (hs : Inj p.length s) {t : Nat} {x : Int} (hx : x ≤ mx s) (hn : x ∉ dayN p s t) : ∀ k, x ∉ dayN p s (t + k)
  | 0 => hn
  | k + 1 => fun z => by
    have hi := dayN_inj h hs (t + k)
    rcases nxt_mem h hi (show x ∈ nxt p (dayN p s (t + k)) 0 from z) with q | q
    · exact gone h hs hx hn k q
    · rw [dayN_mx h hs] at q
      omega
end Th
namespace Th
open Pt
variable {p : List Nat} {s : List Int}
def Ord (p : List Nat) (s : List Int) : Prop := ∀ v c, c ∈ kids p v → bx s v < bx s c
theorem ord_below (h : PlantOk p) (ho : Ord p s) {c : Nat} : ∀ w, w ≤ p.length → c ∈ way p w → bx s c ≤ bx s w := way_ind h _ (fun hc => by
  rw [way_zero] at hc
  rw [List.mem_singleton.mp hc]
  exact Int.le_refl _) fun v k hk ih hc => by
  rw [way_kid h hk] at hc
  rcases List.mem_cons.mp hc with rfl | hc
  · exact Int.le_refl _
  · have := ih hc
    have := ho v k hk
    omega
theorem ord_min (h : PlantOk p) (ho : Ord p s) {w : Nat} (hw : w ≤ p.length) : bx s 0 ≤ bx s w := ord_below h ho w hw (way_top h w hw)
def par (p : List Nat) (w : Nat) : Nat := p[w - 1]?.getD 0
theorem kid_par (h : PlantOk p) {w : Nat} (h0 : w ≠ 0) (hw : w ≤ p.length) : w ∈ kids p (par p w) := by
  refine mem_kids.mpr ⟨w - 1, by omega, ?_⟩
  unfold par
  rw [List.getElem?_eq_getElem (by omega)]
  rfl
def moveS (p : List Nat) (s : List Int) (w : Nat) : Nat := if w ∈ chain p s 0 then par p w else w
theorem bx_move (h : PlantOk p) (hs : Inj p.length s) {w : Nat} (h0 : w ≠ 0) (hw : w ≤ p.length) : bx (nxt p s 0) (moveS p s w) = bx s w := by
  unfold moveS
  split
  · rename_i hc
    have hk := kid_par h h0 hw
    obtain ⟨a, b⟩ := chain_up h s 0 (by omega) w hc _ hk h0
    rw [nxt_at h hs.1 (by omega) a, if_neg (fun e => by rw [e] at hk; cases hk), b]
  · rename_i hc
    exact nxt_other hc
theorem move_le (h : PlantOk p) {w : Nat} (h0 : w ≠ 0) (hw : w ≤ p.length) : moveS p s w ≤ p.length := by
  unfold moveS
  split
  · have := kids_gt h (kid_par h h0 hw)
    omega
  · exact hw
theorem nat_sub_perm : ∀ {l r : List Nat}, l.Nodup → (∀ x ∈ l, x ∈ r) → r.length ≤ l.length → l.Perm r
  | [], r, _, _, hl => by
    have : r = [] := List.eq_nil_of_length_eq_zero (by simpa using hl)
    rw [this]
  | a :: l, r, hn, hm, hl => by
    obtain ⟨n1, n2⟩ := List.nodup_cons.mp hn
    have ha := hm a (List.mem_cons_self ..)
    have := List.perm_cons_erase ha
    refine List.Perm.trans (List.Perm.cons a (nat_sub_perm n2 (fun x hx => ?_) ?_)) this.symm
    · exact (List.mem_erase_of_ne (fun e => n1 (by rw [← e]; exact hx))).mpr (hm x (List.mem_cons_of_mem _ hx))
    · rw [List.length_erase_of_mem ha]
      simp at hl
      omega
def IsOrd (p : List Nat) (s : List Int) (l : List Nat) : Prop := l.Perm (List.range (p.length + 1)) ∧ l.Pairwise fun a b => bx s a < bx s b
theorem IsOrd.le {l : List Nat} (h : IsOrd p s l) {x : Nat} (hx : x ∈ l) : x ≤ p.length := by
  have := List.mem_range.mp (h.1.mem_iff.mp hx)
  omega
theorem IsOrd.nodup {l : List Nat} (h : IsOrd p s l) : l.Nodup := h.1.nodup_iff.mpr List.nodup_range
theorem IsOrd.head (h : PlantOk p) (ho : Ord p s) {l : List Nat} (hl : IsOrd p s l) : ∃ t, l = 0 :: t := by
  have h0 : 0 ∈ l := hl.1.mem_iff.mpr (List.mem_range.mpr (by omega))
  cases l with
  | nil => cases h0
  | cons a t =>
    rcases List.mem_cons.mp h0 with e | e
    · exact ⟨t, by rw [e]⟩
    · have h1 := (List.pairwise_cons.mp hl.2).1 0 e
      have h2 := ord_min h ho (hl.le (List.mem_cons_self ..))
      omega
theorem IsOrd.step (h : PlantOk p) (hs : Inj p.length s) (ho : Ord p s) {t : List Nat} (hl : IsOrd p s (0 :: t)) {w : Nat} (hw : w ∈ chain p s 0) (hk : kids p w = []) : IsOrd p (nxt p s 0) (t.map (moveS p s) ++ [w]) := by
  have hwl := (chain_ge h s 0 (by omega) w hw).2
  have hn := hl.nodup
  have ht : ∀ x ∈ t, x ≠ 0 ∧ x ≤ p.length := fun x hx => ⟨fun e => (List.nodup_cons.mp hn).1 (by rw [← e]; exact hx), hl.le (List.mem_cons_of_mem _ hx)⟩
  have hp : (t.map (moveS p s) ++ [w]).Pairwise fun a b => bx (nxt p s 0) a < bx (nxt p s 0) b := by
    rw [List.pairwise_append]
    refine ⟨?_, List.pairwise_singleton .., fun a ha b hb => ?_⟩
    · rw [List.pairwise_map]
      refine (List.pairwise_cons.mp hl.2).2.imp_of_mem fun {a b} ha hb hab => ?_
      rw [bx_move h hs (ht a ha).1 (ht a ha).2, bx_move h hs (ht b hb).1 (ht b hb).2]
      exact hab
    · obtain ⟨x, hx, rfl⟩ := List.mem_map.mp ha
      rw [List.mem_singleton.mp hb, bx_move h hs (ht x hx).1 (ht x hx).2, nxt_at h hs.1 (by omega) hw, if_pos hk]
      have := mx_le (bx_mem hs (ht x hx).2)
      omega
  refine ⟨nat_sub_perm ?_ (fun x hx => ?_) ?_, hp⟩
  · rw [List.nodup_iff_pairwise_ne]
    exact hp.imp fun hab e => by rw [e] at hab; omega
  · rcases List.mem_append.mp hx with z | z
    · obtain ⟨y, hy, rfl⟩ := List.mem_map.mp z
      exact List.mem_range.mpr (by have := move_le (s := s) h (ht y hy).1 (ht y hy).2; omega)
    · rw [List.mem_singleton.mp z]
      exact List.mem_range.mpr (by omega)
  · have := hl.1.length_eq
    simp at this ⊢
    omega
def childTo (p : List Nat) (v w : Nat) : Option Nat := (kids p v).find? fun c => (way p w).contains c
theorem childTo_none {v w : Nat} (h : ∀ c ∈ kids p v, c ∉ way p w) : childTo p v w = none := by
  unfold childTo
  rw [List.find?_eq_none]
  intro c hc
  simpa using h c hc
theorem childTo_some (h : PlantOk p) {v w c : Nat} (hw : w ≤ p.length) (hc : c ∈ kids p v) (hcw : c ∈ way p w) : childTo p v w = some c := by
  unfold childTo
  cases e : (kids p v).find? fun c => (way p w).contains c with
  | none =>
    have := List.find?_eq_none.mp e c hc
    simp [hcw] at this
  | some d =>
    have h1 := List.mem_of_find?_eq_some e
    have h2 := List.find?_some e
    rw [kid_one h h1 hc w hw (by simpa using h2) hcw]
theorem childTo_same {v w u : Nat} (h : ∀ c ∈ kids p v, c ∈ way p w ↔ c ∈ way p u) : childTo p v w = childTo p v u := by
  unfold childTo
  have : ∀ l : List Nat, (∀ c ∈ l, c ∈ way p w ↔ c ∈ way p u) → l.find? (fun c => (way p w).contains c) = l.find? fun c => (way p u).contains c := fun l => by
    induction l with
    | nil => exact fun _ => rfl
    | cons a l ih =>
      intro hl
      have e : (way p w).contains a = (way p u).contains a := by
        have := hl a (List.mem_cons_self ..)
        by_cases z : a ∈ way p u
        · simp [z, this.mpr z]
        · have z2 : a ∉ way p w := fun q => z (this.mp q)
          simp [z, z2]
      rw [List.find?_cons, List.find?_cons, e, ih fun c hc => hl c (List.mem_cons_of_mem _ hc)]
  exact this _ h
theorem childTo_zero (h : PlantOk p) (v : Nat) : childTo p v 0 = none := childTo_none fun c hc z => by
  rw [way_zero] at z
  have := kids_gt h hc
  have := List.mem_singleton.mp z
  omega
def wd (p : List Nat) (l : List Nat) (v : Nat) : List Nat := l.filterMap (childTo p v)
theorem filterMap_same {f g : Nat → Option Nat} : ∀ {l : List Nat}, (∀ x ∈ l, f x = g x) → l.filterMap f = l.filterMap g
  | [], _ => rfl
  | a :: l, h => by
    rw [List.filterMap_cons, List.filterMap_cons, h a (List.mem_cons_self ..), filterMap_same fun x hx => h x (List.mem_cons_of_mem _ hx)]
theorem filterMap_nil {f : Nat → Option Nat} {l : List Nat} (h : ∀ x ∈ l, f x = none) : l.filterMap f = [] := by
  rw [filterMap_same (g := fun _ => none) h]
  induction l with
  | nil => rfl
  | cons a l ih => exact ih fun x hx => h x (List.mem_cons_of_mem _ hx)
end Th
namespace Th
open Pt
variable {p : List Nat} {s : List Int}
def ordL (p : List Nat) (s : List Int) : List Nat := (List.range (p.length + 1)).mergeSort fun a b => decide (bx s a ≤ bx s b)
theorem ordL_ok (hs : Inj p.length s) : IsOrd p s (ordL p s) := by
  have hp : (ordL p s).Perm (List.range (p.length + 1)) := List.mergeSort_perm _ _
  refine ⟨hp, ?_⟩
  have h1 : (ordL p s).Pairwise fun a b => decide (bx s a ≤ bx s b) = true := List.pairwise_mergeSort (fun a b c h1 h2 => by
    simp only [decide_eq_true_eq] at *
    omega) (fun a b => by
    simp only [Bool.or_eq_true, decide_eq_true_eq]
    omega) _
  have h2 : (ordL p s).Nodup := hp.nodup_iff.mpr List.nodup_range
  refine (h1.and (List.nodup_iff_pairwise_ne.mp h2)).imp_of_mem fun {a b} ha hb ⟨h3, h4⟩ => ?_
  have ha := List.mem_range.mp (hp.mem_iff.mp ha)
  have hb := List.mem_range.mp (hp.mem_iff.mp hb)
  have : bx s a ≠ bx s b := fun e => h4 (inj_eq hs (by omega) (by omega) e)
  simp only [decide_eq_true_eq] at h3
  omega
theorem IsOrd.eq {l : List Nat} (hs : Inj p.length s) (h : IsOrd p s l) : l = ordL p s :=
  List.Perm.eq_of_pairwise (le := fun a b => bx s a < bx s b) (fun a b _ _ h1 h2 => by omega) h.2 (ordL_ok hs).2 (h.1.trans (ordL_ok hs).1.symm)
def W (p : List Nat) (s : List Int) (v : Nat) : List Nat := wd p (ordL p s) v
theorem W_leaf {v : Nat} (e : kids p v = []) : W p s v = [] := filterMap_nil fun x _ => childTo_none fun c hc => by rw [e] at hc; cases hc
def em (p : List Nat) (s : List Int) : Nat → Nat → Nat
  | 0, _ => 0
  | t + 1, v => em p s t v + if v ∈ chain p (dayN p s t) 0 then 1 else 0
end Th
namespace Th
open Pt
variable {p : List Nat} {s : List Int}
def weave : List Nat → (Nat → List Nat) → List Nat
  | [], _ => []
  | c :: w, q => match q c with
    | [] => []
    | x :: r => x :: weave w fun d => if d = c then r else q d
def part (p : List Nat) (s : List Int) (v : Nat) : List Nat := (ordL p s).filter fun w => (way p w).contains v
theorem childTo_kid {v w c : Nat} (e : childTo p v w = some c) : c ∈ kids p v ∧ c ∈ way p w := ⟨List.mem_of_find?_eq_some e, by simpa using List.find?_some e⟩
end Th
namespace Th
open Pt
variable {p : List Nat} {w : Nat → List Nat}
def sz (p : List Nat) (v : Nat) : Nat := ((List.range (p.length + 1)).filter fun x => (way p x).contains v).length
def Vw (p : List Nat) (w : Nat → List Nat) : Prop := ∀ v, v ≤ p.length → ∀ c, (w v).count c = if c ∈ kids p v then sz p c else 0
def bl (w : Nat → List Nat) : Nat → Nat → List Nat
  | 0, v => [v]
  | f + 1, v => v :: weave (w v) (bl w f)
theorem sz_pos (h : PlantOk p) {v : Nat} (hv : v ≤ p.length) : 0 < sz p v := List.length_pos_iff.mpr fun e => by
  have : v ∈ (List.range (p.length + 1)).filter fun x => (way p x).contains v := List.mem_filter.mpr ⟨List.mem_range.mpr (by omega), by simpa using way_self h hv⟩
  rw [e] at this
  cases this
theorem Vw.kid (hw : Vw p w) {v c : Nat} (hv : v ≤ p.length) (hc : c ∈ w v) : c ∈ kids p v := by
  refine Decidable.byContradiction fun z => ?_
  have := hw v hv c
  rw [if_neg z] at this
  exact List.count_eq_zero.mp this hc
theorem Vw.mem (h : PlantOk p) (hw : Vw p w) {v c : Nat} (hv : v ≤ p.length) (hc : c ∈ kids p v) : c ∈ w v := by
  have := hw v hv c
  rw [if_pos hc] at this
  exact List.count_pos_iff.mp (by have := sz_pos h (kids_gt h hc).2; omega)
end Th
namespace Th
open Pt
variable {p : List Nat} {w : Nat → List Nat} {s s' : List Int}
def rankS (p : List Nat) (l : List Nat) : List Int := (List.range (p.length + 1)).map fun v => ((l.idxOf v : Nat) : Int)
theorem rankS_bx {l : List Nat} {v : Nat} (hv : v ≤ p.length) : bx (rankS p l) v = ((l.idxOf v : Nat) : Int) := by
  unfold bx rankS
  rw [List.getD_eq_getElem?_getD, List.getElem?_map, List.getElem?_range (by omega)]
  rfl
theorem rankS_len (p : List Nat) (l : List Nat) : (rankS p l).length = p.length + 1 := by simp [rankS]
theorem idx_inj {l : List Nat} {a b : Nat} (ha : a ∈ l) (hb : b ∈ l) (e : l.idxOf a = l.idxOf b) : a = b := by
  have h1 := List.getElem_idxOf (List.idxOf_lt_length_iff.mpr ha)
  have h2 := List.getElem_idxOf (List.idxOf_lt_length_iff.mpr hb)
  rw [← h1, ← h2]
  simp [e]
theorem rankS_inj {l : List Nat} (hl : l.Perm (List.range (p.length + 1))) : Inj p.length (rankS p l) := by
  refine ⟨rankS_len p l, ?_⟩
  unfold rankS
  rw [List.nodup_iff_pairwise_ne, List.pairwise_map]
  refine (List.nodup_iff_pairwise_ne.mp List.nodup_range).imp_of_mem fun {a b} ha hb hne e => hne ?_
  exact idx_inj (hl.mem_iff.mpr ha) (hl.mem_iff.mpr hb) (by omega)
theorem rankS_ord {l : List Nat} (hl : l.Perm (List.range (p.length + 1))) : IsOrd p (rankS p l) l := by
  refine ⟨hl, ?_⟩
  have hn : l.Nodup := hl.nodup_iff.mpr List.nodup_range
  rw [List.pairwise_iff_getElem]
  intro i j hi hj hij
  have m : ∀ k (hk : k < l.length), l[k] ≤ p.length := fun k hk => by
    have := List.mem_range.mp (hl.mem_iff.mp (List.getElem_mem hk))
    omega
  rw [rankS_bx (m i hi), rankS_bx (m j hj), hn.idxOf_getElem i hi, hn.idxOf_getElem j hj]
  omega
end Th
namespace Th
open Pt
variable {p : List Nat} {s : List Int}
def sortI (s : List Int) : List Int := s.mergeSort fun a b => decide (a ≤ b)
def rks (s : List Int) : List Int := s.map fun x => (((sortI s).idxOf x : Nat) : Int)
theorem s_map (hs : Inj p.length s) : s = (List.range (p.length + 1)).map (bx s) := by
  apply List.ext_getElem?
  intro i
  by_cases h : i < p.length + 1
  · rw [bx_get (by rw [hs.1]; exact h), List.getElem?_map, List.getElem?_range h]; rfl
  · rw [List.getElem?_eq_none (by rw [hs.1]; omega), List.getElem?_eq_none (by simp; omega)]
theorem sortI_pw (s : List Int) : (sortI s).Pairwise (· ≤ ·) := by
  have h1 : (sortI s).Pairwise fun a b => decide (a ≤ b) = true := List.pairwise_mergeSort (fun a b c h1 h2 => by
    simp only [decide_eq_true_eq] at *
    omega) (fun a b => by
    simp only [Bool.or_eq_true, decide_eq_true_eq]
    omega) _
  exact h1.imp fun h => of_decide_eq_true h
theorem sortI_perm (s : List Int) : (sortI s).Perm s := List.mergeSort_perm _ _
theorem sortI_ord (hs : Inj p.length s) : sortI s = (ordL p s).map (bx s) := by
  have ho := ordL_ok hs
  refine List.Perm.eq_of_pairwise (le := fun a b => a ≤ b) (fun a b _ _ h1 h2 => by omega) (sortI_pw s) ?_ ?_
  · rw [List.pairwise_map]
    exact ho.2.imp fun h => by omega
  · refine (sortI_perm s).trans ?_
    have := (ho.1.map (bx s)).symm
    rwa [← s_map hs] at this
theorem idxOf_map {f : Nat → Int} {v : Nat} : ∀ {l : List Nat}, (∀ a ∈ l, f a = f v → a = v) → (l.map f).idxOf (f v) = l.idxOf v
  | [], _ => rfl
  | a :: l, h => by
    rw [List.map_cons, List.idxOf_cons, List.idxOf_cons, idxOf_map fun b hb => h b (List.mem_cons_of_mem _ hb)]
    by_cases e : a = v
    · subst e; simp
    · have : f a ≠ f v := fun z => e (h a (List.mem_cons_self ..) z)
      rw [beq_false_of_ne e, beq_false_of_ne this]
theorem rks_eq (hs : Inj p.length s) : rks s = rankS p (ordL p s) := by
  have e : rks s = ((List.range (p.length + 1)).map (bx s)).map fun x => (((sortI s).idxOf x : Nat) : Int) := by rw [← s_map hs]; rfl
  rw [e]
  unfold rankS
  rw [List.map_map]
  refine List.map_congr_left fun v hv => ?_
  have hv := List.mem_range.mp hv
  show (((sortI s).idxOf (bx s v) : Nat) : Int) = _
  rw [sortI_ord hs, idxOf_map fun a ha z => inj_eq hs ((ordL_ok hs).le ha) (by omega) z]
theorem rks_inj (hs : Inj p.length s) : Inj p.length (rks s) := by
  rw [rks_eq hs]
  exact rankS_inj (ordL_ok hs).1
theorem rks_ordL (hs : Inj p.length s) : ordL p (rks s) = ordL p s := by
  have h := rankS_ord (p := p) (ordL_ok hs).1
  rw [← rks_eq hs] at h
  exact (h.eq (rks_inj hs)).symm
theorem W_rks (hs : Inj p.length s) (v : Nat) : W p (rks s) v = W p s v := by
  unfold W
  rw [rks_ordL hs]
theorem kid_le (h : PlantOk p) {v c : Nat} (hc : c ∈ kids p v) : v ≤ p.length ∧ c ≤ p.length := by
  have := kids_gt h hc
  omega
end Th
namespace Sw
open PySem PySem.Spec L2 Pt Sh St Th
theorem _root_.St.SOk.inj {n b : Nat} {s : List Int} (h : SOk n b s) : Inj n s := ⟨h.1, h.2.1⟩
theorem x_sortI {x : O} {k : O → Prop} (s : List Int) (hv : vLT x = some (s.map PyData.int)) (h : k (.lf ((sortI s).map PyData.int))) : oSortD false [x] k := by
  refine ⟨_, hv, canLay_ints s, PySem.W.AllAlike.of fun _ _ => by simp [PySem.W.alike], PySem.W.Sortable.others fun _ => ⟨(fun z => nomatch z), fun _ z => nomatch z⟩, fun d hd => ?_, ?_⟩
  · obtain ⟨i, _, rfl⟩ := List.mem_map.mp hd
    simp [PyData.depth]
  · have e : (s.map PyData.int).mergeSort (PySem.W.dataLe false id) = (sortI s).map PyData.int := by
      unfold sortI
      rw [List.map_mergeSort]
      intro a _ b _
      have := congrFun (congrFun (PySem.W.dataLe_int (β := Int) id) a) b
      exact this.symm
    rw [e]
    exact h
def dRk (s : List Int) (i : Nat) : List (Key × PyData) := (((sortI s).take i).zipIdx).map fun q => (Sum.inl q.1, PyData.int (q.2 : Nat))
theorem dRk_succ {s : List Int} {i : Nat} {x : Int} (h : (sortI s)[i]? = some x) : dRk s (i + 1) = dRk s i ++ [(Sum.inl x, PyData.int (i : Nat))] := by
  unfold dRk
  have hl := (List.getElem?_eq_some_iff.mp h).1
  rw [List.take_add_one, h, List.zipIdx_append, List.map_append]
  simp [List.length_take, Nat.min_eq_left (Nat.le_of_lt hl)]
theorem dRk_get {s : List Int} {x : Int} (h : x ∈ sortI s) : getK (dRk s (sortI s).length) (.inl x) = some (.int (((sortI s).idxOf x : Nat) : Int)) := by
  unfold dRk
  rw [List.take_length]
  generalize hq : sortI s = l at h
  have key : ∀ (l : List Int) (k : Nat), x ∈ l → getK ((l.zipIdx k).map fun q => ((Sum.inl q.1 : Key), PyData.int (q.2 : Nat))) (.inl x) = some (.int ((k + l.idxOf x : Nat) : Int)) := by
    intro l
    induction l with
    | nil => intro k h; cases h
    | cons a l ih =>
      intro k h
      rw [List.zipIdx_cons, List.map_cons]
      by_cases e : a = x
      · subst e
        simp [getK]
      · have hx : x ∈ l := by
          rcases List.mem_cons.mp h with z | z
          · exact (e z.symm).elim
          · exact z
        have := ih (k + 1) hx
        unfold getK at this ⊢
        rw [List.find?_cons_of_neg (by simpa using e), this, List.idxOf_cons, beq_false_of_ne e]
        simp
        omega
  have := key l 0 h
  simpa using this
theorem unfK_fz : ∀ l : List (Key × PyData), unfK (l.map fun q => (q.1, O.fz q.2)) = some l
  | [] => rfl
  | (k, d) :: l => by
    rw [List.map_cons]
    show (unfK _).map _ = _
    rw [unfK_fz l]
    rfl
def G_ranks : WF := fun ds R => ∃ s, ds = [.fz (tupI s)] ∧ s.Nodup ∧ s.length ≤ 1000 ∧ ∀ ρ, R (.fz (tupI (rks s))) ρ
theorem sp_ranks : ∀ ds R, G_ranks ds R → gOf 1 4 W_ranks ds R := by
  rintro _ R ⟨s, rfl, hn, hl, h⟩
  refine ⟨rfl, ?_⟩
  have hlen : (sortI s).length = s.length := (sortI_perm s).length_eq
  have hnd : (sortI s).Nodup := (sortI_perm s).nodup_iff.mpr hn
  refine seq_to (fun ρ => ∃ v_index v_box, ρ = [.fz (tupI s), .df (dRk s (sortI s).length), v_index, v_box]) (fun N hN => ?_) fun ρ ⟨v_index, v_box, hρ⟩ => ?_
  · simp [tupI]
    refine x_sortI s rfl ?_
    simp
    refine ⟨by unfold szMax; omega, ?_⟩
    refine dc_go _ (fun i acc ρ => ∃ v_index v_box, ρ = [.fz (tupI s), .hid, v_index, v_box] ∧ acc = (dRk s i).map fun q => (q.1, O.fz q.2)) _ _ (fun i d e acc ρ ⟨v_index, v_box, hρ, ha⟩ K1 k1 => ?_) ⟨_, _, rfl, rfl⟩ fun acc ρ ⟨v_index, v_box, hρ, ha⟩ => ?_
    · obtain ⟨x, ex, rfl⟩ := enumL_at e
      rw [List.getElem?_map] at ex
      cases eq : (sortI s)[i]? with
      | none => rw [eq] at ex; cases ex
      | some b =>
        rw [eq] at ex
        cases ex
        subst hρ ha
        simp
        refine ⟨fun q hq => ?_, k1 _ _ ⟨_, _, rfl, by rw [dRk_succ eq]; simp⟩⟩
        obtain ⟨q', hq', rfl⟩ := List.mem_map.mp hq
        unfold dRk at hq'
        obtain ⟨⟨y, j⟩, hy, rfl⟩ := List.mem_map.mp hq'
        intro z
        have z' : y = b := by simpa using z
        subst z'
        have h2 := List.mem_zipIdx' hy
        have h3 : y ∈ (sortI s).take i := List.mem_of_getElem? (i := j) (by rw [h2.2]; exact List.getElem?_eq_getElem h2.1)
        obtain ⟨j', hj', e3⟩ := List.mem_take_iff_getElem.mp h3
        have hi := (List.getElem?_eq_some_iff.mp eq)
        obtain ⟨hi1, hi2⟩ := hi
        have q1 := hnd.idxOf_getElem j' (by omega)
        have q2 := hnd.idxOf_getElem i hi1
        rw [e3] at q1
        rw [hi2] at q2
        omega
    · subst hρ ha
      have el : (enumL ((sortI s).map PyData.int)).length = (sortI s).length := by unfold enumL; simp
      rw [el]
      refine ⟨_, unfK_fz _, ?_⟩
      exact hN _ ⟨_, _, rfl⟩
  subst hρ
  simp [tupI]
  refine ⟨by unfold szMax; omega, ?_⟩
  refine lc_eq ((rks s).map PyData.int) (fun ρ => ∃ v_index v_box, ρ = [.fz (tupI s), .df (dRk s (sortI s).length), v_index, v_box]) (by simp [rks]) (fun i d y e ey ρ ⟨v_index, v_box, hρ⟩ K1 K0 k1 => ?_) ⟨_, _, rfl⟩ fun ρ ⟨v_index, v_box, hρ⟩ => ?_
  · subst hρ
    rw [List.getElem?_map] at e ey
    unfold rks at ey
    rw [List.getElem?_map] at ey
    cases eq : s[i]? with
    | none => rw [eq] at e; cases e
    | some b =>
      rw [eq] at e ey
      cases e
      cases ey
      simp
      exact ⟨_, dRk_get ((sortI_perm s).mem_iff.mpr (List.mem_of_getElem? eq)), k1 _ ⟨_, _, rfl⟩⟩
  · subst hρ
    rw [x_toLf2]
    simp
    exact h _
theorem at_bx {s : List Int} {v : Nat} (h : v < s.length) : atI (s.map PyData.int) (v : Nat) = some (.int (bx s v)) := at_nat (by rw [List.getElem?_map, bx_get h]; rfl)
def wrongs (p : List Nat) (s : List Int) (n : Nat) : List Nat := ((List.range n).filter fun i => decide (bx s (i + 1) < bx s (p[i]?.getD 0))).map (· + 1)
theorem wrongs_succ (p : List Nat) (s : List Int) (n : Nat) : wrongs p s (n + 1) = wrongs p s n ++ (if bx s (n + 1) < bx s (p[n]?.getD 0) then [n + 1] else []) := by
  unfold wrongs
  rw [List.range_succ, List.filter_append, List.map_append]
  congr 1
  by_cases h : bx s (n + 1) < bx s (p[n]?.getD 0) <;> simp [h]
theorem wrongs_ord {p : List Nat} {s : List Int} (hs : Inj p.length s) : wrongs p s p.length = [] ↔ ∀ (i v : Nat), p[i]? = some v → ¬ bx s (i + 1) < bx s v := by
  unfold wrongs
  rw [List.map_eq_nil_iff, List.filter_eq_nil_iff]
  constructor
  · intro h i v e
    have := h i (List.mem_range.mpr (List.getElem?_eq_some_iff.mp e).1)
    rw [e] at this
    simpa using this
  · intro h i hi
    have hi := List.mem_range.mp hi
    have := h i p[i] (List.getElem?_eq_getElem hi)
    rw [List.getElem?_eq_getElem hi]
    simpa using this
theorem ord_wrongs {p : List Nat} {s : List Int} (h : PlantOk p) (hs : Inj p.length s) : Ord p s ↔ wrongs p s p.length = [] := by
  rw [wrongs_ord hs]
  constructor
  · intro ho i v e z
    have := ho v (i + 1) (mem_kids.mpr ⟨i, rfl, e⟩)
    omega
  · intro hw v c hc
    have hk := kid_le h hc
    have hg := kids_gt h hc
    obtain ⟨i, rfl, e⟩ := mem_kids.mp hc
    have h1 := hw i v e
    have h2 : bx s v ≠ bx s (i + 1) := fun z => by
      have := inj_eq hs hk.1 hk.2 z
      omega
    omega
def G_wrong_stations : WF := fun ds R => ∃ p s, ds = [.fz (tupN p), .fz (tupI s)] ∧ PlantOk p ∧ s.length = p.length + 1 ∧ ∀ ρ, R (.lf (nI (wrongs p s p.length))) ρ
theorem sp_wrong_stations : ∀ ds R, G_wrong_stations ds R → gOf 2 4 W_wrong_stations ds R := by
  rintro _ R ⟨p, s, rfl, hp, hs, h⟩
  refine ⟨rfl, ?_⟩
  have hpl := hp.1
  simp [W_wrong_stations, tupN]
  refine ⟨by unfold szMax; omega, ?_⟩
  refine lc_go _ (fun i acc ρ => ∃ v_index v_station, ρ = [.fz (tupN p), .fz (tupI s), v_index, v_station] ∧ acc = (nI (wrongs p s i)).map O.fz) _ _ (fun i d e acc ρ ⟨v_index, v_station, hρ, ha⟩ K1 K0 k1 k0 => ?_) ⟨_, _, rfl, rfl⟩ fun acc ρ ⟨v_index, v_station, hρ, ha⟩ => ?_
  · obtain ⟨x, ex, rfl⟩ := enumL_at e
    cases eq : p[i]? with
    | none => simp [eq] at ex
    | some q =>
      simp [eq] at ex
      subst ex hρ ha
      have hi := (List.getElem?_eq_some_iff.mp eq).1
      have hq := hp.2 i q eq
      simp [tupI]
      refine ⟨.int (bx s (i + 1)), by have := at_bx (s := s) (v := i + 1) (by omega); simpa using this, .int (bx s q), at_bx (by omega), ?_⟩
      simp
      refine br_mk (fun hb => k1 _ _ ⟨_, _, rfl, ?_⟩) (fun hb => k0 _ ⟨_, _, rfl, ?_⟩)
      · simp at hb
        rw [wrongs_succ, eq]
        simp [hb, nI_append, nI]
      · simp at hb
        rw [wrongs_succ, eq, if_neg (by simpa using hb)]
        simp
  · subst hρ ha
    rw [x_toLf2]
    simp
    exact h _
def G_require_ordered : WF := fun ds R => ∃ p s, ds = [.fz (tupN p), .fz (tupI s)] ∧ PlantOk p ∧ Inj p.length s ∧ Ord p s ∧ ∀ ρ, R (.fz .none) ρ
theorem sp_require_ordered : ∀ ds R, G_require_ordered ds R → gOf 2 2 (W_require_ordered G_wrong_stations) ds R := by
  rintro _ R ⟨p, s, rfl, hp, hs, ho, h⟩
  refine ⟨rfl, ?_⟩
  simp [W_require_ordered, G_wrong_stations, and_assoc]
  refine ⟨p, rfl, s, rfl, hp, hs.1, ?_⟩
  rw [(ord_wrongs hp hs).mp ho]
  refine x_oEqG rfl rfl ?_
  simp [nI, PyData.eqv]
  exact h _
def rowsF (p : List Nat) (f : Nat → List Nat) : List O := (List.range (p.length + 1)).map fun v => .lf (nI (f v))
theorem rowsF_len (p : List Nat) (f : Nat → List Nat) : (rowsF p f).length = p.length + 1 := by simp [rowsF]
theorem rowsF_get {p : List Nat} {f : Nat → List Nat} {v : Nat} (h : v ≤ p.length) : (rowsF p f)[v]? = some (.lf (nI (f v))) := by
  unfold rowsF
  rw [List.getElem?_map, List.getElem?_range (by omega)]
  rfl
theorem rowsF_congr {p : List Nat} {f g : Nat → List Nat} (h : ∀ v, v ≤ p.length → f v = g v) : rowsF p f = rowsF p g := by
  unfold rowsF
  exact List.map_congr_left fun v hv => by rw [h v (by have := List.mem_range.mp hv; omega)]
theorem rowsF_set {p : List Nat} {f : Nat → List Nat} {u c : Nat} (hu : u ≤ p.length) : (rowsF p f).set u (.lf (nI (f u) ++ [.int (c : Nat)])) = rowsF p fun v => f v ++ if v = u then [c] else [] := by
  apply List.ext_getElem?
  intro j
  by_cases hj : j ≤ p.length
  · rw [List.getElem?_set, rowsF_get hj]
    by_cases e : u = j
    · subst e
      rw [if_pos rfl, if_pos (by rw [rowsF_len]; omega), rowsF_get hj]
      simp [nI_append, nI]
    · have e2 : ¬ j = u := fun z => e z.symm
      rw [if_neg e, rowsF_get hj]
      simp [e2]
  · rw [List.getElem?_eq_none (by rw [List.length_set, rowsF_len]; omega), List.getElem?_eq_none (by rw [rowsF_len]; omega)]
theorem fr_rowsF (p : List Nat) (f : Nat → List Nat) : frO (.ol (rowsF p f)) = some (.list ((List.range (p.length + 1)).map fun s => .list (nI (f s)))) := by
  have e : ∀ l : List Nat, frOs (l.map fun s => O.lf (nI (f s))) = some (l.map fun s => .list (nI (f s))) := fun l => by
    induction l with
    | nil => rfl
    | cons a l ih =>
      show (frO _).bind _ = _
      simp [ih]
  show (frOs (rowsF p f)).map PyData.list = _
  unfold rowsF
  rw [e]
  rfl
theorem way_lower {p : List Nat} (h : PlantOk p) {c x : Nat} : ∀ w, w ≤ p.length → c ∈ way p w → x ∈ way p w → c ≤ x → c ∈ way p x := way_ind h _ (fun hc hx _ => by
    rw [way_zero] at hc hx
    have := List.mem_singleton.mp hx
    subst this
    rw [way_zero]
    exact hc) fun v k hk ih hc hx hle => by
  have hg := kids_gt h hk
  rw [way_kid h hk] at hx
  rcases List.mem_cons.mp hx with rfl | hx2
  · exact hc
  · rw [way_kid h hk] at hc
    rcases List.mem_cons.mp hc with rfl | hc2
    · have := way_le h _ _ hx2
      omega
    · exact ih hc2 hx2 hle
def climb (p : List Nat) (w k v : Nat) : List Nat := match childTo p v w with
  | some c => if k < c then [c] else []
  | none => []
theorem climb_start {p : List Nat} (h : PlantOk p) {w : Nat} (v : Nat) : climb p w w v = [] := by
  unfold climb
  cases e : childTo p v w with
  | none => rfl
  | some c =>
    have := way_le h _ _ (childTo_kid e).2
    simp
    omega
theorem climb_end {p : List Nat} (h : PlantOk p) {w : Nat} (v : Nat) : climb p w 0 v = (childTo p v w).toList := by
  unfold climb
  cases e : childTo p v w with
  | none => rfl
  | some c =>
    have := kids_gt h (childTo_kid e).1
    simp
    omega
theorem climb_step {p : List Nat} (h : PlantOk p) {w k u : Nat} (hw : w ≤ p.length) (hk : k ∈ way p w) (hu : k ∈ kids p u) (v : Nat) : climb p w u v = climb p w k v ++ if v = u then [k] else [] := by
  have hg := kids_gt h hu
  by_cases e : v = u
  · subst e
    unfold climb
    rw [childTo_some h hw hu hk]
    simp
    exact hg.1
  · unfold climb
    cases ec : childTo p v w with
    | none => simp [e]
    | some c =>
      have hc := childTo_kid ec
      have hne : c ≠ k := fun z => e (par_eq (z ▸ hc.1) hu)
      have : u < c ↔ k < c := by
        constructor
        · intro z
          rcases Nat.lt_trichotomy k c with q | q | q
          · exact q
          · exact (hne q.symm).elim
          · have h1 := way_lower h w hw hc.2 hk (by omega)
            rw [way_kid h hu] at h1
            rcases List.mem_cons.mp h1 with h1 | h1
            · exact (hne h1).elim
            · have := way_le h _ _ h1
              omega
        · intro z
          omega
      simp [e, this]
def G_word_table : WF := fun ds R => ∃ p s, ds = [.fz (tupN p), .fz (tupI s)] ∧ PlantOk p ∧ Inj p.length s ∧ ∀ ρ, R (.ol (rowsF p (W p s))) ρ
theorem sp_word_table : ∀ ds R, G_word_table ds R → gOf 2 7 W_word_table ds R := by
  rintro _ R ⟨p, s, rfl, hp, hs, h⟩
  refine ⟨rfl, ?_⟩
  have hpl := hp.1
  have hsl := hs.1
  have hord := ordL_ok hs
  refine seq_to (fun ρ => ρ = [.fz (tupN p), .fz (tupI s), .ol (rowsF p fun _ => []), .hid, .hid, .hid, .hid]) (fun N hN => ?_) fun ρ hρ => ?_
  · simp [tupI]
    refine ⟨by unfold szMax; omega, ?_⟩
    refine lc_go _ (fun i acc ρ => ∃ v_rank, ρ = [.fz (tupN p), .fz (tupI s), .hid, v_rank, .hid, .hid, .hid] ∧ acc = List.replicate i (.lf [])) _ _ (fun i d e acc ρ ⟨v_rank, hρ, ha⟩ K1 K0 k1 k0 => ?_) ⟨_, rfl, rfl⟩ fun acc ρ ⟨v_rank, hρ, ha⟩ => ?_
    · subst hρ
      simp
      exact k1 _ _ ⟨_, rfl, by rw [ha, List.replicate_succ']⟩
    · subst hρ ha
      have e0 : List.replicate (s.map PyData.int).length (O.lf []) = rowsF p fun _ => [] := by
        unfold rowsF
        rw [List.length_map, hsl]
        simp [nI, List.map_const']
      rw [e0]
      exact hN _ rfl
  subst hρ
  refine seq_to (fun ρ => ∃ v_station v_here v_upper, ρ = [.fz (tupN p), .fz (tupI s), .ol (rowsF p (W p s)), .hid, v_station, v_here, v_upper]) (fun N hN => ?_) fun ρ ⟨v_station, v_here, v_upper, hρ⟩ => ?_
  · simp [tupI]
    refine ⟨s.length, rfl, s, asInts_map s, Nat.le_refl _, by omega, ?_⟩
    have eo : (Lk.byKey (Lk.keyAt s) s.length).map (fun i : Nat => PyData.int i) = nI (ordL p s) := by
      rw [hsl]
      rfl
    rw [eo]
    refine for_go _ (fun i ρ => ∃ v_station v_here v_upper, ρ = [.fz (tupN p), .fz (tupI s), .ol (rowsF p fun v => wd p ((ordL p s).take i) v), .hid, v_station, v_here, v_upper]) _ (fun i d e ρ ⟨v_station, v_here, v_upper, hρ⟩ N2 hN2 => ?_) ⟨_, _, _, rfl⟩ fun ρ ⟨v_station, v_here, v_upper, hρ⟩ => ?_
    · subst hρ
      rw [nI_get] at e
      cases eq : (ordL p s)[i]? with
      | none => rw [eq] at e; cases e
      | some w =>
        rw [eq] at e
        cases e
        have hw : w ≤ p.length := hord.le (List.mem_of_getElem? eq)
        simp
        have e0 : rowsF p (fun v => wd p ((ordL p s).take i) v) = rowsF p fun v => wd p ((ordL p s).take i) v ++ climb p w w v := rowsF_congr fun v _ => by rw [climb_start hp, List.append_nil]
        rw [e0]
        refine while_at (fun m ρ => ∃ k v_upper, m + 1 = (way p k).length ∧ k ∈ way p w ∧ ρ = [.fz (tupN p), .fz (tupI s), .ol (rowsF p fun v => wd p ((ordL p s).take i) v ++ climb p w k v), .hid, .fz (.int (w : Nat)), .fz (.int (k : Nat)), v_upper]) ((way p w).length - 1) _ (fun m ρ ⟨k, v_upper, hm, hk, hρ⟩ N3 hN3 => ?_) ⟨w, _, ?_, way_self hp hw, rfl⟩
        · subst hρ
          have hkl := way_le hp _ _ hk
          simp
          cases k with
          | zero =>
            simp
            have e3 : rowsF p (fun v => wd p ((ordL p s).take i) v ++ climb p w 0 v) = rowsF p fun v => wd p ((ordL p s).take (i + 1)) v := rowsF_congr fun v _ => by
              rw [climb_end hp, List.take_add_one, eq]
              unfold wd
              rw [List.filterMap_append]
              cases ec : childTo p v w <;> simp [List.filterMap, ec]
            rw [e3]
            exact hN2 _ ⟨_, _, _, rfl⟩
          | succ k =>
            have ek : p[k]? = some p[k] := List.getElem?_eq_getElem (by omega)
            have hb := hp.le (i := k) (by omega)
            have hkid : k + 1 ∈ kids p p[k] := mem_kids.mpr ⟨k, rfl, ek⟩
            have e1 : (0 : Int) < ((k + 1 : Nat) : Int) := by omega
            simp [e1, tupN]
            refine ⟨.int (p[k] : Nat), at_int (i := k) (by omega) (by simp [ek]), ?_⟩
            simp
            refine ⟨p[k], ix_nat (by rw [rowsF_len]; omega), _, rowsF_get (by omega), rfl, ?_⟩
            simp
            refine ⟨?_, ?_⟩
            · have h1 : (wd p ((ordL p s).take i) p[k]).length ≤ ((ordL p s).take i).length := List.length_filterMap_le ..
              have h2 : ((ordL p s).take i).length ≤ p.length + 1 := by
                rw [List.length_take, hord.1.length_eq, List.length_range]
                omega
              have h3 : (climb p w (k + 1) p[k]).length ≤ 1 := by
                unfold climb
                cases childTo p p[k] w with
                | none => simp
                | some c => by_cases q : k + 1 < c <;> simp [q]
              unfold szMax
              omega
            · have er := rowsF_set (p := p) (f := fun v => wd p ((ordL p s).take i) v ++ climb p w (k + 1) v) (u := p[k]) (c := k + 1) (by omega)
              simp at er
              rw [er]
              have e4 : (rowsF p fun v => wd p ((ordL p s).take i) v ++ (climb p w (k + 1) v ++ if v = p[k] then [k + 1] else [])) = rowsF p fun v => wd p ((ordL p s).take i) v ++ climb p w p[k] v := rowsF_congr fun v _ => by rw [climb_step hp hw hk hkid]
              rw [e4]
              rw [way_kid hp hkid, List.length_cons] at hm
              have hw0 := List.length_pos_of_mem (way_self hp (show p[k] ≤ p.length by omega))
              have hm2 : p[k] ∈ way p w := by
                have := kid_up hp hkid w hw hk
                exact this
              exact hN3 ((way p p[k]).length - 1) _ (by omega) ⟨p[k], _, by omega, hm2, rfl⟩
        · have := List.length_pos_of_mem (way_self hp hw)
          omega
    · subst hρ
      simp at hN
      rw [nI_len, List.take_length]
      exact hN _ _ _ _ rfl
  subst hρ
  simp
  exact h _
end Sw
namespace Sw
open PySem PySem.Spec L2 Pt Sh St Th
theorem W_len_le {p : List Nat} {s : List Int} (h : PlantOk p) (hs : Inj p.length s) (v : Nat) : (W p s v).length ≤ p.length + 1 := by
  have h1 : (W p s v).length ≤ (ordL p s).length := List.length_filterMap_le ..
  rw [(ordL_ok hs).1.length_eq, List.length_range] at h1
  exact h1
theorem W_mem {p : List Nat} {s : List Int} (h : PlantOk p) {v c : Nat} (hc : c ∈ W p s v) : c ∈ kids p v := by
  obtain ⟨w, _, e⟩ := List.mem_filterMap.mp hc
  exact (childTo_kid e).1
theorem nI_ints (l : List Nat) : nI l = (l.map fun n : Nat => (n : Int)).map PyData.int := by
  unfold nI
  rw [List.map_map]
  rfl
theorem cut_take {α : Type} (xs : List α) (r : Nat) : cutP xs none (some (r : Int)) = xs.take r := by
  have h0 : ¬ (r : Int) < 0 := by omega
  unfold cutP HT.sIx
  simp [h0]
theorem x_in3 {d : PyData} {ds : List PyData} {neg : Bool} {k : O → Prop} : oIn neg [.fz d, .lf ds] k = (flatD d = true ∧ ds.all flatD = true ∧ k (.fz (.bool (if neg then !inD d ds else inD d ds)))) := by simp [oIn, vS]
end Sw
namespace FB
open PySem PySem.Spec L2 Pt
def W__law_source : WS :=
  (sRet (wRd [.ex (wRd [.ex (wC (.int 0)), .ex (wRd [.ex (wV 0), .ex (wRd [.ex (wC (.int 10)), .ex (wC (.int 18))] oPowA)] oSub)] oMax2), .ex (wRd [.ex (wV 0), .ex (wRd [.ex (wRd [.ex (wC (.int 10)), .ex (wC (.int 36))] oPowA), .ex (wC (.int 67))] oAdd)] oMod), .ex (wC (.int 0))] oLst))
def W__law_draw : WS :=
  (sSeq (sIf (wTb (wRd [.ex (wRd [.nm 0, .ex (wC (.int 0))] oIx), .ex (wC (.int 0))] oGt))
  (sSeq (sStore 2 (wRd [.ex (wRd [.nm 0, .ex (wC (.int 0))] oIx), .ex (wV 1)] oMod))
  (sSeq (sSetI 0 (wRd [.ex (wRd [.nm 0, .ex (wC (.int 0))] oIx), .ex (wV 1)] oDiv) (wC (.int 0)))
  (sRet (wV 2))))
  sNext)
  (sSeq (sSetI 0 (wFz (wRd [.ex (wRd [.nm 0, .ex (wC (.int 2))] oIx), .ex (wC (.int 1))] oAdd)) (wC (.int 2)))
  (sSeq (sStore 3 (wRd [.ex (wRd [.ex (wRd [.ex (wRd [.nm 0, .ex (wC (.int 1))] oIx), .ex (wRd [.ex (wC (.int 49979687)), .ex (wRd [.nm 0, .ex (wC (.int 2))] oIx)] oMulA)] oAdd), .ex (wC (.int 3))] oPowA), .ex (wRd [.ex (wRd [.ex (wC (.int 10)), .ex (wC (.int 38))] oPowA), .ex (wC (.int 133))] oAdd)] oMod))
  (sSeq (sStore 3 (wRd [.ex (wRd [.ex (wRd [.ex (wV 3), .ex (wRd [.ex (wC (.int 67867967)), .ex (wRd [.nm 0, .ex (wC (.int 2))] oIx)] oMulA)] oAdd), .ex (wC (.int 5))] oPowA), .ex (wRd [.ex (wRd [.ex (wC (.int 10)), .ex (wC (.int 37))] oPowA), .ex (wC (.int 43))] oAdd)] oMod))
  (sRet (wRd [.ex (wRd [.ex (wV 3), .ex (wC (.int 1048576))] oDiv), .ex (wV 1)] oMod))))))
def W__law_plant (g__law_draw : WF) : WS :=
  (sSeq (sStore 2 (wFz (wRd [.ex (wFz (wRd [.ex (wC (.int 1)), .ex (wCall [.nm 0, .ex (wRd [.ex (wV 1), .ex (wC (.int 6))] oMin2)] g__law_draw)] oAdd)), .ex (wFz (wRd [.ex (wC (.int 1)), .ex (wCall [.nm 0, .ex (wV 1)] g__law_draw)] oAdd)), .ex (wV 1)] oLst)))
  (sSeq (sPar [3, 4, 5] [(wRd [.ex (wV 2), .ex (wCall [.nm 0, .ex (wC (.int 3))] g__law_draw)] oIx), (wFz (wCall [.nm 0, .ex (wC (.int 4))] g__law_draw)), (wRd [] oLst)])
  (sSeq (sFor (wiR1 (wRd [.ex (wV 3), .ex (wC (.int 1))] oSub)) (gN 6)
  (sSeq (sStore 7 (wRd [.ex (wV 6), .ex (wRd [.ex (wV 6), .ex (wCall [.nm 0, .ex (wC (.int 3))] g__law_draw)] oMin2)] oSub))
  (sDrop (wMu "list" 5 [(wRd [.ex (wRd [.ex (wV 6), .ex (wC (.int 0)), .ex (wFz (wCall [.nm 0, .ex (wFz (wRd [.ex (wV 6), .ex (wC (.int 1))] oAdd))] g__law_draw)), .ex (wV 7)] oLst), .ex (wV 4)] oIx)] lmAppend))))
  (sGf 5 (sRet (wRd [.nm 5] oTuple))))))
def W__law_numbers (g__law_draw : WF) : WS :=
  (sSeq (sStore 2 (wFz (wCall [.nm 0, .ex (wC (.int 4))] g__law_draw)))
  (sSeq (sPar [3, 4] [(wRd [] oLst), (wRd [.ex (wRd [.ex (wRd [.ex (wC (.int 1))] oNeg), .ex (wRd [.ex (wC (.int 50))] oNeg), .ex (wRd [.ex (wC (.int 10)), .ex (wC (.int 30))] oPowA), .ex (wRd [.ex (wRd [.ex (wC (.int 10)), .ex (wC (.int 35))] oPowA)] oNeg)] oLst), .ex (wV 2)] oIx)])
  (sSeq (sFor (wiR1 (wV 1)) (gN 5)
  (sSeq (sStore 4 (wFz (wRd [.ex (wRd [.ex (wV 4), .ex (wC (.int 1))] oAdd), .ex (wCall [.nm 0, .ex (wRd [.ex (wRd [.ex (wC (.int 1)), .ex (wC (.int 9)), .ex (wC (.int 3)), .ex (wRd [.ex (wC (.int 10)), .ex (wC (.int 30))] oPowA)] oLst), .ex (wV 2)] oIx)] g__law_draw)] oAdd)))
  (sDrop (wMu "list" 3 [(wV 4)] lmAppend))))
  (sRet (wM 3)))))
def W__law_calm (g__law_draw : WF) (g__law_numbers : WF) : WS :=
  (sSeq (sAsg (gT 2 (gsC (gN 2) (gsC (gN 3) gsN))) (wTupO [wDict0, (wRd [.ex (wC (.int 0))] oLst)]))
  (sSeq (sFor (wiS (wCall [.nm 0, .ex (wFz (wRd [.ex (wRd [.ex (wV 1)] oLen), .ex (wC (.int 1))] oAdd))] g__law_numbers)) (gN 4)
  (sSeq (sStore 5 (wFz (wMu "list" 3 [(wFz (wCall [.nm 0, .ex (wRd [.nm 3] oLen)] g__law_draw))] lmPopAt)))
  (sSeq (sSetD 2 (wV 4) (wV 5))
  (sDrop (wMu "list" 3 [(wFz (wLf (wLc (wiE (wV 1)) (gT 2 (gsC (gN 6) (gsC (gN 7) gsN))) (wTb (wRd [.ex (wV 7), .ex (wV 5)] (oEqA false))) (wFz (wRd [.ex (wV 6), .ex (wC (.int 1))] oAdd)) [6, 7])))] lmExtend)))))
  (sRet (wRd [.ex (wLf (wLc (wiR1 (wRd [.ex (wRd [.ex (wV 1)] oLen), .ex (wC (.int 1))] oAdd)) (gN 5) wYes (wRd [.nm 2, .ex (wV 5)] oDGet) [5]))] oTuple))))
def W__law_way : WS :=
  (sSeq (sStore 2 (wRd [.ex (wV 1)] oLst))
  (sSeq (sWhile (wTb (wRd [.ex (wRd [.nm 2, .ex (wRd [.ex (wC (.int 1))] oNeg)] oIx), .ex (wC (.int 0))] oGt))
  (sDrop (wMu "list" 2 [(wRd [.ex (wV 0), .ex (wRd [.ex (wRd [.nm 2, .ex (wRd [.ex (wC (.int 1))] oNeg)] oIx), .ex (wC (.int 1))] oSub)] oIx)] lmAppend)))
  (sRet (wM 2))))
def W__law_letters (g__law_way : WF) : WS :=
  (sSeq (sStore 2 (wRd [] oLst))
  (sSeq (sFor (wiR1 (wRd [.ex (wV 1)] oLen)) (gN 3)
  (sSeq (sStore 4 (wRd [] oLst))
  (sSeq (sFor (wiS (wRd [.ex (wLf (wLc (wiE (wV 1)) (gT 2 (gsC (gN 6) (gsC (gN 5) gsN))) wYes (wRd [.ex (wV 5), .ex (wV 6)] oTup) [6, 5]))] (oSortD false))) (gT 2 (gsC (gN 5) (gsC (gN 6) gsN)))
  (sSeq (sStore 7 (wFz (wCall [.ex (wV 0), .ex (wV 6)] g__law_way)))
  (sIf (wTb (wRd [.ex (wV 3), .ex (wSl (.ex (wV 7)) (.of (wC (.int 1))) .no)] (oIn false)))
  (sDrop (wMu "list" 4 [(wRd [.ex (wV 7), .ex (wRd [.ex (wRmE .l (wV 7) [.ex (wV 3)] oIndexL), .ex (wC (.int 1))] oSub)] oIx)] lmAppend))
  sNext)))
  (sDrop (wMu "list" 2 [(wFz (wM 4))] lmAppend)))))
  (sRet (wM 2))))
end FB
namespace Th
open Pt
variable {p : List Nat}
structure Fill (p l R : List Nat) : Prop where
  ac : AC p R
  nd : l.Nodup
  inl : ∀ v, v ≤ p.length → (v ∈ l ↔ und p R v = false)
  le : ∀ v ∈ l, v ≤ p.length
  cnt : l.length + tot p R = p.length + 1
  ord : ∀ v c, c ∈ kids p v → c ∈ l → v ∈ l ∧ l.idxOf v < l.idxOf c
theorem und_self (h : PlantOk p) {R : List Nat} {b : Nat} (hb : b ∈ R) (hl : b ≤ p.length) : und p R b = true := und_iff.mpr ⟨b, hb, way_self h hl⟩
theorem Fill.start (h : PlantOk p) : Fill p [] [0] where
  ac := ac_top p
  nd := List.nodup_nil
  inl := fun v hv => by
    have : und p [0] v = true := und_iff.mpr ⟨0, by simp, way_top h v hv⟩
    simp [this]
  le := fun v hv => (List.not_mem_nil hv).elim
  cnt := by rw [tot_top h]; simp
  ord := fun v c _ hc => (List.not_mem_nil hc).elim
theorem Fill.new (h : PlantOk p) {l R : List Nat} (f : Fill p l R) {b : Nat} (hb : b ∈ R) : b ∉ l := fun z => by
  have hl := f.ac.le b hb
  have := (f.inl b hl).mp z
  rw [und_self h hb hl] at this
  cases this
theorem Fill.step (h : PlantOk p) {l R : List Nat} (f : Fill p l R) {b : Nat} (hb : b ∈ R) : Fill p (l ++ [b]) (R.erase b ++ kids p b) where
  ac := f.ac.pop h hb
  nd := by
    rw [List.nodup_append]
    refine ⟨f.nd, by simp, fun a ha c hc e => ?_⟩
    rw [List.mem_singleton.mp hc] at e
    subst e
    exact f.new h hb ha
  inl := fun v hv => by
    obtain ⟨u1, u2⟩ := und_pop h f.ac hb
    by_cases e : v = b
    · subst e
      simp [u1]
    · rw [u2 v hv e, ← f.inl v hv]
      simp [e]
  le := fun v hv => by
    rcases List.mem_append.mp hv with z | z
    · exact f.le v z
    · rw [List.mem_singleton.mp z]
      exact f.ac.le b hb
  cnt := by
    have := tot_pop h f.ac hb
    have := f.cnt
    simp
    omega
  ord := fun v c hk hc => by
    have hg := kids_gt h hk
    rcases List.mem_append.mp hc with z | z
    · obtain ⟨h1, h2⟩ := f.ord v c hk z
      refine ⟨List.mem_append_left _ h1, ?_⟩
      rw [List.idxOf_append, List.idxOf_append, if_pos h1, if_pos z]
      exact h2
    · have z := List.mem_singleton.mp z
      subst z
      have hv : v ∈ l := (f.inl v (by omega)).mpr (by
        cases q : und p R v with
        | false => rfl
        | true =>
          obtain ⟨r, hr, hw⟩ := und_iff.mp q
          have h1 : r ∈ way p c := by rw [way_kid h hk]; exact List.mem_cons_of_mem _ hw
          have h2 := f.ac.ac r hr c hb h1
          have h3 := way_le h _ _ hw
          omega)
      refine ⟨List.mem_append_left _ hv, ?_⟩
      rw [List.idxOf_append, List.idxOf_append, if_pos hv, if_neg (f.new h hb)]
      have := List.idxOf_lt_length_iff.mpr hv
      omega
theorem Fill.more (h : PlantOk p) {l R : List Nat} (f : Fill p l R) (hl : l.length ≤ p.length) : R ≠ [] := fun e => by
  have := f.cnt
  rw [e, tot_nil] at this
  omega
theorem Fill.perm {l R : List Nat} (f : Fill p l R) (hl : l.length = p.length + 1) : l.Perm (List.range (p.length + 1)) :=
  nat_sub_perm f.nd (fun x hx => List.mem_range.mpr (by have := f.le x hx; omega)) (by simp; omega)
theorem erase_at {R : List Nat} (hn : R.Nodup) {j b : Nat} (h : R[j]? = some b) : R.eraseIdx j = R.erase b := by
  obtain ⟨h1, h2⟩ := List.getElem?_eq_some_iff.mp h
  have : R.idxOf b = j := by rw [← h2]; exact hn.idxOf_getElem j h1
  rw [List.erase_eq_eraseIdx_of_idxOf this]
def stockOf (p l : List Nat) (bs : List Int) : List Int := (List.range (p.length + 1)).map fun v => bs.getD (l.idxOf v) 0
theorem stockOf_bx {l : List Nat} {bs : List Int} {v : Nat} (hv : v ≤ p.length) : bx (stockOf p l bs) v = bs.getD (l.idxOf v) 0 := by
  unfold bx stockOf
  rw [List.getD_eq_getElem?_getD, List.getElem?_map, List.getElem?_range (by omega)]
  rfl
theorem stockOf_len (p l : List Nat) (bs : List Int) : (stockOf p l bs).length = p.length + 1 := by simp [stockOf]
theorem asc_lt {bs : List Int} (hb : bs.Pairwise (· < ·)) {i j : Nat} (hij : i < j) (hj : j < bs.length) : bs.getD i 0 < bs.getD j 0 := by
  rw [List.getD_eq_getElem?_getD, List.getD_eq_getElem?_getD, List.getElem?_eq_getElem (by omega), List.getElem?_eq_getElem hj]
  exact List.pairwise_iff_getElem.mp hb i j (by omega) hj hij
theorem stockOf_mem {l : List Nat} {bs : List Int} (hl : l.Perm (List.range (p.length + 1))) (hlen : bs.length = p.length + 1) : ∀ x ∈ stockOf p l bs, x ∈ bs := fun x hx => by
  obtain ⟨v, hv, rfl⟩ := List.mem_map.mp hx
  have h1 := List.idxOf_lt_length_iff.mpr (hl.mem_iff.mpr hv)
  rw [hl.length_eq, List.length_range] at h1
  rw [List.getD_eq_getElem?_getD, List.getElem?_eq_getElem (by omega)]
  exact List.getElem_mem ..
theorem stockOf_inj {l : List Nat} {bs : List Int} (hl : l.Perm (List.range (p.length + 1))) (hb : bs.Pairwise (· < ·)) (hlen : bs.length = p.length + 1) : Inj p.length (stockOf p l bs) := by
  refine ⟨stockOf_len p l bs, ?_⟩
  unfold stockOf
  rw [List.nodup_iff_pairwise_ne, List.pairwise_map]
  refine (List.nodup_iff_pairwise_ne.mp List.nodup_range).imp_of_mem fun {a b} ha hb' hne e => hne ?_
  have ha2 := hl.mem_iff.mpr ha
  have hb2 := hl.mem_iff.mpr hb'
  have l1 := List.idxOf_lt_length_iff.mpr ha2
  have l2 := List.idxOf_lt_length_iff.mpr hb2
  rw [hl.length_eq, List.length_range] at l1 l2
  refine idx_inj ha2 hb2 ?_
  rcases Nat.lt_trichotomy (l.idxOf a) (l.idxOf b) with q | q | q
  · have := asc_lt hb q (by omega)
    omega
  · exact q
  · have := asc_lt hb q (by omega)
    omega
theorem Fill.stock (h : PlantOk p) {l R : List Nat} {bs : List Int} (f : Fill p l R) (hl : l.length = p.length + 1) (hb : bs.Pairwise (· < ·)) (hlen : bs.length = p.length + 1) : Ord p (stockOf p l bs) := fun v c hc => by
  have hk := kid_le h hc
  have hp := f.perm hl
  have hm : c ∈ l := hp.mem_iff.mpr (List.mem_range.mpr (by omega))
  obtain ⟨h1, h2⟩ := f.ord v c hc hm
  have l2 := List.idxOf_lt_length_iff.mpr hm
  rw [stockOf_bx hk.1, stockOf_bx hk.2]
  exact asc_lt hb h2 (by omega)
end Th
namespace Th
open PySem PySem.W Pt
variable {p : List Nat} {s : List Int}
def pI (q : Int × Int) : PyData := .tuple [.int q.1, .int q.2]
theorem canLay_pairs : ∀ ps : List (Int × Int), PyData.canLayAll0 (ps.map pI) = true
  | [] => rfl
  | n :: ns => by
    show (PyData.canLay0 (pI n) && PyData.canLayAll0 (ns.map pI)) = true
    rw [canLay_pairs ns]
    rfl
theorem depth_pI (q : Int × Int) : (pI q).depth ≤ 2 := by simp [pI, PyData.depth, PyData.depthAll]
theorem alike_pI (a b : Int × Int) : alike (pI a) (pI b) = true := by simp [pI, alike, alikeAll]
def pBx (s : List Int) (v : Nat) : PyData := pI (bx s v, (v : Nat))
theorem x_sortP {x : O} {k : O → Prop} (hs : Inj p.length s) (hv : vLT x = some ((List.range (p.length + 1)).map (pBx s))) (h : k (.lf ((ordL p s).map (pBx s)))) : oSortD false [x] k := by
  refine ⟨_, hv, ?_, fun d hd d' hd' => ?_, .inl fun d hd => ?_, fun d hd => ?_, ?_⟩
  · have : (List.range (p.length + 1)).map (pBx s) = ((List.range (p.length + 1)).map fun v => (bx s v, ((v : Nat) : Int))).map pI := by
      rw [List.map_map]
      rfl
    rw [this]
    exact canLay_pairs _
  · obtain ⟨a, _, rfl⟩ := List.mem_map.mp hd
    obtain ⟨b, _, rfl⟩ := List.mem_map.mp hd'
    exact alike_pI _ _
  · obtain ⟨a, _, rfl⟩ := List.mem_map.mp hd
    exact ⟨_, _, rfl⟩
  · obtain ⟨a, _, rfl⟩ := List.mem_map.mp hd
    have := depth_pI (bx s a, ((a : Nat) : Int))
    show PyData.depth (pI _) ≤ 40
    omega
  · have e : ((List.range (p.length + 1)).map (pBx s)).mergeSort (dataLe false id) = (ordL p s).map (pBx s) := by
      unfold ordL
      rw [List.map_mergeSort]
      intro a ha b hb
      have h1 := congrFun (congrFun (dataLe_ii (β := Nat) (fun v => bx s v) (fun v => ((v : Nat) : Int))) a) b
      have h2 : dataLe false id (pBx s a) (pBx s b) = dataLe false (fun v : Nat => PyData.tuple [PyData.int (bx s v), PyData.int ((v : Nat) : Int)]) a b := rfl
      rw [h2, h1]
      apply decide_eq_decide.mpr
      have ha := List.mem_range.mp ha
      have hb := List.mem_range.mp hb
      constructor
      · intro z
        by_cases q : bx s a = bx s b
        · have := inj_eq hs (v := a) (w := b) (by omega) (by omega) q
          exact .inr ⟨q, by omega⟩
        · exact .inl (by omega)
      · intro z
        omega
    rw [e]
    exact h
theorem childTo_way (h : PlantOk p) (v : Nat) : ∀ w, w ≤ p.length → (v ∈ (way p w).tail → ∃ c, childTo p v w = some c ∧ 0 < (way p w).idxOf v ∧ (way p w)[(way p w).idxOf v - 1]? = some c) ∧ (v ∉ (way p w).tail → childTo p v w = none) := way_ind h _ (by
    rw [way_zero]
    exact ⟨fun z => (List.not_mem_nil z).elim, fun _ => childTo_zero h v⟩) fun u c hc ih => by
  have hk := kid_le h hc
  have hg := kids_gt h hc
  rw [way_kid h hc]
  by_cases e : v = u
  · subst e
    refine ⟨fun _ => ⟨c, childTo_some h hk.2 hc (way_self h hk.2), ?_⟩, fun z => (z (way_self h hk.1)).elim⟩
    have h1 : c ≠ v := by omega
    have h3 : ∃ t, way p v = v :: t := by
      cases hv : way p v with
      | nil =>
        have := way_self h hk.1
        rw [hv] at this
        cases this
      | cons a t =>
        cases v with
        | zero => rw [way_zero] at hv; cases hv; exact ⟨_, rfl⟩
        | succ v =>
          rw [way_succ h (List.getElem?_eq_getElem (show v < p.length by omega))] at hv
          cases hv
          exact ⟨_, rfl⟩
    obtain ⟨t, et⟩ := h3
    rw [et]
    have : (c :: v :: t).idxOf v = 1 := by
      rw [List.idxOf_cons, List.idxOf_cons, beq_false_of_ne h1]
      simp
    rw [this]
    exact ⟨by omega, rfl⟩
  · have hsame : childTo p v c = childTo p v u := childTo_same fun k hk' => by
      rw [way_kid h hc]
      constructor
      · intro z
        rcases List.mem_cons.mp z with rfl | z
        · exact (e (par_eq hk' hc)).elim
        · exact z
      · exact List.mem_cons_of_mem _
    have hmem : v ∈ way p u ↔ v ∈ (way p u).tail := by
      cases hu : way p u with
      | nil => simp
      | cons a t =>
        have : a = u := by
          cases u with
          | zero => rw [way_zero] at hu; cases hu; rfl
          | succ u =>
            rw [way_succ h (List.getElem?_eq_getElem (show u < p.length by omega))] at hu
            cases hu
            rfl
        subst this
        simp [e]
    show (v ∈ way p u → _) ∧ (v ∉ way p u → _)
    rw [hmem, hsame]
    refine ⟨fun z => ?_, ih.2⟩
    obtain ⟨d, e1, e2, e3⟩ := ih.1 z
    have hcv : c ≠ v := fun z2 => by
      subst z2
      have := way_le h _ _ (hmem.mpr z)
      omega
    have : (c :: way p u).idxOf v = (way p u).idxOf v + 1 := by
      rw [List.idxOf_cons, beq_false_of_ne hcv]
      rfl
    rw [this]
    refine ⟨d, e1, by omega, ?_⟩
    have e4 : (way p u).idxOf v + 1 - 1 = ((way p u).idxOf v - 1) + 1 := by omega
    rw [e4, List.getElem?_cons_succ]
    exact e3
end Th
namespace FB
open PySem PySem.Spec L2 Pt Sh St Th Sw
def srcO (n : Nat) (x : List PyData) : Prop := ∃ a b c : Int, x = [.int a, .int b, .int c] ∧ 0 ≤ a ∧ 0 ≤ b ∧ b < 10 ^ 40 ∧ 0 ≤ c ∧ c ≤ n
theorem srcO.mono {n m : Nat} {x : List PyData} (h : srcO n x) (hm : n ≤ m) : srcO m x := by
  obtain ⟨a, b, c, e, h1, h2, h3, h4, h5⟩ := h
  exact ⟨a, b, c, e, h1, h2, h3, h4, by omega⟩
def G__law_source : WF := fun ds R => ∃ c : Int, ds = [.fz (.int c)] ∧ ∀ x ρ, srcO 0 x → R (.lf x) ρ
theorem sp__law_source : ∀ ds R, G__law_source ds R → gOf 1 1 W__law_source ds R := by
  rintro _ R ⟨c, rfl, h⟩
  refine ⟨rfl, ?_⟩
  simp [W__law_source]
  refine ⟨by unfold CPowA; decide, by unfold CPowA; decide, by decide, h _ _ ⟨_, _, _, rfl, by omega, by omega, by omega, by omega, by omega⟩⟩
def G__law_draw : WF := fun ds R => ∃ n x m, ds = [.lf x, .fz (.int m)] ∧ srcO n x ∧ n ≤ 1000000000 ∧ 0 < m ∧ m < 10 ^ 40 ∧ ∀ r x', 0 ≤ r → r < m → srcO (n + 1) x' → ∀ t, R (.fz (.int r)) (.lf x' :: t)
theorem sp__law_draw : ∀ ds R, G__law_draw ds R → gOf 2 4 W__law_draw ds R := by
  rintro _ R ⟨n, x, m, rfl, ⟨a, b, c, rfl, ha, hb, hb2, hc, hcn⟩, hn, hm, hm2, h⟩
  refine ⟨rfl, ?_⟩
  simp [W__law_draw, atI, ixN]
  refine br_mk (fun h1 => ?_) (fun h1 => ?_)
  · exact ⟨hm, cdiv_ok hm (by omega), h _ _ (Int.emod_nonneg _ (by omega)) (Int.emod_lt_of_pos _ hm) ⟨_, _, _, rfl, Int.ediv_nonneg ha (by omega), hb, hb2, hc, by omega⟩ _⟩
  · generalize hq : (b + 49979687 * (c + 1)) ^ 3 = q
    have e1 := Int.emod_nonneg q (show (100000000000000000000000000000000000133 : Int) ≠ 0 by decide)
    have e2 := Int.emod_lt_of_pos q (show (0 : Int) < 100000000000000000000000000000000000133 by decide)
    have c1 : CPowA (b + 49979687 * (c + 1)) 3 := cpow_ok (by omega) (by decide) (by decide)
    have c2 : CPowA (q % 100000000000000000000000000000000000133 + 67867967 * (c + 1)) 5 := cpow_ok (by omega) (by decide) (by decide)
    exact ⟨cmul_ok (by decide) (by decide) (by omega) (by omega), c1, by unfold CPowA; decide, cmul_ok (by decide) (by decide) (by omega) (by omega), c2, by unfold CPowA; decide, cdiv_ok (by decide) (by decide), hm,
      h _ _ (Int.emod_nonneg _ (by omega)) (Int.emod_lt_of_pos _ hm) ⟨_, _, _, rfl, ha, hb, hb2, by omega, by omega⟩ _⟩
def G__law_plant : WF := fun ds R => ∃ n x m, ds = [.lf x, .fz (.int (m : Nat))] ∧ srcO n x ∧ n ≤ 100000000 ∧ 1 ≤ m ∧ m ≤ 40 ∧ ∀ p x', PlantOk p → p.length + 1 ≤ m → srcO (n + 1000) x' → ∀ t, R (.fz (tupN p)) (.lf x' :: t)
theorem sp__law_plant : ∀ ds R, G__law_plant ds R → gOf 2 8 (W__law_plant G__law_draw) ds R := by
  rintro _ R ⟨n, x, m, rfl, hx, hn, hm1, hm2, h⟩
  refine ⟨rfl, ?_⟩
  refine seq_to (fun ρ => ∃ x' a b, srcO (n + 2) x' ∧ (1 ≤ a ∧ a ≤ m) ∧ (1 ≤ b ∧ b ≤ m) ∧ ρ = [.lf x', .fz (.int (m : Nat)), .fz (.list (nI [a, b, m])), .hid, .hid, .hid, .hid, .hid]) (fun N hN => ?_) fun ρ ⟨x1, a, b, hx1, ha, hb, hρ⟩ => ?_
  · simp [G__law_draw, and_assoc]
    refine ⟨n, hx, by omega, by omega, by omega, fun r x1 hr0 hr1 hx1 => ⟨n + 1, hx1, by omega, by omega, by omega, fun q x2 hq0 hq1 hx2 => ⟨by decide, hN _ ⟨x2, 1 + r.toNat, 1 + q.toNat, hx2, by omega, by omega, ?_⟩⟩⟩⟩
    have e1 : ((1 + r.toNat : Nat) : Int) = 1 + r := by omega
    have e2 : ((1 + q.toNat : Nat) : Int) = 1 + q := by omega
    simp only [nI, List.map_cons, List.map_nil, e1, e2]
  subst hρ
  refine seq_to (fun ρ => ∃ x' many w, srcO (n + 4) x' ∧ 1 ≤ many ∧ many ≤ m ∧ 0 ≤ w ∧ w < 4 ∧ ρ = [.lf x', .fz (.int (m : Nat)), .fz (.list (nI [a, b, m])), .fz (.int (many : Nat)), .fz (.int w), .lf [], .hid, .hid]) (fun N hN => ?_) fun ρ ⟨x2, many, w, hx2, hm3, hm4, hw0, hw1, hρ⟩ => ?_
  · simp [G__law_draw, and_assoc]
    refine ⟨n + 2, hx1, by omega, fun r x1 hr0 hr1 hx1 => ?_⟩
    obtain ⟨c, hc, e⟩ : ∃ c : Nat, (1 ≤ c ∧ c ≤ m) ∧ atI (nI [a, b, m]) r = some (.int (c : Nat)) := by
      have three : r = 0 ∨ r = 1 ∨ r = 2 := by omega
      rcases three with rfl | rfl | rfl
      · exact ⟨a, ha, rfl⟩
      · exact ⟨b, hb, rfl⟩
      · exact ⟨m, by omega, rfl⟩
    exact ⟨_, e, n + 3, hx1, by omega, fun q x2 hq0 hq1 hx2 => hN _ ⟨x2, c, q, hx2, hc.1, hc.2, hq0, hq1, rfl⟩⟩
  subst hρ
  refine seq_to (fun ρ => ∃ x' p v_index v_near, srcO (n + 1000) x' ∧ PlantOk p ∧ p.length + 1 = many ∧ ρ = [.lf x', .fz (.int (m : Nat)), .fz (.list (nI [a, b, m])), .fz (.int (many : Nat)), .fz (.int w), .lf (nI p), v_index, v_near]) (fun N hN => ?_) fun ρ ⟨x3, p, v_index, v_near, hx3, hp, hl, hρ⟩ => ?_
  · simp
    refine ⟨⟨by omega, by omega⟩, ?_⟩
    refine for_go _ (fun i ρ => ∃ x3 p v_index v_near, ρ = [.lf x3, .fz (.int (m : Nat)), .fz (.list (nI [a, b, m])), .fz (.int (many : Nat)), .fz (.int w), .lf (nI p), v_index, v_near] ∧ srcO (n + 4 + 2 * i) x3 ∧ p.length = i ∧ ∀ (j y : Nat), p[j]? = some y → y ≤ j) _ (fun i d e ρ ⟨x3, p, v_index, v_near, hρ, hb3, hl, hp⟩ N2 hN2 => ?_) ⟨x2, [], _, _, rfl, hx2, rfl, fun j y e => by simp at e⟩ fun ρ ⟨x3, p, v_index, v_near, hρ, hb3, hl, hp⟩ => ?_
    · obtain ⟨hi, rfl⟩ := rangeL_at e
      subst hρ
      simp [G__law_draw, and_assoc]
      refine ⟨n + 4 + 2 * i, hb3, by omega, fun r x4 hr0 hr1 hx4 => ⟨n + 4 + 2 * i + 1, hx4, by omega, by omega, fun q x5 hq0 hq1 hx5 => ⟨by decide, ?_⟩⟩⟩
      have low : ∃ y : Nat, y ≤ i ∧ atI [PyData.int (i : Int), PyData.int 0, PyData.int q, PyData.int ((i : Int) - min (i : Int) r)] w = some (.int (y : Nat)) := by
        have four : w = 0 ∨ w = 1 ∨ w = 2 ∨ w = 3 := by omega
        rcases four with rfl | rfl | rfl | rfl
        · exact ⟨i, by omega, rfl⟩
        · exact ⟨0, by omega, rfl⟩
        · refine ⟨q.toNat, by omega, ?_⟩
          rw [Int.toNat_of_nonneg hq0]
          rfl
        · refine ⟨((i : Int) - min (i : Int) r).toNat, by omega, ?_⟩
          rw [Int.toNat_of_nonneg (by omega)]
          rfl
      obtain ⟨y, hy, ey⟩ := low
      refine ⟨_, ey, ⟨by unfold szMax; omega, hN2 _ ⟨x5, p ++ [y], _, _, by simp [nI_append, nI]; exact ⟨rfl, rfl⟩, hx5.mono (by omega), by simp [hl], fun j z ez => ?_⟩⟩⟩
      by_cases hj : j < p.length
      · rw [List.getElem?_append_left hj] at ez
        exact hp j z ez
      · rw [List.getElem?_append_right (by omega)] at ez
        have z1 := (List.getElem?_eq_some_iff.mp ez).1
        have e2 : j - p.length = 0 := by simp at z1; omega
        rw [e2] at ez
        cases ez
        omega
    · subst hρ
      simp at hl hb3
      exact hN _ ⟨x3, p, _, _, hb3.mono (by omega), ⟨by omega, hp⟩, by omega, rfl⟩
  subst hρ
  simp
  exact h p x3 hp (by omega) hx3 _
def Asc (n : Nat) (bs : List Int) : Prop := bs.length = n ∧ bs.Pairwise (· < ·) ∧ ∀ x ∈ bs, x.natAbs < 2 ^ 130
def G__law_numbers : WF := fun ds R => ∃ n x m, ds = [.lf x, .fz (.int (m : Nat))] ∧ srcO n x ∧ n ≤ 90000000 ∧ m ≤ 100 ∧ ∀ bs x', Asc m bs → srcO (n + 1000) x' → ∀ t, R (.lf (bs.map PyData.int)) (.lf x' :: t)
theorem sp__law_numbers : ∀ ds R, G__law_numbers ds R → gOf 2 6 (W__law_numbers G__law_draw) ds R := by
  rintro _ R ⟨n, x, m, rfl, hx, hn, hm, h⟩
  refine ⟨rfl, ?_⟩
  refine seq_to (fun ρ => ∃ x' w, srcO (n + 1) x' ∧ 0 ≤ w ∧ w < 4 ∧ ρ = [.lf x', .fz (.int (m : Nat)), .fz (.int w), .hid, .hid, .hid]) (fun N hN => ?_) fun ρ ⟨x1, w, hx1, hw0, hw1, hρ⟩ => ?_
  · simp [G__law_draw, and_assoc]
    exact ⟨n, hx, by omega, fun r x1 hr0 hr1 hx1 => hN _ ⟨x1, r, hx1, hr0, hr1, rfl⟩⟩
  subst hρ
  refine seq_to (fun ρ => ∃ c : Int, -(10 ^ 36) ≤ c ∧ c ≤ 10 ^ 36 ∧ ρ = [.lf x1, .fz (.int (m : Nat)), .fz (.int w), .lf [], .fz (.int c), .hid]) (fun N hN => ?_) fun ρ ⟨c, hc0, hc1, hρ⟩ => ?_
  · simp
    refine ⟨by unfold CPowA; decide, by unfold CPowA; decide, by decide, ?_⟩
    have four : w = 0 ∨ w = 1 ∨ w = 2 ∨ w = 3 := by omega
    rcases four with rfl | rfl | rfl | rfl
    · exact ⟨_, rfl, hN _ ⟨_, by decide, by decide, rfl⟩⟩
    · exact ⟨_, rfl, hN _ ⟨_, by decide, by decide, rfl⟩⟩
    · exact ⟨_, rfl, hN _ ⟨_, by decide, by decide, rfl⟩⟩
    · exact ⟨_, rfl, hN _ ⟨_, by decide, by decide, rfl⟩⟩
  subst hρ
  refine seq_to (fun ρ => ∃ x' bs v_last v_turn, Asc m bs ∧ srcO (n + 1000) x' ∧ ρ = [.lf x', .fz (.int (m : Nat)), .fz (.int w), .lf (bs.map PyData.int), v_last, v_turn]) (fun N hN => ?_) fun ρ ⟨x2, bs, v_last, v_turn, hbs, hx2, hρ⟩ => ?_
  · simp
    refine ⟨⟨by omega, by omega⟩, ?_⟩
    refine for_go _ (fun i ρ => ∃ (x' : List PyData) (bs : List Int) (c : Int) (v_turn : O), ρ = [.lf x', .fz (.int (m : Nat)), .fz (.int w), .lf (bs.map PyData.int), .fz (.int c), v_turn] ∧ srcO (n + 1 + i) x' ∧ bs.length = i ∧ bs.Pairwise (· < ·) ∧ (∀ y ∈ bs, -(10 ^ 36) ≤ y ∧ y ≤ c) ∧ -(10 ^ 36) ≤ c ∧ c ≤ 10 ^ 36 + i * (10 ^ 30 + 1)) _ (fun i d e ρ ⟨x', bs, c, v_turn, hρ, hx', hl, hpw, hlt, hc0, hc1⟩ N2 hN2 => ?_) ⟨x1, [], c, _, rfl, hx1, rfl, List.Pairwise.nil, fun y hy => (nomatch hy), hc0, by omega⟩ fun ρ ⟨x', bs, c, v_turn, hρ, hx', hl, hpw, hlt, hc0, hc1⟩ => ?_
    · obtain ⟨hi, rfl⟩ := rangeL_at e
      subst hρ
      obtain ⟨z, hz0, hz1, ez⟩ : ∃ z : Int, 0 < z ∧ z ≤ 10 ^ 30 ∧ atI [PyData.int 1, PyData.int 9, PyData.int 3, PyData.int (10 ^ 30)] w = some (.int z) := by
        have four : w = 0 ∨ w = 1 ∨ w = 2 ∨ w = 3 := by omega
        rcases four with rfl | rfl | rfl | rfl
        · exact ⟨_, by decide, by decide, rfl⟩
        · exact ⟨_, by decide, by decide, rfl⟩
        · exact ⟨_, by decide, by decide, rfl⟩
        · exact ⟨_, by decide, by decide, rfl⟩
      simp [G__law_draw, and_assoc]
      refine ⟨by unfold CPowA; decide, by decide, _, by simpa using ez, n + 1 + i, _, rfl, hx', by omega, hz0, by omega, fun r x4 hr0 hr1 hx4 => ⟨by unfold szMax; omega, hN2 _ ⟨x4, bs ++ [c + 1 + r], c + 1 + r, .fz (.int (i : Nat)), by simp, hx4, by simp [hl], ?_, fun y hy => ?_, by omega, ?_⟩⟩⟩
      · rw [List.pairwise_append]
        refine ⟨hpw, List.pairwise_singleton .., fun a ha b hb => ?_⟩
        have := hlt a ha
        rw [List.mem_singleton.mp hb]
        omega
      · rcases List.mem_append.mp hy with z | z
        · have := hlt y z
          omega
        · rw [List.mem_singleton.mp z]
          omega
      · push_cast
        omega
    · subst hρ
      have hl2 : bs.length = m := by simpa using hl
      have hsz : (rangeL 0 (m : Int).toNat).length ≤ 100 := by simp; omega
      refine hN _ ⟨x', bs, _, _, ⟨hl2, hpw, fun y hy => ?_⟩, hx'.mono (by omega), rfl⟩
      have h1 := hlt y hy
      have h2 : c ≤ 10 ^ 36 + 100 * (10 ^ 30 + 1) := by omega
      omega
  subst hρ
  simp
  exact h bs x2 hbs hx2 _
def pl (l : List Nat) (bs : List Int) : List (Key × PyData) := (l.zip bs).map fun q => ((Sum.inl (q.1 : Nat) : Key), PyData.int q.2)
theorem zip_snoc {b : Nat} {x : Int} : ∀ {l : List Nat} {bs : List Int}, bs[l.length]? = some x → (l ++ [b]).zip bs = l.zip bs ++ [(b, x)]
  | [], [], h => by cases h
  | [], y :: bs, h => by
    cases h
    simp
  | a :: l, [], h => by simp at h
  | a :: l, y :: bs, h => by
    have := zip_snoc (b := b) (l := l) (bs := bs) (by simpa using h)
    simp [this]
theorem pl_snoc {b : Nat} {x : Int} {l : List Nat} {bs : List Int} (h : bs[l.length]? = some x) : pl (l ++ [b]) bs = pl l bs ++ [((Sum.inl (b : Nat) : Key), PyData.int x)] := by
  unfold pl
  rw [zip_snoc h, List.map_append]
  rfl
theorem pl_get {v : Nat} : ∀ {l : List Nat} {bs : List Int}, v ∈ l → l.length ≤ bs.length → getK (pl l bs) (.inl (v : Nat)) = some (.int (bs.getD (l.idxOf v) 0))
  | [], _, h, _ => (List.not_mem_nil h).elim
  | a :: l, [], _, h => by simp at h
  | a :: l, y :: bs, h, hl => by
    by_cases e : a = v
    · subst e
      simp [pl, getK]
    · have hx : v ∈ l := by
        rcases List.mem_cons.mp h with z | z
        · exact (e z.symm).elim
        · exact z
      have := pl_get (bs := bs) hx (by simpa using hl)
      unfold pl getK at this ⊢
      rw [List.zip_cons_cons, List.map_cons, List.find?_cons_of_neg (by simp; omega), this, List.idxOf_cons, beq_false_of_ne e]
      simp
theorem nI_erase : ∀ (l : List Nat) (j : Nat), (nI l).eraseIdx j = nI (l.eraseIdx j)
  | [], _ => rfl
  | a :: l, 0 => rfl
  | a :: l, j + 1 => by
    show PyData.int (a : Nat) :: (nI l).eraseIdx j = _
    rw [nI_erase l j]
    rfl
theorem Asc.at {n : Nat} {bs : List Int} (h : Asc n bs) : bs.length = n := h.1
theorem fill_len {p l R : List Nat} (f : Fill p l R) : l.length + R.length ≤ 2 * (p.length + 1) := by
  have h1 := f.cnt
  have h2 : R.length ≤ p.length + 1 := by
    refine Nat.le_of_not_lt fun z => ?_
    have := (nat_sub_perm (r := List.range (p.length + 1)) f.ac.nd (fun x hx => List.mem_range.mpr (by have := f.ac.le x hx; omega)) (by simp; omega)).length_eq
    simp at this
    omega
  omega
def G__law_calm : WF := fun ds R => ∃ n x p, ds = [.lf x, .fz (tupN p)] ∧ srcO n x ∧ n ≤ 80000000 ∧ PlantOk p ∧ ∀ s x', SOk p.length 130 s → Ord p s → srcO (n + 2000) x' → ∀ t, R (.fz (tupI s)) (.lf x' :: t)
theorem sp__law_calm : ∀ ds R, G__law_calm ds R → gOf 2 8 (W__law_calm G__law_draw G__law_numbers) ds R := by
  rintro _ R ⟨n, x, p, rfl, hx, hn, hp, h⟩
  refine ⟨rfl, ?_⟩
  have hpl := hp.1
  refine seq_to (fun ρ => ρ = [.lf x, .fz (tupN p), .df [], .lf (nI [0]), .hid, .hid, .hid, .hid]) (fun N hN => ?_) fun ρ hρ => ?_
  · simp
    exact ⟨by decide, by decide, hN _ rfl⟩
  subst hρ
  refine seq_to (fun ρ => ∃ x' l r bs v_box v_station v_index v_upper, srcO (n + 2000) x' ∧ Fill p l r ∧ l.length = p.length + 1 ∧ Asc (p.length + 1) bs ∧ ρ = [.lf x', .fz (tupN p), .df (pl l bs), .lf (nI r), v_box, v_station, v_index, v_upper]) (fun N hN => ?_) fun ρ ⟨x1, l, r, bs, v_box, v_station, v_index, v_upper, hx1, hf, hl, hbs, hρ⟩ => ?_
  · simp [G__law_numbers, and_assoc, tupN]
    refine ⟨n, p.length + 1, by omega, hx, by omega, by omega, fun bs x1 hbs hx1 => ?_⟩
    refine for_go _ (fun i ρ => ∃ x' l r v_box v_station v_index v_upper, srcO (n + 1000 + i) x' ∧ Fill p l r ∧ l.length = i ∧ ρ = [.lf x', .fz (tupN p), .df (pl l bs), .lf (nI r), v_box, v_station, v_index, v_upper]) _ (fun i d e ρ ⟨x', l, r, v_box, v_station, v_index, v_upper, hx', hf, hl, hρ⟩ N2 hN2 => ?_) ⟨x1, [], [0], _, _, _, _, hx1, Fill.start hp, rfl, rfl⟩ fun ρ ⟨x', l, r, v_box, v_station, v_index, v_upper, hx', hf, hl, hρ⟩ => ?_
    · rw [List.getElem?_map] at e
      cases eq : bs[i]? with
      | none => rw [eq] at e; cases e
      | some b0 =>
        rw [eq] at e
        cases e
        subst hρ
        have hi := (List.getElem?_eq_some_iff.mp eq).1
        rw [hbs.1] at hi
        have hr : r ≠ [] := hf.more hp (by omega)
        have hr0 : 0 < r.length := List.length_pos_iff.mpr hr
        have hfl := fill_len hf
        simp [G__law_draw, and_assoc, tupN]
        refine ⟨n + 1000 + i, hx', by omega, by omega, by omega, fun q x2 hq0 hq1 hx2 => ?_⟩
        have eb : r[q.toNat]? = some r[q.toNat] := List.getElem?_eq_getElem (by omega)
        have hb : r[q.toNat] ∈ r := List.getElem_mem ..
        generalize r[q.toNat] = b at eb hb
        have hbl := hf.ac.le b hb
        refine ⟨by omega, by omega, _, ⟨b, eb, rfl⟩, .inl (b : Nat), rfl, ?_, fun a d hkv => ?_, by unfold szMax; omega, ?_⟩
        · simp [pl]
          unfold szMax
          omega
        · obtain ⟨q', hq', e2⟩ := List.mem_map.mp hkv
          cases e2
          intro z
          have z2 : q'.1 = b := by simp at z; omega
          have := (List.of_mem_zip (show (q'.1, q'.2) ∈ _ from hq')).1
          rw [z2] at this
          exact hf.new hp hb this
        · refine lc_go _ (fun i acc ρ => ∃ v_index v_upper, ρ = [.lf x2, .fz (tupN p), .df (pl l bs ++ [((Sum.inl (b : Nat) : Key), PyData.int b0)]), .lf ((nI r).eraseIdx q.toNat), .fz (.int b0), .fz (.int (b : Nat)), v_index, v_upper] ∧ acc = (nI (under p i b)).map O.fz) _ _ (fun i d e acc ρ ⟨v_index, v_upper, hρ, ha⟩ K1 K0 k1 k0 => ?_) ⟨_, _, rfl, rfl⟩ fun acc ρ ⟨v_index, v_upper, hρ, ha⟩ => ?_
          · obtain ⟨y, ey, rfl⟩ := enumL_at e
            rw [nI_get] at ey
            cases eq2 : p[i]? with
            | none => rw [eq2] at ey; cases ey
            | some u =>
              rw [eq2] at ey
              cases ey
              subst hρ
              simp
              refine br_mk (fun hz => ?_) fun hz => ?_
              · have hz2 : u = b := by simp at hz; omega
                refine k1 _ _ ⟨_, _, rfl, ?_⟩
                rw [ha, under_succ, eq2]
                simp [nI_append, nI, hz2]
              · have hz2 : u ≠ b := by simp at hz; omega
                refine k0 _ ⟨_, _, rfl, ?_⟩
                rw [ha, under_succ, eq2]
                simp [nI_append, hz2]
          · subst hρ ha
            rw [x_toLf2]
            simp
            have hst := hf.step hp hb
            have hfl2 := fill_len hst
            rw [nI_erase]
            refine ⟨_, rfl, ?_, hN2 _ ⟨x2, l ++ [b], r.erase b ++ kids p b, .fz (.int b0), .fz (.int (b : Nat)), .hid, .hid, by simpa [Nat.add_assoc] using hx2, hst, by simp [hl], ?_⟩⟩
            · rw [erase_at hf.ac.nd eb]
              simp at hfl2
              simp [kids] at hfl2 ⊢
              unfold szMax
              omega
            · rw [pl_snoc (by rw [hl]; exact eq), erase_at hf.ac.nd eb, nI_append]
              simp [tupN, kids]
    · subst hρ
      have hl2 : l.length = p.length + 1 := by simpa [hbs.1] using hl
      simp [hbs.1] at hx'
      exact hN _ ⟨x', l, r, bs, _, _, _, _, hx'.mono (by omega), hf, hl2, hbs, rfl⟩
  subst hρ
  simp [tupN]
  have hsl := stockOf_len p l bs
  have hpm := hf.perm hl
  refine ⟨⟨by omega, by omega⟩, by unfold szMax; omega, ?_⟩
  refine lc_eq ((stockOf p l bs).map PyData.int) (fun ρ => ∃ v_station, ρ = [.lf x1, .fz (tupN p), .df (pl l bs), .lf (nI r), v_box, v_station, v_index, v_upper]) (by simp [hsl]) (fun i d y e ey ρ ⟨v_station, hρ⟩ K1 K0 k1 => ?_) ⟨_, rfl⟩ fun ρ ⟨v_station, hρ⟩ => ?_
  · obtain ⟨hi, rfl⟩ := rangeL_at e
    subst hρ
    have hi : i ≤ p.length := by omega
    rw [List.getElem?_map, bx_get (by omega)] at ey
    cases ey
    rw [stockOf_bx hi] at k1
    simp
    exact ⟨_, pl_get (hpm.mem_iff.mpr (List.mem_range.mpr (by omega))) (by rw [hbs.1, hl]; omega), k1 _ ⟨_, rfl⟩⟩
  · subst hρ
    rw [x_toLf2]
    simp
    exact h _ x1 ⟨hsl, (stockOf_inj hpm hbs.2.1 hbs.1).2, fun y hy => hbs.2.2 y (stockOf_mem hpm hbs.1 y hy)⟩ (hf.stock hp hl hbs.2.1 hbs.1) hx1 _
def G__law_way : WF := fun ds R => ∃ p s, ds = [.fz (tupN p), .fz (.int (s : Nat))] ∧ PlantOk p ∧ s ≤ p.length ∧ ∀ ρ, R (.lf (nI (way p s))) ρ
theorem sp__law_way : ∀ ds R, G__law_way ds R → gOf 2 3 W__law_way ds R := by
  rintro _ R ⟨p, s, rfl, hp, hs, h⟩
  refine ⟨rfl, ?_⟩
  have hl := hp.1
  simp [W__law_way]
  refine ⟨by decide, ?_⟩
  refine while_at (fun m ρ => ∃ l x, ρ = [.fz (tupN p), .fz (.int (s : Nat)), .lf (nI (l ++ [x]))] ∧ x ≤ p.length ∧ l ++ way p x = way p s ∧ m + 1 = (way p x).length) ((way p s).length - 1) _ (fun m ρ ⟨l, x, e, hx, hw, hm⟩ N hN => ?_) ⟨[], s, rfl, hs, rfl, ?_⟩
  · subst e
    simp
    refine ⟨.int (x : Nat), by rw [nI_append]; exact at_last, ?_⟩
    cases x with
    | zero =>
      simp
      have : l ++ [0] = way p s := hw
      rw [this]
      exact h _
    | succ x =>
      have ex : p[x]? = some p[x] := List.getElem?_eq_getElem (by omega)
      have hle := hp.le (i := x) (by omega)
      have e1 : (0 : Int) < ((x + 1 : Nat) : Int) := by omega
      rw [way_succ hp ex] at hw hm
      have hwl := way_len hp s
      have hl2 := congrArg List.length hw
      simp at hl2 hm
      simp [e1]
      refine ⟨.int ((x + 1 : Nat) : Int), by rw [nI_append]; exact at_last, ?_⟩
      simp [tupN]
      refine ⟨.int (p[x] : Nat), at_int (i := x) (by omega) (by simp [ex]), ?_⟩
      refine ⟨by unfold szMax; omega, hN ((way p p[x]).length - 1) _ (by have := List.length_pos_of_mem (way_self hp (show p[x] ≤ p.length by omega)); omega) ⟨l ++ [x + 1], p[x], ?_, by omega, by rw [← hw]; simp, by have := List.length_pos_of_mem (way_self hp (show p[x] ≤ p.length by omega)); omega⟩⟩
      simp [nI_append, tupN]
  · have := List.length_pos_of_mem (way_self hp hs)
    omega
def G__law_letters : WF := fun ds R => ∃ p s, ds = [.fz (tupN p), .fz (tupI s)] ∧ PlantOk p ∧ Inj p.length s ∧ ∀ ρ, R (.lf ((List.range (p.length + 1)).map fun v => .list (nI (W p s v)))) ρ
theorem cut_tail {α : Type} : ∀ xs : List α, cutP xs (some 1) none = xs.tail := fun xs => by
  unfold cutP HT.sIx
  cases xs with
  | nil => rfl
  | cons a l =>
    simp
theorem idx_first {v : Nat} : ∀ {l : List Nat} {m : Nat}, m < l.idxOf v → l[m]? ≠ some v
  | [], m, h => by simp
  | a :: l, m, h => by
    rw [List.idxOf_cons] at h
    by_cases e : a = v
    · subst e
      simp at h
    · rw [beq_false_of_ne e] at h
      cases m with
      | zero => simp [e]
      | succ m => exact idx_first (l := l) (by simp at h; omega)
theorem x_indexN {x : O} {v : Nat} {k : O → Prop} (l : List Nat) (hv : vL x = some (nI l)) (hm : v ∈ l) (h : k (.fz (.int (l.idxOf v : Nat)))) : oIndexL [x, .fz (.int (v : Nat))] k := by
  have hi := List.idxOf_lt_length_iff.mpr hm
  refine ⟨nI l, l.idxOf v, .int (v : Nat), hv, rfl, nI_flat l, ?_, by simp [PyData.eqv], fun m z' hm' hz => ?_, h⟩
  · rw [nI_get, List.getElem?_eq_getElem hi, List.getElem_idxOf hi]
    rfl
  · rw [nI_get] at hz
    cases eq : l[m]? with
    | none => rw [eq] at hz; cases hz
    | some c =>
      rw [eq] at hz
      cases hz
      show decide (((c : Nat) : Int) = ((v : Nat) : Int)) = false
      refine decide_eq_false fun e => ?_
      have e : c = v := by omega
      subst e
      exact idx_first hm' eq
theorem nI_tail (l : List Nat) : (nI l).tail = nI l.tail := by cases l <;> rfl
theorem sp__law_letters : ∀ ds R, G__law_letters ds R → gOf 2 8 (W__law_letters G__law_way) ds R := by
  rintro _ R ⟨p, s, rfl, hp, hs, h⟩
  refine ⟨rfl, ?_⟩
  have hpl := hp.1
  have hsl := hs.1
  have hord := ordL_ok hs
  refine seq_to (fun ρ => ρ = [.fz (tupN p), .fz (tupI s), .lf [], .hid, .hid, .hid, .hid, .hid]) (fun N hN => ?_) fun ρ hρ => ?_
  · simp
    exact hN _ rfl
  subst hρ
  refine seq_to (fun ρ => ∃ v_station v_row v_box v_other v_way, ρ = [.fz (tupN p), .fz (tupI s), .lf ((List.range (p.length + 1)).map fun v => .list (nI (W p s v))), v_station, v_row, v_box, v_other, v_way]) (fun N hN => ?_) fun ρ ⟨v_station, v_row, v_box, v_other, v_way, hρ⟩ => ?_
  · simp [tupI]
    refine ⟨⟨by omega, by omega⟩, ?_⟩
    refine for_go _ (fun i ρ => ∃ v_station v_row v_box v_other v_way, ρ = [.fz (tupN p), .fz (tupI s), .lf ((List.range i).map fun v => .list (nI (W p s v))), v_station, v_row, v_box, v_other, v_way]) _ (fun i d e ρ ⟨v_station, v_row, v_box, v_other, v_way, hρ⟩ N2 hN2 => ?_) ⟨_, _, _, _, _, rfl⟩ fun ρ ⟨v_station, v_row, v_box, v_other, v_way, hρ⟩ => ?_
    · obtain ⟨hi, rfl⟩ := rangeL_at e
      subst hρ
      simp [tupI]
      refine ⟨by unfold szMax; omega, ?_⟩
      refine lc_eq ((List.range (p.length + 1)).map (pBx s)) (fun ρ => ∃ v_box v_other, ρ = [.fz (tupN p), .fz (tupI s), .lf ((List.range i).map fun v => .list (nI (W p s v))), .fz (.int (i : Nat)), .lf [], v_box, v_other, v_way]) (by simp [enumL, hsl]) (fun j d y e ey ρ ⟨v_box, v_other, hρ⟩ K1 K0 k1 => ?_) ⟨_, _, rfl⟩ fun ρ ⟨v_box, v_other, hρ⟩ => ?_
      · obtain ⟨y2, ey2, rfl⟩ := enumL_at e
        have hj := (List.getElem?_eq_some_iff.mp ey2).1
        simp at hj
        rw [List.getElem?_map, bx_get (by omega)] at ey2
        cases ey2
        rw [List.getElem?_map, List.getElem?_range (by omega)] at ey
        cases ey
        subst hρ
        simp
        exact ⟨by decide, k1 _ ⟨_, _, rfl⟩⟩
      · subst hρ
        rw [x_toLf2]
        refine x_sortP hs rfl ?_
        simp
        refine for_go _ (fun j ρ => ∃ v_box v_other v_way, ρ = [.fz (tupN p), .fz (tupI s), .lf ((List.range i).map fun v => .list (nI (W p s v))), .fz (.int (i : Nat)), .lf (nI (wd p ((ordL p s).take j) i)), v_box, v_other, v_way]) _ (fun j d e ρ ⟨v_box, v_other, v_way, hρ⟩ N3 hN3 => ?_) ⟨_, _, _, rfl⟩ fun ρ ⟨v_box, v_other, v_way, hρ⟩ => ?_
        · rw [List.getElem?_map] at e
          cases eq : (ordL p s)[j]? with
          | none => rw [eq] at e; cases e
          | some w =>
            rw [eq] at e
            cases e
            have hw : w ≤ p.length := hord.le (List.mem_of_getElem? eq)
            subst hρ
            simp [pBx, pI, G__law_way, and_assoc]
            refine ⟨p, rfl, w, rfl, hp, hw, ?_⟩
            obtain ⟨hin, hout⟩ := childTo_way hp i w hw
            have hwl := way_len hp w
            rw [x_in3]
            refine ⟨rfl, by rw [cut_tail, nI_tail]; exact nI_flat _, ?_⟩
            rw [cut_tail, nI_tail, inD_nI]
            simp
            have htk : (ordL p s).take (j + 1) = (ordL p s).take j ++ [w] := by rw [List.take_add_one, eq]; rfl
            refine br_mk (fun hz => ?_) fun hz => ?_
            · have hz : i ∈ (way p w).tail := by simpa using hz
              obtain ⟨c, h1, h2, h3⟩ := hin hz
              refine x_indexN (way p w) rfl (List.mem_of_mem_tail hz) ?_
              have e1 : (((way p w).idxOf i : Nat) : Int) - 1 = (((way p w).idxOf i - 1 : Nat) : Int) := by omega
              rw [x_oSub, e1]
              refine ⟨.int (c : Nat), at_nat (by rw [nI_get, h3]; rfl), ?_⟩
              simp
              refine ⟨?_, hN3 _ ⟨.fz (.int (bx s w)), .fz (.int (w : Nat)), .fz (.list (nI (way p w))), ?_⟩⟩
              · have q1 : (wd p ((ordL p s).take j) i).length ≤ ((ordL p s).take j).length := List.length_filterMap_le ..
                have q2 : ((ordL p s).take j).length ≤ p.length + 1 := by
                  rw [List.length_take, hord.1.length_eq, List.length_range]
                  omega
                unfold szMax
                omega
              · rw [htk]
                have : wd p ((ordL p s).take j ++ [w]) i = wd p ((ordL p s).take j) i ++ [c] := by
                  unfold wd
                  rw [List.filterMap_append]
                  simp [List.filterMap, h1]
                rw [this]
                simp [nI_append, nI]
            · have hz : i ∉ (way p w).tail := by simpa using hz
              refine hN3 _ ⟨.fz (.int (bx s w)), .fz (.int (w : Nat)), .fz (.list (nI (way p w))), ?_⟩
              rw [htk]
              have : wd p ((ordL p s).take j ++ [w]) i = wd p ((ordL p s).take j) i := by
                unfold wd
                rw [List.filterMap_append]
                simp [List.filterMap, hout hz]
              rw [this]
        · subst hρ
          have htk : (ordL p s).take ((ordL p s).map (pBx s)).length = ordL p s := by rw [List.length_map, List.take_length]
          rw [htk]
          simp
          refine ⟨?_, hN2 _ ⟨.fz (.int (i : Nat)), .hid, v_box, v_other, v_way, ?_⟩⟩
          · unfold szMax
            omega
          · rw [List.range_succ, List.map_append]
            rfl
    · subst hρ
      have el : (rangeL 0 s.length).length = p.length + 1 := by simp [hsl]
      rw [el]
      exact hN _ ⟨_, _, _, _, _, rfl⟩
  subst hρ
  simp
  exact h _
end FB
namespace L2
open PySem PySem.Spec PyProof.Rows
section
variable {X : Cx}
end
end L2
namespace Pt
open PySem PySem.Spec PyProof.Rows L2
def oMulS : List O → (O → Prop) → Prop
  | [.fz (.tuple ds), .fz (.int k)], R => ds ≠ [] ∧ ((k = 1 ∧ R (.fz (.tuple ds))) ∨ (k = 0 ∧ R (.fz (.tuple []))))
  | _, _ => False
@[simp] theorem x_oMulS {ds : List PyData} {a : Int} {k : O → Prop} : oMulS [.fz (.tuple ds), .fz (.int a)] k = (ds ≠ [] ∧ ((a = 1 ∧ k (.fz (.tuple ds))) ∨ (a = 0 ∧ k (.fz (.tuple []))))) := rfl
end Pt
namespace L2
open PySem PySem.Spec PyProof.Rows
section
variable {P : Program} {w : World} {A : Around} {E : Value → Shared → Prop} {s : Shared}
end
end L2
namespace Pt
open PySem PySem.Spec L2 PyProof.Rows
section
variable {X : Cx}
end
def wSortSet (w : WE) : WE := fun ρ R => w ρ fun d ρ1 => ∃ ns : List Int, vL d = some (ns.map PyData.int) ∧ ns.length < 64 ∧ ∀ out : List Int, out.Pairwise (· < ·) → (∀ k, k ∈ out ↔ k ∈ ns) → R (.lf (out.map PyData.int)) ρ1
section
variable {K : PySem.W.Frag} {Z : Ent}
end
@[simp] theorem x_wSortSet {w : WE} {ρ : En} {R : O → En → Prop} : wSortSet w ρ R = w ρ fun d ρ1 => ∃ ns : List Int, vL d = some (ns.map PyData.int) ∧ ns.length < 64 ∧ ∀ out : List Int, out.Pairwise (· < ·) → (∀ k, k ∈ out ↔ k ∈ ns) → R (.lf (out.map PyData.int)) ρ1 := rfl
end Pt
namespace Pt
open PySem PySem.Spec PyProof.Rows L2
def asFq : O → (PyData → Prop) → Prop
  | .fz f, k => k f
  | .tn ds, k => k (.tuple ds)
  | _, _ => False
def wVq (i : Nat) : WE := fun ρ R => asFq (nth ρ i) fun f => R (.fz f) ρ
section
variable {X : Cx} {Z : Ent} {pos : Pos}
end
def oLstT : List O → (O → Prop) → Prop
  | [.tn ds], R => R (.ol [.tn ds])
  | _, _ => False
def oIxT : List O → (O → Prop) → Prop
  | [.ol xs, .fz (.int i)], R => ∃ ds, L2.atI xs i = some (.tn ds) ∧ R (.tn ds)
  | _, _ => False
@[simp] theorem x_wVq {i : Nat} {ρ : En} {R : O → En → Prop} : wVq i ρ R = asFq (nth ρ i) fun f => R (.fz f) ρ := rfl
@[simp] theorem x_asFq1 {f : PyData} {k : PyData → Prop} : asFq (.fz f) k = k f := rfl
@[simp] theorem x_asFq2 {ds : List PyData} {k : PyData → Prop} : asFq (.tn ds) k = k (.tuple ds) := rfl
@[simp] theorem x_oLstT {ds : List PyData} {k : O → Prop} : oLstT [.tn ds] k = k (.ol [.tn ds]) := rfl
@[simp] theorem x_oIxT {xs : List O} {i : Int} {k : O → Prop} : oIxT [.ol xs, .fz (.int i)] k = ∃ ds, L2.atI xs i = some (.tn ds) ∧ k (.tn ds) := rfl
section
variable {X : Cx} {Z : Ent} {p pos p2 pos2 : Pos} {a e : Expr} {w : WE}
variable {te : L2.St → Hp → (Int → Int → Hp → Prop) → Prop}
def wTR1N (w : WE) : WE := fun ρ R => w ρ fun d ρ1 => asI d fun n => n ≤ szMax ∧ -1000000000 ≤ n ∧ R (.tn (rangeL 0 n.toNat)) ρ1
@[simp] theorem x_wTR1N {ρ : En} {R : O → En → Prop} : wTR1N w ρ R = w ρ fun d ρ1 => asI d fun n => n ≤ szMax ∧ -1000000000 ≤ n ∧ R (.tn (rangeL 0 n.toNat)) ρ1 := rfl
end
end Pt
namespace Pt
open PySem PySem.Spec L2
section
variable {X : Cx}
end
section
variable {K : PySem.W.Frag}
end
end Pt
namespace Pt
open PySem PySem.Spec L2
section
variable {K : PySem.W.Frag}
def oEqZ : List O → (O → Prop) → Prop
  | [.scr ns, .lf []], R => R (.fz (.bool (decide (ns = []))))
  | _, _ => False
end
@[simp] theorem x_oEqZ {ns : List Int} {k : O → Prop} : oEqZ [.scr ns, .lf []] k = k (.fz (.bool (decide (ns = [])))) := rfl
end Pt
namespace Pt
open PySem PySem.Spec L2
section
variable {K : PySem.W.Frag}
end
end Pt
namespace Pt
open PySem PySem.Spec L2
def oFld (cn f : Str) : List O → (O → Prop) → Prop
  | [.oi c gs], R => c = cn ∧ ∃ d, gs.lookup f = some (.fz d) ∧ R (.fz d)
  | [.fo c gs], R => c = cn ∧ ∃ d, gs.lookup f = some d ∧ R (.fz d)
  | _, _ => False
section
variable {K : PySem.W.Frag} {B H : Hp}
end
section
variable {X : Cx} {Z : Ent}
end
def isOi : O → Bool
  | .oi _ _ => true
  | _ => false
def wMuO (i : Nat) (ws : List WE) (lm : O → List O → (O → O → Prop) → Prop) : WE := fun ρ R => isOi (nth ρ i) = true ∧ wADs (exs ws) ρ fun ds ρ1 => isOi (nth ρ1 i) = true ∧ lm (nth ρ1 i) (fillA (exs ws) ds ρ1) fun x' z => R z (ρ1.set i x')
def putO (f : Str) (d : O) : List (Str × O) → List (Str × O)
  | [] => [(f, d)]
  | (g, x) :: r => if g = f then (g, d) :: r else (g, x) :: putO f d r
def lmSetF (cn f : Str) : O → List O → (O → O → Prop) → Prop
  | .oi c gs, [d], R => c = cn ∧ gs.length < 1000 ∧ R (.oi c (putO f d gs)) (.fz .none)
  | _, _, _ => False
section
variable {K : PySem.W.Frag} {B H : Hp}
end
def sFldS (i : Nat) (cn f : Str) (w : WE) : WS := sDrop (wMuO i [w] (lmSetF cn f))
section
variable {X : Cx} {Z : Ent} {ps : List Nat}
end
section
variable {ρ : En} {R : O → En → Prop} {k : O → Prop}
@[simp] theorem x_oFld {cn f : Str} {gs : List (Str × O)} : oFld cn f [.oi cn gs] k = ∃ d, gs.lookup f = some (.fz d) ∧ k (.fz d) := by simp [oFld]
@[simp] theorem x_wMuO {i : Nat} {ws : List WE} {lm : O → List O → (O → O → Prop) → Prop} : wMuO i ws lm ρ R = (isOi (nth ρ i) = true ∧ wADs (exs ws) ρ fun ds ρ1 => isOi (nth ρ1 i) = true ∧ lm (nth ρ1 i) (fillA (exs ws) ds ρ1) fun x' z => R z (ρ1.set i x')) := rfl
@[simp] theorem x_isOi {cn : Str} {gs : List (Str × O)} : isOi (.oi cn gs) = true := rfl
@[simp] theorem x_lmSetF {cn f : Str} {gs : List (Str × O)} {d : O} {R2 : O → O → Prop} : lmSetF cn f (.oi cn gs) [d] R2 = (gs.length < 1000 ∧ R2 (.oi cn (putO f d gs)) (.fz .none)) := by simp [lmSetF]
@[simp] theorem x_sFldS {i : Nat} {cn f : Str} {w : WE} : sFldS i cn f w = sDrop (wMuO i [w] (lmSetF cn f)) := rfl
end
end Pt
namespace Pt
open PySem PySem.Spec L2 PyProof.Rows
section
variable {X : Cx} {CX : CXT} {k : Nat} {C f : Addr} {fd : FuncData} {ps : List Str} {sp : Sp} {E : L2.St → XK} {o e : Expr} {es : List Expr} {m : Str} {apos pos : Pos} {ta : TE} {t : TA}
end
structure FdMX (P : Program) (w : World) (K : PySem.W.Frag) (mg : Str → Option Value) (base : Heap) (T : List Addr) (A : Around) (cn m : Str) (n : Nat) (ps : List Nat) (g : WFX) : Prop where
  ex : ∃ (C : Addr) (k : Nat) (f : Addr) (fd : FuncData) (qs : List Str), clsA K cn C ∧ FnG P w K mg base (L2N.CX P w) k f fd qs (spX K T mg n ps g) ∧ A.guards = some [] ∧ Room k A ∧ Cls K C ∧ Meth K C m f ∧ Binds K fd qs []
structure FgMX (P : Program) (w : World) (K : PySem.W.Frag) (mg : Str → Option Value) (base : Heap) (T : List Addr) (k : Nat) (cn m : Str) (n : Nat) (ps : List Nat) (g : WFX) : Prop where
  ex : ∃ (C f : Addr) (fd : FuncData) (qs : List Str), clsA K cn C ∧ FnG P w K mg base (L2N.CX P w) k f fd qs (spX K T mg n ps g) ∧ Cls K C ∧ Meth K C m f ∧ Binds K fd qs []
structure FdIX (P : Program) (w : World) (K : PySem.W.Frag) (mg : Str → Option Value) (base : Heap) (T : List Addr) (A : Around) (cn : Str) (n : Nat) (ps : List Nat) (g : WFX) : Prop where
  ex : ∃ (C : Addr) (k : Nat) (f : Addr) (fd : FuncData) (qs : List Str), clsA K cn C ∧ FnG P w K mg base (L2N.CX P w) k f fd qs (spX K T mg n ps g) ∧ A.guards = some [] ∧ Room (k + 1) A ∧ mg cn = some (.ref C) ∧ Mk K C f ∧ Binds K fd qs []
structure FgIX (P : Program) (w : World) (K : PySem.W.Frag) (mg : Str → Option Value) (base : Heap) (T : List Addr) (k : Nat) (cn : Str) (n : Nat) (ps : List Nat) (g : WFX) : Prop where
  ex : ∃ (C f : Addr) (fd : FuncData) (qs : List Str), clsA K cn C ∧ FnG P w K mg base (L2N.CX P w) k f fd qs (spX K T mg n ps g) ∧ mg cn = some (.ref C) ∧ Mk K C f ∧ Binds K fd qs []
abbrev FdM (P : Program) (w : World) (K : PySem.W.Frag) (mg : Str → Option Value) (base : Heap) (T : List Addr) (A : Around) (cn m : Str) (n : Nat) (ps : List Nat) (g : WF) : Prop := FdMX P w K mg base T A cn m n ps (noX g)
abbrev FgM (P : Program) (w : World) (K : PySem.W.Frag) (mg : Str → Option Value) (base : Heap) (T : List Addr) (k : Nat) (cn m : Str) (n : Nat) (ps : List Nat) (g : WF) : Prop := FgMX P w K mg base T k cn m n ps (noX g)
abbrev FgI (P : Program) (w : World) (K : PySem.W.Frag) (mg : Str → Option Value) (base : Heap) (T : List Addr) (k : Nat) (cn : Str) (n : Nat) (ps : List Nat) (g : WF) : Prop := FgIX P w K mg base T k cn n ps (noX g)
section
variable {P : Program} {w : World} {K : PySem.W.Frag} {mg : Str → Option Value} {base : Heap} {T : List Addr} {k j : Nat} {A : Around} {cn m x : Str} {n : Nat} {ps : List Nat}
theorem spX_imp {g g' : WFX} (h : ∀ ds Rx R, g' ds Rx R → g ds Rx R) (vs : List V) (H : Hp) (Q : VK) (E : XK) (q : spX K T mg n ps g' vs H Q E) : spX K T mg n ps g vs H Q E := by
  obtain ⟨hl, B, ds, fp, R, Rx, tb, nt, k, hg, q⟩ := q
  exact ⟨hl, B, ds, fp, R, Rx, tb, nt, k, h ds Rx R hg, q⟩
theorem FgMX.to {g : WFX} (F : FgMX P w K mg base T k cn m n ps g) (hgd : A.guards = some []) (hr : Room j A) (h : k ≤ j) : FdMX P w K mg base T A cn m n ps g := by
  obtain ⟨C, f, fd, qs, a, b, c, d, e⟩ := F.ex
  exact ⟨C, k, f, fd, qs, a, b, hgd, hr.mono h, c, d, e⟩
theorem FgMX.impX {g g' : WFX} (F : FgMX P w K mg base T k cn m n ps g) (h : ∀ ds Rx R, g' ds Rx R → g ds Rx R) : FgMX P w K mg base T k cn m n ps g' := by
  obtain ⟨C, f, fd, qs, a, b, c, d, e⟩ := F.ex
  exact ⟨C, f, fd, qs, a, b.imp (spX_imp h), c, d, e⟩
theorem FgMX.imp {g g' : WF} (F : FgM P w K mg base T k cn m n ps g) (h : ∀ ds R, g' ds R → g ds R) : FgM P w K mg base T k cn m n ps g' := F.impX fun ds _ R => h ds R
theorem FgIX.to {g : WFX} (F : FgIX P w K mg base T k cn n ps g) (hgd : A.guards = some []) (hr : Room j A) (h : k + 1 ≤ j) : FdIX P w K mg base T A cn n ps g := by
  obtain ⟨C, f, fd, qs, a, b, c, d, e⟩ := F.ex
  exact ⟨C, k, f, fd, qs, a, b, hgd, hr.mono h, c, d, e⟩
theorem FgIX.impX {g g' : WFX} (F : FgIX P w K mg base T k cn n ps g) (h : ∀ ds Rx R, g' ds Rx R → g ds Rx R) : FgIX P w K mg base T k cn n ps g' := by
  obtain ⟨C, f, fd, qs, a, b, c, d, e⟩ := F.ex
  exact ⟨C, f, fd, qs, a, b.imp (spX_imp h), c, d, e⟩
theorem FgIX.imp {g g' : WF} (F : FgI P w K mg base T k cn n ps g) (h : ∀ ds R, g' ds R → g ds R) : FgI P w K mg base T k cn n ps g' := F.impX fun ds _ R => h ds R
end
section
variable {K : PySem.W.Frag} {B H : Hp}
theorem keepP_less {ps qs : List Nat} (h : ∀ i, qs.contains i = true → ps.contains i = true) : ∀ {n i : Nat} {vs : List V} {r : List O} {fp : List Addr}, ROs K B H vs (keepP ps i n r) fp → ∃ f2, ROs K B H vs (keepP qs i n r) f2 ∧ (∀ a ∈ f2, a ∈ fp) ∧ (fp.Nodup → f2.Nodup)
  | 0, _, _, _, _, r => ⟨_, r, fun _ h => h, fun h => h⟩
  | n + 1, i, vs, r, fp, q => by
    rw [keepP_cons] at q ⊢
    cases q with
    | @cons v vs _ _ f1 f2 a b =>
      obtain ⟨f3, b1, b2, b3⟩ := keepP_less h b
      by_cases hq : qs.contains i = true
      · rw [if_pos (h i hq)] at a
        rw [if_pos hq]
        refine ⟨f1 ++ f3, .cons a b1, fun x hx => ?_, fun nd => ?_⟩
        · rcases List.mem_append.mp hx with z | z
          · exact List.mem_append_left _ z
          · exact List.mem_append_right _ (b2 x z)
        · obtain ⟨n1, n2, n3⟩ := List.nodup_append.mp nd
          exact List.nodup_append.mpr ⟨n1, b3 n2, fun x hx y hy => n3 x hx y (b2 y hy)⟩
      · rw [if_neg hq]
        exact ⟨[] ++ f3, .cons .hid b1, fun x hx => List.mem_append_right _ (b2 x hx), fun nd => b3 (List.nodup_append.mp nd).2.1⟩
theorem spX_less {T : List Addr} {mg : Str → Option Value} {n : Nat} {ps qs : List Nat} {g : WFX} (h : ∀ i, qs.contains i = true → ps.contains i = true) (vs : List V) (H : Hp) (Q : VK) (E : XK) (q : spX K T mg n qs g vs H Q E) : spX K T mg n ps g vs H Q E := by
  obtain ⟨hl, B, ds, fp, R, Rx, tb, nt, k, hg, q, qx⟩ := q
  have some_ : ∀ (i : Nat) (σ : L2.St), σ = vs.map some → (σ[i]? : Option (Option V)) = some none → False := fun i σ e z => by
    subst e
    rw [List.getElem?_map] at z
    cases q : vs[i]? with
    | none => rw [q] at z; cases z
    | some y => rw [q] at z; cases z
  refine ⟨hl, B, ds, fp, R, Rx, tb, nt, k, hg, fun d ρ hr v H' B' fp' n' k' => ?_, fun x ρ hx cls d H' B' fp' n' k' rx => ?_⟩
  · obtain ⟨f1, f2, rfl, r1, k2, fr⟩ := Ok.frame (τ := [some v]) (xs := [d]) k' rfl
    have r2 := k2.rs
    rw [valsOf_some] at r2
    obtain ⟨f3, a1, a2, a3⟩ := keepP_less h r2
    have k3 : Ok K (ent0 T B H fp tb nt (fun c d _ H => E c d H) mg) B' H' (vs.map some) (keepP qs 0 n ρ) f3 := k2.part (fun i z => (some_ i _ rfl z).elim) (by rw [valsOf_some]; exact a1) (a3 k2.nd) a2
    obtain ⟨k4, n4⟩ := fr (Nxt.self a2) k3
    exact q d ρ hr v H' B' _ (n'.trans n4) k4
  · have r2 := k'.rs
    rw [valsOf_some] at r2
    obtain ⟨f3, a1, a2, a3⟩ := keepP_less h r2
    exact qx x ρ hx cls d H' B' f3 (n'.less a2) (k'.part (fun i z => (some_ i _ rfl z).elim) (by rw [valsOf_some]; exact a1) (a3 k'.nd) a2) rx
end
section
variable {P : Program} {w : World} {K : PySem.W.Frag} {mg : Str → Option Value} {base : Heap} {T : List Addr} {k j : Nat} {A : Around} {cn m x : Str} {n : Nat} {ps qs : List Nat} {g : WFX}
theorem FdX.less (F : FdX P w K mg base T A x n ps g) (h : ∀ i, qs.contains i = true → ps.contains i = true) : FdX P w K mg base T A x n qs g := by
  obtain ⟨k, f, fd, q, a, b⟩ := F.ex
  exact ⟨k, f, fd, q, a.imp (spX_less h), b⟩
theorem FdMX.less (F : FdMX P w K mg base T A cn m n ps g) (h : ∀ i, qs.contains i = true → ps.contains i = true) : FdMX P w K mg base T A cn m n qs g := by
  obtain ⟨C, k, f, fd, q, a, b, c⟩ := F.ex
  exact ⟨C, k, f, fd, q, a, b.imp (spX_less h), c⟩
end
def isCM (cn m : Str) : O → Prop
  | .oi c gs => c = cn ∧ gs.lookup m = none
  | .fo c gs => c = cn ∧ gs.lookup m = none
  | _ => False
def wChk (cn m : Str) (w : WE) : WE := fun ρ R => w ρ fun d ρ1 => isCM cn m d ∧ R d ρ1
def wMethX (a : AD) (cn m : Str) (as : List AD) (g : WFX) (xc : Ex → En → Prop) : WE := match a with
  | .nm i => fun ρ R => isCM cn m (nth ρ i) ∧ wCallX (.nm i :: as) g xc ρ R
  | .ex w => wCallX (.ex (wChk cn m w) :: as) g xc
def wMeth (a : AD) (cn m : Str) (as : List AD) (g : WF) : WE := wMethX a cn m as (noX g) fun _ _ => False
section
variable {K : PySem.W.Frag} {B H : Hp}
end
section
variable {X : Cx} {Z : Ent} {cn m x : Str} {n i : Nat} {ps : List Nat} {g : WFX} {as : List AD} {a : AD} {e : Expr} {es : List Expr} {px apos pos : Pos}
end
section
variable {X : Cx} {Z : Ent} {cn m : Str} {n : Nat} {ps : List Nat} {as : List AD} {a : AD} {o e : Expr} {es : List Expr} {apos pos : Pos}
end
end Pt
namespace Pt
open PySem PySem.Spec L2 PyProof.Rows
section
variable {X : Cx} {CX : CXT} {k : Nat} {C f : Addr} {fd : FuncData} {ps : List Str} {sp : Sp} {E : L2.St → XK} {x : Str} {p pos : Pos} {e : Expr} {es : List Expr} {t : TA}
end
def wMakeX (cn : Str) (as : List AD) (g : WFX) (xc : Ex → En → Prop) : WE := fun ρ R => wADs as ρ fun ds ρ1 => callA as ds ρ1 fun xs ρ2 =>
  g (.oi cn [] :: xs) (fun x ρf => xc x (backA as ρf.tail ρ2)) fun d ρf => d = .fz .none ∧ R (hd0 ρf) (backA as ρf.tail ρ2)
def wMake (cn : Str) (as : List AD) (g : WF) : WE := wMakeX cn as (noX g) fun _ _ => False
section
variable {Z : Ent} {as : List AD} {n : Nat}
end
section
variable {X : Cx} {Z : Ent} {cn : Str} {n : Nat} {ps : List Nat} {as : List AD} {e : Expr} {es : List Expr} {p pos : Pos}
theorem FdIX.less {P : Program} {w : World} {K : PySem.W.Frag} {mg : Str → Option Value} {base : Heap} {T : List Addr} {A : Around} {qs : List Nat} {g : WFX} (F : FdIX P w K mg base T A cn n ps g) (h : ∀ i, qs.contains i = true → ps.contains i = true) : FdIX P w K mg base T A cn n qs g := by
  obtain ⟨C, k, f, fd, q, a, b, c⟩ := F.ex
  exact ⟨C, k, f, fd, q, a, b.imp (spX_less h), c⟩
end
section
variable {P : Program} {w : World} {K : PySem.W.Frag} {mg : Str → Option Value} {base : Heap} {T : List Addr} {x y : Str} {st : Stmt} {f C : Addr} {fd : FuncData} {N qs : List Str} {n k : Nat} {ps : List Nat} {s : WS} {cn m : Str}
end
end Pt
namespace Pt
open PySem PySem.Spec L2 PyProof.Rows
section
variable {ρ : En} {R : O → En → Prop}
@[simp] theorem x_wMeth_nm {i : Nat} {cn m : Str} {as : List AD} {g : WF} : wMeth (.nm i) cn m as g ρ R = (isCM cn m (nth ρ i) ∧ wCall (.nm i :: as) g ρ R) := rfl
@[simp] theorem x_wMeth_ex {w : WE} {cn m : Str} {as : List AD} {g : WF} : wMeth (.ex w) cn m as g ρ R = wCall (.ex (wChk cn m w) :: as) g ρ R := rfl
@[simp] theorem x_wChk {cn m : Str} {w : WE} : wChk cn m w ρ R = w ρ fun d ρ1 => isCM cn m d ∧ R d ρ1 := rfl
@[simp] theorem x_isCM {cn m c : Str} {gs : List (Str × O)} : isCM cn m (.oi c gs) = (c = cn ∧ gs.lookup m = none) := rfl
@[simp] theorem x_wMake {cn : Str} {as : List AD} {g : WF} : wMake cn as g ρ R = wADs as ρ fun ds ρ1 => callA as ds ρ1 fun xs ρ2 => g (.oi cn [] :: xs) fun d ρf => d = .fz .none ∧ R (hd0 ρf) (backA as ρf.tail ρ2) := rfl
end
end Pt
namespace Pt
open PySem PySem.Spec L2 PyProof.Rows
section
variable {K : PySem.W.Frag} {B H : Hp}
end
structure PRd (X : Cx) (e : Expr) (w : En → Option PyData) : Prop where
  ex : ∃ t : TE, PE X e t ∧ ∀ (Z : Ent) (B H : Hp) (σ : L2.St) (ρ : En) (fp : List Addr) (d : PyData), Ok X.K Z B H σ ρ fp → w ρ = some d → ∃ v, RF X.K B v d ∧ ∀ Q : VK, Q v H → t σ H Q
def rds : List (En → Option PyData) → En → Option (List PyData)
  | [], _ => some []
  | w :: ws, ρ => match w ρ, rds ws ρ with
    | some d, some ds => some (d :: ds)
    | _, _ => none
structure PRds (X : Cx) (es : List Expr) (ws : List (En → Option PyData)) : Prop where
  ex : ∃ t : TA, PA X es t ∧ ∀ (Z : Ent) (B H : Hp) (σ : L2.St) (ρ : En) (fp : List Addr) (ds : List PyData), Ok X.K Z B H σ ρ fp → rds ws ρ = some ds → ∃ vs, RFs X.K B vs ds ∧ ∀ Q : List V → Hp → Prop, Q vs H → t σ H Q
section
variable {X : Cx}
end
section
variable {X : Cx} {Z : Ent} {x cn f : Str} {px p1 apos cpos : Pos}
end
def gFld (i : Nat) (cn f : Str) : WG := fun d ρ R => isOi (nth ρ i) = true ∧ lmSetF cn f (nth ρ i) [d] fun x' _ => R (ρ.set i x')
section
variable {ρ : En} {R : O → En → Prop}
@[simp] theorem x_gFld {i : Nat} {cn f : Str} {d : O} {R : En → Prop} : gFld i cn f d ρ R = (isOi (nth ρ i) = true ∧ lmSetF cn f (nth ρ i) [d] fun x' _ => R (ρ.set i x')) := rfl
end
end Pt
namespace Pt
open PySem PySem.Spec L2 PyProof.Rows
section
variable {X : Cx} {CX : CXT} {k : Nat} {C f : Addr} {fd : FuncData} {ps : List Str} {sp : Sp} {E : L2.St → XK} {x k0 : Str} {p pos : Pos} {e : Expr} {t tk : TA}
end
structure FdIKX (P : Program) (w : World) (K : PySem.W.Frag) (mg : Str → Option Value) (base : Heap) (T : List Addr) (A : Around) (cn k0 : Str) (ps : List Nat) (g : WFX) : Prop where
  ex : ∃ (C : Addr) (k : Nat) (f : Addr) (fd : FuncData) (qs : List Str) (ds : List Value), clsA K cn C ∧ FnG P w K mg base (L2N.CX P w) k f fd qs (spX K T mg 3 ps g) ∧ A.guards = some [] ∧ Room (k + 1) A ∧ mg cn = some (.ref C) ∧ Mk K C f ∧ KBn K fd qs 2 [k0] (fun us ws => us ++ ws) (fun vs zs => vs ++ zs) ∧ Vals [V.non] ds ∧ Binds K fd qs ds
structure FgIKX (P : Program) (w : World) (K : PySem.W.Frag) (mg : Str → Option Value) (base : Heap) (T : List Addr) (k : Nat) (cn k0 : Str) (ps : List Nat) (g : WFX) : Prop where
  ex : ∃ (C f : Addr) (fd : FuncData) (qs : List Str) (ds : List Value), clsA K cn C ∧ FnG P w K mg base (L2N.CX P w) k f fd qs (spX K T mg 3 ps g) ∧ mg cn = some (.ref C) ∧ Mk K C f ∧ KBn K fd qs 2 [k0] (fun us ws => us ++ ws) (fun vs zs => vs ++ zs) ∧ Vals [V.non] ds ∧ Binds K fd qs ds
abbrev FgIK (P : Program) (w : World) (K : PySem.W.Frag) (mg : Str → Option Value) (base : Heap) (T : List Addr) (k : Nat) (cn k0 : Str) (ps : List Nat) (g : WF) : Prop := FgIKX P w K mg base T k cn k0 ps (noX g)
section
variable {P : Program} {w : World} {K : PySem.W.Frag} {mg : Str → Option Value} {base : Heap} {T : List Addr} {k j : Nat} {A : Around} {cn k0 : Str} {n : Nat} {ps : List Nat}
theorem FgIKX.to {g : WFX} (F : FgIKX P w K mg base T k cn k0 ps g) (hgd : A.guards = some []) (hr : Room j A) (h : k + 1 ≤ j) : FdIKX P w K mg base T A cn k0 ps g := by
  obtain ⟨C, f, fd, qs, ds, a, b, c, d, e⟩ := F.ex
  exact ⟨C, k, f, fd, qs, ds, a, b, hgd, hr.mono h, c, d, e⟩
theorem FgIKX.impX {g g' : WFX} (F : FgIKX P w K mg base T k cn k0 ps g) (h : ∀ ds Rx R, g' ds Rx R → g ds Rx R) : FgIKX P w K mg base T k cn k0 ps g' := by
  obtain ⟨C, f, fd, qs, ds, a, b, c, d, e⟩ := F.ex
  exact ⟨C, f, fd, qs, ds, a, b.imp (spX_imp h), c, d, e⟩
theorem FgIKX.imp {g g' : WF} (F : FgIK P w K mg base T k cn k0 ps g) (h : ∀ ds R, g' ds R → g ds R) : FgIK P w K mg base T k cn k0 ps g' := F.impX fun ds _ R => h ds R
theorem FdIKX.less {qs : List Nat} {g : WFX} (F : FdIKX P w K mg base T A cn k0 ps g) (h : ∀ i, qs.contains i = true → ps.contains i = true) : FdIKX P w K mg base T A cn k0 qs g := by
  obtain ⟨C, k, f, fd, q, ds, a, b, c⟩ := F.ex
  exact ⟨C, k, f, fd, q, ds, a, b.imp (spX_less h), c⟩
end
section
variable {K : PySem.W.Frag} {Z : Ent} {σ : L2.St} {H : Hp}
end
section
variable {X : Cx} {Z : Ent} {cn k0 : Str} {ps : List Nat} {a1 a2 : AD} {e v : Expr} {p pos kp : Pos} {g : WF}
end
section
variable {P : Program} {w : World} {K : PySem.W.Frag} {mg : Str → Option Value} {base : Heap} {T : List Addr} {x y : Str} {st : Stmt} {f C : Addr} {fd : FuncData} {N qs : List Str} {k : Nat} {ps : List Nat} {s : WS} {cn k0 : Str}
end
end Pt
namespace Pt
open PySem PySem.Spec L2 PyProof.Rows
def cut (H : Hp) (a : Addr) : Hp := fun b => if b = a then none else H b
theorem cut_ne {H : Hp} {a b : Addr} (h : b ≠ a) : cut H a b = H b := if_neg h
theorem cut_same {H : Hp} {a : Addr} : cut H a a = none := if_pos rfl
theorem cut_some {H : Hp} {a b : Addr} {o : HO} (h : cut H a b = some o) : b ≠ a ∧ H b = some o := by
  by_cases e : b = a
  · rw [e, cut_same] at h; cases h
  · rw [cut_ne e] at h; exact ⟨e, h⟩
theorem off_of {H : Hp} {a b : Addr} {o u : HO} (ha : H a = some o) (hb : H b = some u) (d : u ≠ o) : b ≠ a := fun e => by
  rw [e, ha] at hb
  exact d (Option.some.inj hb).symm
section
variable {X : Cx} {pins : List (Addr × Obj)} {σ : L2.St} {H : Hp} {s : Shared} {a : Addr} {oe : Obj} {vs : Array Value}
end
section
variable {X : Cx} {x n : Str} {c : Value} {i : Nat} {body suite : List Stmt} {b₀ : Stmt} {np pos pos' : Pos} {tb : WX → TS} {t2 : Addr → Obj → TS} {Wout : WX}
end
end Pt
namespace Pt
open PySem PySem.Spec L2 PyProof.Rows
mutual
def dX : O → O
  | .fz f => .fz f
  | .ol xs => .ol (dXs xs)
  | .ot xs => .ot (dXs xs)
  | .od kvs => .od (dXk kvs)
  | .oi cn gs => .oi cn (dXf gs)
  | .scr ns => .scr ns
  | .lf ds => .lf ds
  | .df kvs => .df kvs
  | .tn ds => .tn ds
  | .dl kvs => .dl kvs
  | .dt kvs => .dt kvs
  | .dq kvs => .dq kvs
  | .dn v kvs => .dn v kvs
  | .dz v kvs => .dz v kvs
  | .fo cn gs => .fo cn gs
  | .fl xs => .fl (dXs xs)
  | .al q => .al q
  | .lb q x => .lb q (dX x)
  | .exn _ _ => .hid
  | .hid => .hid
def dXs : List O → List O
  | [] => []
  | x :: r => dX x :: dXs r
def dXk : List (Key × O) → List (Key × O)
  | [] => []
  | (k, x) :: r => (k, dX x) :: dXk r
def dXf : List (Str × O) → List (Str × O)
  | [] => []
  | (k, x) :: r => (k, dX x) :: dXf r
end
theorem dXk_fst : ∀ kvs : List (Key × O), (dXk kvs).map (·.1) = kvs.map (·.1)
  | [] => rfl
  | (k, x) :: r => by
    show k :: (dXk r).map (·.1) = k :: r.map (·.1)
    rw [dXk_fst r]
theorem dXk_snd : ∀ kvs : List (Key × O), (dXk kvs).map (·.2) = dXs (kvs.map (·.2))
  | [] => rfl
  | (k, x) :: r => by
    show dX x :: (dXk r).map (·.2) = dX x :: dXs (r.map (·.2))
    rw [dXk_snd r]
theorem dXf_fst : ∀ kvs : List (Str × O), (dXf kvs).map (·.1) = kvs.map (·.1)
  | [] => rfl
  | (k, x) :: r => by
    show k :: (dXf r).map (·.1) = k :: r.map (·.1)
    rw [dXf_fst r]
theorem dXf_snd : ∀ kvs : List (Str × O), (dXf kvs).map (·.2) = dXs (kvs.map (·.2))
  | [] => rfl
  | (k, x) :: r => by
    show dX x :: (dXf r).map (·.2) = dX x :: dXs (r.map (·.2))
    rw [dXf_snd r]
theorem dXs_map : ∀ xs : List O, dXs xs = xs.map dX
  | [] => rfl
  | x :: r => by
    show dX x :: dXs r = dX x :: r.map dX
    rw [dXs_map r]
section
variable {K : PySem.W.Frag} {B H : Hp} {a : Addr} {oe : Obj}
theorem cut_sqT (hB : B a = some (.frz oe (.own a))) {p : Addr} {vs : List V} (x : SqT K B p vs) : SqT K (cut B a) p vs := by
  rcases x with (x | ⟨o, x⟩) | x
  · exact .inl (.inl (by rw [cut_ne (off_of hB x (fun q => nomatch q))]; exact x))
  · exact .inl (.inr ⟨o, by rw [cut_ne (off_of hB x (fun q => by injection q with _ q2; exact nomatch q2))]; exact x⟩)
  · exact .inr x
theorem cut_sqL (hB : B a = some (.frz oe (.own a))) {p : Addr} {vs : List V} (x : SqL K B p vs) : SqL K (cut B a) p vs := by
  rcases x with (x | ⟨o, x⟩) | x
  · exact .inl (.inl (by rw [cut_ne (off_of hB x (fun q => nomatch q))]; exact x))
  · exact .inl (.inr ⟨o, by rw [cut_ne (off_of hB x (fun q => by injection q with _ q2; exact nomatch q2))]; exact x⟩)
  · exact .inr x
theorem cut_nd (hB : B a = some (.frz oe (.own a))) {p : Addr} (x : ND K B p) : ND K (cut B a) p := by
  rcases x with ⟨o, vs, e, z⟩ | z
  · exact .inl ⟨o, vs, by rw [cut_ne (off_of hB e (fun q => by injection q with _ q2; exact nomatch q2))]; exact e, z⟩
  · exact .inr z
theorem cut_at {o : HO} (hB : B a = some (.frz oe (.own a))) {p : Addr} (e : B p = some o) (d : o ≠ .frz oe (.own a)) : cut B a p = some o := by
  rw [cut_ne (off_of hB e d)]
  exact e
mutual
theorem RF.cutX (hB : B a = some (.frz oe (.own a))) : ∀ {d : PyData} {v : V}, RF K B v d → RF K (cut B a) v d
  | _, _, .non => .non
  | _, _, .bl b => .bl b
  | _, _, .int i => .int i
  | _, _, .str x => .str x
  | _, _, .lst e r => .lst (cut_at hB e (fun q => nomatch q)) (RFs.cutX hB r)
  | _, _, .tup e r => .tup (cut_sqT hB e) (RFs.cutX hB r)
  | _, _, .dic e r => .dic (cut_at hB e (fun q => nomatch q)) (RFd.cutX hB r)
  | _, _, .lm e d r => .lm (cut_at hB e (fun q => nomatch q)) (fun i z => by
    obtain ⟨b, e1, e2⟩ := d i z
    exact ⟨b, e1, cut_nd hB e2⟩) (RFs.cutX hB r)
theorem RFs.cutX (hB : B a = some (.frz oe (.own a))) : ∀ {ds : List PyData} {vs : List V}, RFs K B vs ds → RFs K (cut B a) vs ds
  | _, _, .nil => .nil
  | _, _, .cons r s => .cons (RF.cutX hB r) (RFs.cutX hB s)
theorem RFd.cutX (hB : B a = some (.frz oe (.own a))) : ∀ {ds : List (PyData × PyData)} {vs : List (Key × V)}, RFd K B vs ds → RFd K (cut B a) vs ds
  | _, _, .nil => .nil
  | _, _, .cons r s => .cons (RF.cutX hB r) (RFd.cutX hB s)
end
theorem DqE.cutX (hB : B a = some (.frz oe (.own a))) : ∀ {xs : List (List Int × Addr × Value)} {ds : List (List Int × PyData)}, DqE K B xs ds → DqE K (cut B a) xs ds
  | _, _, .nil => .nil
  | _, _, .cons e r f t => .cons (cut_sqT hB e) r (f.cutX hB) (t.cutX hB)
mutual
theorem RO.cutX (hB : B a = some (.frz oe (.own a))) (hH : H a = some (.frz oe (.own a))) : ∀ {x : O} {v : V} {fp : List Addr}, RO K B H v x fp → RO K (cut B a) (cut H a) v (dX x) fp
  | _, _, _, .fz r => .fz (r.cutX hB)
  | _, _, _, .hid => .hid
  | _, _, _, .tn e d r => .tn (cut_sqT hB e) (cut_nd hB d) (r.cutX hB)
  | _, _, _, .dl e q r => .dl (cut_at hB e (fun q => by injection q with _ q2; exact nomatch q2)) q (r.cutX hB)
  | _, _, _, .scr e => .scr (cut_sqL hB e)
  | _, _, _, .lf e r => .lf (cut_at hH e (fun q => nomatch q)) (r.cutX hB)
  | _, _, _, .df e q r => .df (cut_at hH e (fun q => nomatch q)) q (r.cutX hB)
  | _, _, _, .dt e q r => .dt (cut_at hH e (fun q => nomatch q)) q (r.cutX hB)
  | _, _, _, .dq e q r => .dq (cut_at hH e (fun q => nomatch q)) (q.cutX hB) r
  | _, _, _, .dn e q d r => .dn (cut_at hH e (fun q => nomatch q)) (q.cutX hB) (fun x hx => ⟨cut_nd hB (d x hx).1, fun z => let ⟨b, e, n⟩ := (d x hx).2 z; ⟨b, e, cut_nd hB n⟩⟩) r
  | _, _, _, .dz e q d r => .dz (cut_at hB e (fun q => nomatch q)) (q.cutX hB) (fun x hx => ⟨cut_nd hB (d x hx).1, fun z => let ⟨b, e, n⟩ := (d x hx).2 z; ⟨b, e, cut_nd hB n⟩⟩) r
  | _, _, _, .fo n e q r => .fo n (cut_at hB e (fun q => nomatch q)) q (r.cutX hB)
  | _, _, _, .fl e r => .fl (cut_at hB e (fun q => nomatch q)) (ROs.cutX hB hH r)
  | _, _, _, .al => .al
  | _, _, _, .lb r => .lb (RO.cutX hB hH r)
  | _, _, _, .ol e r => .ol (cut_at hH e (fun q => nomatch q)) (ROs.cutX hB hH r)
  | _, _, _, .ot e r => .ot (cut_at hB e (fun q => nomatch q)) (ROs.cutX hB hH r)
  | _, _, _, .od e q r => .od (cut_at hH e (fun q => nomatch q)) (by rw [dXk_fst]; exact q) (by rw [dXk_snd]; exact ROs.cutX hB hH r)
  | _, _, _, .exn n e x => .hid
  | _, _, _, .oi n e q r => .oi n (cut_at hH e (fun q => nomatch q)) (by rw [dXf_fst]; exact q) (by rw [dXf_snd]; exact ROs.cutX hB hH r)
theorem ROs.cutX (hB : B a = some (.frz oe (.own a))) (hH : H a = some (.frz oe (.own a))) : ∀ {xs : List O} {vs : List V} {fp : List Addr}, ROs K B H vs xs fp → ROs K (cut B a) (cut H a) vs (dXs xs) fp
  | _, _, _, .nil => .nil
  | _, _, _, .cons r s => .cons (RO.cutX hB hH r) (ROs.cutX hB hH s)
end
theorem TbK.cutX {H0 : Hp} (t : TbK H0 H) (hH : H a = some (.frz oe (.own a))) : TbK H0 (cut H a) := fun P hP => by
  obtain ⟨ps, h1, h2, h3⟩ := t P hP
  refine ⟨ps, cut_at hH h1 (fun q => nomatch q), h2, fun pos cv hc => ?_⟩
  obtain ⟨c, e1, e2⟩ := h3 pos cv hc
  refine ⟨c, e1, cut_at hH e2 fun q => ?_⟩
  unfold LamX.CodeO at q
  exact nomatch q
theorem Nxt.cutX {B0 H0 : Hp} {f0 fp : List Addr} (n : Nxt B0 H0 f0 B H fp) (h0 : H0 a = none) (b0 : B0 a = none) (hH : H a = some (.frz oe (.own a))) : Nxt B0 H0 f0 (cut B a) (cut H a) fp where
  bsub := fun x o e => by
    rw [cut_ne (ne_of_none e b0)]
    exact n.bsub x o e
  keep := fun x o e m t => by
    rw [cut_ne (ne_of_none e h0)]
    exact n.keep x o e m t
  newB := fun x e => n.newB x fun z => by
    by_cases q : x = a
    · rw [q] at e; exact e cut_same
    · rw [cut_ne q] at e; exact e z
  newF := n.newF
  live := fun x e => by
    by_cases q : x = a
    · rw [q]; exact h0
    · rw [cut_ne q] at e; exact n.live x e
  tabs := n.tabs.cutX hH
  ntb := fun h x o e => n.ntb h x o (cut_some e).2
theorem Ok.cutX {Z : Ent} {σ : L2.St} {ρ : En} {fp : List Addr} (k : Ok K Z B H σ ρ fp) (h0 : Z.H a = none) (b0 : Z.B a = none) (hB : B a = some (.frz oe (.own a))) : Ok K Z (cut B a) (cut H a) σ (ρ.map dX) fp where
  sub := fun x o e => by
    obtain ⟨ne, e⟩ := cut_some e
    rw [cut_ne ne]
    exact k.sub x o e
  un := fun i e => by
    rw [List.getElem?_map, k.un i e]
    rfl
  rs := by
    rw [← dXs_map]
    exact k.rs.cutX hB (k.sub _ _ hB)
  nd := k.nd
  out := fun x hx => by
    by_cases q : x = a
    · rw [q]; exact cut_same
    · rw [cut_ne q]; exact k.out x hx
  nx := k.nx.cutX h0 b0 (k.sub _ _ hB)
end
def sRaise (cn : Str) : WS := fun E ρ => E.xc ⟨cn, []⟩ ρ
def sDropX (w : WEX) : WS := fun E ρ => w E.xc ρ fun _ ρ1 => E.nx ρ1
def sRetX (w : WEX) : WS := fun E ρ => w E.xc ρ fun d ρ1 => E.rt d ρ1
def sStoreX (i : Nat) (w : WEX) : WS := fun E ρ => w E.xc ρ fun d ρ1 => E.nx (ρ1.set i d)
def wFzX (w : WEX) : WEX := fun xc ρ R => w xc ρ fun d ρ1 => ∃ f, frO d = some f ∧ R (.fz f) ρ1
structure RaisC (K : PySem.W.Frag) (C : Addr) : Prop where
  x : PySem.W.excIn K C [.type "ValueError", .type "Exception", .type "BaseException", .type "object"] "ValueError.__new__" = true
  k : PySem.W.keepIn K (.ref C) = true
  b : PySem.W.subIn K (.ref C) (.type "BaseException") = some true
  t : PySem.W.typeIn K (.ref C) = some (.type "type")
section
variable {X : Cx} {Z : Ent} {ps : List Nat} {e : Expr} {w : WEX} {pos p p2 pos2 : Pos} {x m : Str} {j : Nat}
end
def nX (g : WFX) : WF := fun ds R => g ds (fun _ _ => False) R
section
variable {P : Program} {w : World} {K : PySem.W.Frag} {mg : Str → Option Value} {base : Heap} {T : List Addr} {A : Around} {cn m x : Str} {n : Nat} {ps : List Nat}
theorem spX_no {g : WFX} (vs : List V) (H : Hp) (Q : VK) (E : XK) (q : spX K T mg n ps (noX (nX g)) vs H Q E) : spX K T mg n ps g vs H Q E := by
  obtain ⟨hl, B, ds, fp, R, Rx, tb, nt, k, hg, q, _⟩ := q
  exact ⟨hl, B, ds, fp, R, _, tb, nt, k, hg, q, fun _ _ z => z.elim⟩
theorem FdX.nox {g : WFX} (F : FdX P w K mg base T A x n ps g) : Fd P w K mg base T A x n ps (nX g) := by
  obtain ⟨k, f, fd, q, a, b⟩ := F.ex
  exact ⟨k, f, fd, q, a.imp spX_no, b⟩
theorem FdMX.nox {g : WFX} (F : FdMX P w K mg base T A cn m n ps g) : FdM P w K mg base T A cn m n ps (nX g) := by
  obtain ⟨C, k, f, fd, q, a, b, c⟩ := F.ex
  exact ⟨C, k, f, fd, q, a, b.imp spX_no, c⟩
end
def pick : Option Bool → Prop → Prop → Prop
  | some true, p, _ => p
  | some false, _, q => q
  | none, _, _ => False
def suE (i : Nat) (E : DE) : DE := ⟨fun ρ => E.nx ((ρ.set i .hid).map dX), fun d ρ => E.rt (dX d) (ρ.map dX), fun ρ => E.bk ((ρ.set i .hid).map dX), fun ρ => E.ct ((ρ.set i .hid).map dX), fun _ _ => False⟩
def sTryAs (i : Nat) (sub : Str → Option Bool) (s t : WS) : WS := fun E ρ => s { E with xc := fun x ρ' => pick (sub x.cn) (t (suE i E) (ρ'.set i (.exn x.cn x.fs))) (E.xc x ρ') } ρ
def sTryOnly (sub : Str → Option Bool) (s t : WS) : WS := fun E ρ => s { E with xc := fun x ρ' => pick (sub x.cn) (t { E with xc := fun _ _ => False } ρ') (E.xc x ρ') } ρ
section
variable {X : Cx} {Z : Ent} {ps : List Nat} {x n : Str} {C : Addr} {i : Nat} {sub : Str → Option Bool} {body suite : List Stmt} {b₀ : Stmt} {np pos pos' : Pos} {s t : WS}
theorem RX.has {K : PySem.W.Frag} {mg : Str → Option Value} {B : Hp} {cls : Value} {d : Option Addr} {y : Ex} (r : RX K mg B cls d y) : ∃ D, cls = .ref D ∧ clsA K y.cn D := by
  obtain ⟨D, a, b, _⟩ := r
  exact ⟨D, a, b⟩
def Ent.at (Z : Ent) (B H : Hp) (fp : List Addr) (n : Nxt Z.B Z.H Z.fp B H fp) : Ent := { B := B, H := H, fp := fp, T := Z.T, tb := fun P hP => n.tabs P (Z.tb P hP), nt := n.ntb Z.nt, W := fun _ _ _ _ => False, mg := Z.mg }
end
end Pt
namespace Pt
open PySem PySem.Spec L2 PyProof.Rows
def EN : List Str := ["PlantError", "NoPlant", "NoStation", "NoStock", "NoPattern", "NoDays", "NoBox", "NotOrdered", "NoWords", "NoNumber", "TooMany", "Full", "Nothing", "NoText", "NoRow"]
def ES : List Str := ["NoPlant", "NoStation", "NoStock", "NoPattern", "NoDays", "NoBox", "NotOrdered", "NoWords", "NoNumber", "TooMany", "Full", "Nothing", "NoText", "NoRow"]
def isA (y d : Str) : Bool := y == d || (d == "PlantError" || d == "ValueError")
structure ErrF (K : PySem.W.Frag) : Prop where
  exc : ∀ y ∈ ES, ∀ D, clsA K y D → ExcC K D
  val : ∀ y ∈ ES, ∀ D, clsA K y D → PySem.W.kitOne K (.ref D) (.type "ValueError") = some true
  own : ∀ y ∈ ES, ∀ d ∈ EN, ∀ D C, clsA K y D → clsA K d C → PySem.W.kitOne K (.ref D) (.ref C) = some (isA y d) ∧ PySem.W.exmOne K (.ref D) (.ref C) = some (isA y d)
  rais : ∀ y ∈ ES, y ≠ "TooMany" → ∀ D, clsA K y D → RaisC K D
  size : ∀ D, clsA K "TooMany" D → PySem.W.findIn K (.ref D) "size" = some none
def asXn : O → (Str → List (Str × PyData) → Prop) → Prop
  | .exn c f, k => k c f
  | _, _ => False
def wVx (i : Nat) : WE := fun ρ R => asXn (nth ρ i) fun c f => R (.exn c f) ρ
section
variable {X : Cx} {Z : Ent} {pos : Pos}
end
def Xat (K : PySem.W.Frag) (H : Hp) (v : V) (C : Addr) : Prop := ∃ a oe, v = .ref a ∧ H a = some (.frz oe (.own a)) ∧ oe.cls = .ref C ∧ (∃ vs, oe.data = .fields vs) ∧ (oe.dict = none ∨ ∃ dd vs, oe.dict = some dd ∧ H dd = some (.xd vs))
section
variable {X : Cx}
end
def oIsX (d : Str) : List O → (O → Prop) → Prop
  | [.exn y _], R => ES.contains y = true ∧ R (.fz (.bool (isA y d)))
  | _, _ => False
def oIsXT (ds : List Str) : List O → (O → Prop) → Prop
  | [.exn y _], R => ES.contains y = true ∧ R (.fz (.bool (ds.any (isA y))))
  | _, _ => False
section
variable {K : PySem.W.Frag} {B H : Hp}
def ClE (K : PySem.W.Frag) (d : Str) (c : V) (u : Value) : Prop := (d ∈ EN ∧ ∃ C, clsA K d C ∧ c = .ref C ∧ u = .ref C) ∨ (d = "ValueError" ∧ c = .ty "ValueError" ∧ u = .type "ValueError")
inductive ClEs (K : PySem.W.Frag) : List Str → List V → List Value → Prop
  | nil : ClEs K [] [] []
  | cons {d : Str} {c : V} {u : Value} {ds : List Str} {cs : List V} {us : List Value} : ClE K d c u → ClEs K ds cs us → ClEs K (d :: ds) (c :: cs) (u :: us)
theorem Xat.upd {H : Hp} {v : V} {C p : Addr} {o : HO} (x : Xat K H v C) (hp : H p = none) : Xat K (upd H p o) v C := by
  obtain ⟨a, oe, e, h1, h2, h3, h4⟩ := x
  refine ⟨a, oe, e, by rw [upd_ne (ne_of_none h1 hp)]; exact h1, h2, h3, ?_⟩
  rcases h4 with h4 | ⟨dd, vs, h4, h5⟩
  · exact .inl h4
  · exact .inr ⟨dd, vs, h4, by rw [upd_ne (ne_of_none h5 hp)]; exact h5⟩
def oIsiT (Ts : List String) : List O → (O → Prop) → Prop
  | [x], R => ∃ t, tyO x = some t ∧ R (.fz (.bool (Ts.any (isSub t))))
  | _, _ => False
end
section
variable {X : Cx} {Z : Ent} {e : Expr} {p p2 pos : Pos} {a1 : AD} {y : Str}
end
section
variable {X : Cx} {Z : Ent} {e : Expr} {es : List Expr} {p p2 pos pos2 : Pos} {a1 : AD} {k4 : Nat}
end
end Pt
namespace Pt
open PySem PySem.Spec L2 PyProof.Rows
def light : O → Bool
  | .fz _ => true
  | .tn _ => true
  | .scr _ => true
  | .hid => true
  | .dl _ => true
  | .exn _ _ => true
  | .fo _ _ => true
  | .al _ => true
  | _ => false
def snapO (x : O) : O := if light x = true then x else match frO x with
  | some f => .fz f
  | none => .hid
def flatP : PyData → Bool
  | .none => true
  | .bool _ => true
  | .int _ => true
  | .str _ => true
  | _ => false
def wPeek (w : WE) : WE := fun ρ R => w (ρ.map snapO) fun d _ => asF d fun f => flatP f = true ∧ R (.fz f) ρ
def wPeekT (w : WT) : WT := fun ρ R => w (ρ.map snapO) fun b _ => R b ρ
section
variable {K : PySem.W.Frag} {Z : Ent} {B H B' H' : Hp} {σ : L2.St} {ρ : En} {fp : List Addr}
theorem light_fp {v : V} {x : O} (r : RO K B H v x fp) (h : light x = true) : fp = [] := by
  cases r with
  | fz _ => rfl
  | hid => rfl
  | tn _ _ _ => rfl
  | dl _ _ _ => rfl
  | scr _ => rfl
  | exn _ _ _ => rfl
  | lf _ _ => cases h
  | df _ _ _ => cases h
  | dt _ _ _ => cases h
  | dq _ _ _ => cases h
  | dn _ _ _ _ => cases h
  | dz _ _ _ _ => cases h
  | fo _ _ _ _ => rfl
  | fl _ _ => cases h
  | al => rfl
  | lb _ => cases h
  | ol _ _ => cases h
  | ot _ _ => cases h
  | od _ _ _ => cases h
  | oi _ _ _ _ => cases h
theorem light_snap (x : O) : light (snapO x) = true := by
  unfold snapO
  split
  · assumption
  · split <;> rfl
theorem light_fps : ∀ {xs : List O} {vs : List V} {f : List Addr}, ROs K B H vs xs f → (∀ x ∈ xs, light x = true) → f = []
  | _, _, _, .nil, _ => rfl
  | x :: xs, _, _, .cons r s, h => by
    rw [light_fp r (h x (List.mem_cons_self ..)), light_fps s fun y hy => h y (List.mem_cons_of_mem _ hy)]
    rfl
theorem snap_step (k : Ok K Z B H σ ρ fp) {i : Nat} {x : O} (hx : ρ[i]? = some x) : ∃ B' f', Nxt B H fp B' H f' ∧ Ok K Z B' H σ (ρ.set i (snapO x)) f' := by
  obtain ⟨hi, hg⟩ := List.getElem?_eq_some_iff.mp hx
  have self : ρ.set i x = ρ := by
    rw [← hg]
    exact List.set_getElem_self hi
  unfold snapO
  split
  · rw [self]
    exact ⟨B, fp, Nxt.refl _ _ _, k⟩
  · cases q : frO x with
    | some f =>
      have e : frO (nth ρ i) = some f := by rw [nth_eq, hx]; exact q
      exact k.frS e
    | none =>
      have hl := k.len
      obtain ⟨f2, k2, h2⟩ := k.hide i (σ[i]'(by omega))
      rw [List.set_getElem_self] at k2
      exact ⟨B, f2, Nxt.self h2, k2⟩
theorem snap_upto (k : Ok K Z B H σ ρ fp) : ∀ n, n ≤ ρ.length → ∃ B' f', Nxt B H fp B' H f' ∧ Ok K Z B' H σ ((ρ.take n).map snapO ++ ρ.drop n) f'
  | 0, _ => ⟨B, fp, Nxt.refl _ _ _, k⟩
  | n + 1, hn => by
    obtain ⟨B1, f1, n1, k1⟩ := snap_upto k n (by omega)
    have hl : ((ρ.take n).map snapO).length = n := by rw [List.length_map, List.length_take]; omega
    have hx : ((ρ.take n).map snapO ++ ρ.drop n)[n]? = some (ρ[n]'(by omega)) := by
      rw [List.getElem?_append_right (by omega), hl, Nat.sub_self, List.getElem?_drop, Nat.add_zero, List.getElem?_eq_getElem]
    obtain ⟨B2, f2, n2, k2⟩ := snap_step k1 hx
    refine ⟨B2, f2, n1.trans n2, ?_⟩
    have e : ((ρ.take n).map snapO ++ ρ.drop n).set n (snapO (ρ[n]'(by omega))) = (ρ.take (n + 1)).map snapO ++ ρ.drop (n + 1) := by
      rw [List.set_append_right _ _ (by omega), hl, Nat.sub_self, List.drop_eq_getElem_cons (by omega), List.set_cons_zero, List.take_succ_eq_append_getElem (by omega), List.map_append, List.append_assoc]
      rfl
    rw [e] at k2
    exact k2
theorem Ok.snap (k : Ok K Z B H σ ρ fp) : ∃ B', Nxt B H fp B' H [] ∧ Ok K Z B' H σ (ρ.map snapO) [] := by
  obtain ⟨B1, f1, n1, k1⟩ := snap_upto k ρ.length (Nat.le_refl _)
  rw [List.take_length, List.drop_length, List.append_nil] at k1
  have e : f1 = [] := light_fps k1.rs fun x hx => by
    obtain ⟨y, _, rfl⟩ := List.mem_map.mp hx
    exact light_snap y
  subst e
  exact ⟨B1, n1, k1⟩
theorem Ok.unsnap {B1 : Hp} {f' : List Addr} (k : Ok K Z B H σ ρ fp) (s : Sub B B1) (n : Nxt B1 H [] B' H' f') (sb : Sub B' H') : Nxt B H fp B H' fp ∧ Ok K Z B H' σ ρ fp := by
  have keep : ∀ a o, H a = some o → NT o → H' a = some o := fun a o e t => n.keep a o e (fun z => (List.not_mem_nil z).elim) t
  have nn : Nxt B H fp B H' fp := ⟨Sub.refl B, fun a o e _ t => keep a o e t, fun a e => .inl e, fun a ha => .inl ha, n.live, n.tabs, fun h => h⟩
  refine ⟨nn, ⟨fun a o e => sb _ _ (n.bsub _ _ (s _ _ e)), k.un, k.rs.next (Sub.refl B) fun a _ o e t => keep a o e t, k.nd, k.out, k.nx.trans nn⟩⟩
end
section
variable {X : Cx} {Z : Ent} {e : Expr} {w : WE} {wt : WT}
theorem t_peek (h : PT X e (tT X.K Z wt)) : PT X e (tT X.K Z (wPeekT wt)) := pt_to h fun σ H Q q => by
  obtain ⟨B, ρ, fp, R, k, h, q⟩ := q
  obtain ⟨B1, n1, k1⟩ := k.snap
  refine ⟨B1, _, [], _, k1, h, fun b ρ' h1 H' B' fp' n k2 => ?_⟩
  obtain ⟨nn, k3⟩ := k.unsnap n1.bsub n k2.sub
  exact q b ρ h1 H' B fp nn k3
end
section
variable {X : Cx} {k : Nat} {C f : Addr} {fd : FuncData} {qs : List Str} {sp : Sp}
end
def wLenO (a : AD) (cn : Str) (g : WF) : WE := fun ρ R => wMeth a cn "__len__" [] g ρ fun d ρ1 => asI d fun n => (0 ≤ n ∧ n < 2 ^ 63) ∧ R (.fz (.int n)) ρ1
def eqG (cn : Str) (g : WF) : WF := fun ds R => (∃ x y, ds = [x, y] ∧ isCM cn "__eq__" x ∧ isCM cn "__eq__" y) ∧ g ds R
def wEqO (a b : AD) (cn : Str) (g : WF) : WE := fun ρ R => wCall [a, b] (eqG cn g) ρ fun d ρ1 => asB d fun c => R (.fz (.bool c)) ρ1
section
variable {K : PySem.W.Frag} {Z : Ent}
end
section
variable {X : Cx} {Z : Ent} {cn : Str} {ps : List Nat} {a b : AD} {o e e2 : Expr} {p pos : Pos} {g : WF} {k j : Nat}
end
section
variable {X : Cx} {Z : Ent} {o : Expr} {name : Str} {apos cpos : Pos} {id : String} {wo : WE} {lm : O → List O → (O → O → Prop) → Prop} {r : V → List V → Hp → VK → Prop}
end
end Pt
namespace K13
open PySem PySem.Spec L2 Pt Sh St Sw FB
def topS (i : Nat) : Stmt := PySem.Challenge.pw_pulltree_k13_words_of_stocks.main.body.getD i (.Pass ⟨0, 0, 0, 0⟩)
structure Mg (mg : Str → Option Value) : Prop where
  b_all : mg "all" = none
  b_bool : mg "bool" = none
  b_enumerate : mg "enumerate" = none
  b_int : mg "int" = none
  b_isinstance : mg "isinstance" = none
  b_len : mg "len" = none
  b_max : mg "max" = none
  b_min : mg "min" = none
  b_range : mg "range" = none
  b_repr : mg "repr" = none
  b_set : mg "set" = none
  b_sorted : mg "sorted" = none
  b_tuple : mg "tuple" = none
  c_MOST_STATIONS : ∃ t, mg "MOST_STATIONS" = some (.int 40 t)
abbrev s_is_int : Stmt := topS 8
abbrev N_is_int : List Str := ["value"]
theorem sc_is_int : FnScope N_is_int ["value"] (defScope s_is_int) := ⟨rfl, rfl, rfl, by decide +kernel, rfl, by decide +kernel, by decide +kernel⟩
theorem ok_is_int {P : Program} {w : World} {K : PySem.W.Frag} {mg : Str → Option Value} {base : Heap} {T : List Addr} {fa : Addr} {fd : FuncData} (F : Fun K "is_int" "is_int" s_is_int fa fd) (hm : mg "is_int" = some (.ref fa)) (M : Mg mg) :
    Fg P w K mg base T (1) "is_int" 1 [] (gOf 1 1 (W_is_int)) := by
  refine fg_of (N := N_is_int) F hm sc_is_int (F.binds (ps := ["value"]) fun _ _ _ _ _ _ us hl => match us, hl with | [_], _ => rfl) rfl (by decide) (by decide) fun X cdv A outer s0 H E Z HB => ?_
  obtain ⟨hX, hT, hgd, hr, hp, tk, hmg, hcd⟩ := HB
  have hu := hr.units
  subst hX hT
  have HN := sc_is_int.nd
  exact (ss_one (s_ret (e_and (e_isi tyN_int (ad_ex (e_var 0)) (by rfl) M.b_isinstance (by rfl) M.b_int (by rfl)) (e_one (e_not (e_isi tyN_bool (ad_ex (e_var 0)) (by rfl) M.b_isinstance (by rfl) M.b_bool (by rfl)))))))
abbrev s_in_range : Stmt := topS 9
abbrev N_in_range : List Str := ["value", "low", "high"]
theorem sc_in_range : FnScope N_in_range ["value", "low", "high"] (defScope s_in_range) := ⟨rfl, rfl, rfl, by decide +kernel, rfl, by decide +kernel, by decide +kernel⟩
theorem ok_in_range {P : Program} {w : World} {K : PySem.W.Frag} {mg : Str → Option Value} {base : Heap} {T : List Addr} {fa : Addr} {fd : FuncData} (F : Fun K "in_range" "in_range" s_in_range fa fd) (hm : mg "in_range" = some (.ref fa)) (M : Mg mg) {g_is_int : WF} (c_is_int : Fg P w K mg base T 1 "is_int" 1 [] g_is_int) :
    Fg P w K mg base T (2) "in_range" 3 [] (gOf 3 3 (W_in_range g_is_int)) := by
  refine fg_of (N := N_in_range) F hm sc_in_range (F.binds (ps := ["value", "low", "high"]) fun _ _ _ _ _ _ us hl => match us, hl with | [_, _, _], _ => rfl) rfl (by decide) (by decide) fun X cdv A outer s0 H E Z HB => ?_
  obtain ⟨hX, hT, hgd, hr, hp, tk, hmg, hcd⟩ := HB
  have hu := hr.units
  subst hX hT
  have d_is_int := c_is_int.to hgd hr (by decide)
  have HN := sc_in_range.nd
  exact (ss_one (s_ret (e_and (e_call d_is_int (pa_cons (ad_ex (e_var 0)) pa_nil) rfl rfl (by exact (show List.Nodup ([] : List Nat) from by decide)) (by rfl)) (e_one (e_chain op_le rd_le op_le rd_le (e_var 1) (e_var 0) (e_var 2))))))
abbrev s_is_plant : Stmt := topS 10
abbrev N_is_plant : List Str := ["value", "index", "station"]
theorem sc_is_plant : FnScope N_is_plant ["value"] (defScope s_is_plant) := ⟨rfl, rfl, rfl, by decide +kernel, rfl, by decide +kernel, by decide +kernel⟩
theorem ok_is_plant {P : Program} {w : World} {K : PySem.W.Frag} {mg : Str → Option Value} {base : Heap} {T : List Addr} {fa : Addr} {fd : FuncData} (F : Fun K "is_plant" "is_plant" s_is_plant fa fd) (hm : mg "is_plant" = some (.ref fa)) (M : Mg mg) {g_in_range : WF} (c_in_range : Fg P w K mg base T 2 "in_range" 3 [] g_in_range) :
    Fg P w K mg base T (3) "is_plant" 1 [] (gOf 1 3 (W_is_plant g_in_range)) := by
  refine fg_of (N := N_is_plant) F hm sc_is_plant (F.binds (ps := ["value"]) fun _ _ _ _ _ _ us hl => match us, hl with | [_], _ => rfl) rfl (by decide) (by decide) fun X cdv A outer s0 H E Z HB => ?_
  obtain ⟨hX, hT, hgd, hr, hp, tk, hmg, hcd⟩ := HB
  have hu := hr.units
  obtain ⟨t_MOST_STATIONS, hc_MOST_STATIONS⟩ := M.c_MOST_STATIONS
  subst hX hT
  have d_in_range := c_in_range.to hgd hr (by decide)
  have HN := sc_is_plant.nd
  exact (ss_cons (s_if (L2.PW.pt (tw_or (t_not (t_val (e_isi tyN_tuple (ad_ex (e_var 0)) (by rfl) M.b_isinstance (by rfl) M.b_tuple (by rfl)))) (tw_or1 (t_cmp op_ge rd_ge (ad_ex (e_callB call_len rd_len (by rfl) M.b_len (by rfl) (pa_cons (ad_ex (e_var 0)) pa_nil))) (ad_ex (e_gint (by rfl) hc_MOST_STATIONS ⟨_, rfl⟩)) (nomark _)))))
  (ss_one (s_ret e_bl))
  ss_nil)
  (ss_one (s_ret (e_callB (cr_all rfl) rd_all (by rfl) M.b_all (by rfl) (pa_cons (ad_ex (e_lf (e_lc (ow := [("index", 1), ("station", 2)]) rfl HN (i_enum (by rfl) M.b_enumerate (e_var 0)) (show BlkOk N_is_plant (defScope s_is_plant) _ [("index", 1), ("station", 2)] from ⟨rfl, by decide +kernel, by decide +kernel, by decide +kernel, by decide +kernel⟩) (fun _ _ _ _ _ => (g_tup rfl (gs_cons (g_name HN rfl (by first | exact .inl rfl | exact .inr rfl) rfl) (gs_cons (g_name HN rfl (by first | exact .inl rfl | exact .inr rfl) rfl) gs_nil)))) (fun _ _ _ _ _ => ts_nil) (fun _ _ _ _ _ => (e_fz (e_call d_in_range (pa_cons (ad_ex (e_var 2)) (pa_cons (ad_ex e_int) (pa_cons (ad_ex (e_var 1)) pa_nil))) rfl rfl (by exact (show List.Nodup ([] : List Nat) from by decide)) (by rfl))))))) pa_nil)))))
abbrev s_require_plant : Stmt := topS 11
abbrev N_require_plant : List Str := ["value"]
theorem sc_require_plant : FnScope N_require_plant ["value"] (defScope s_require_plant) := ⟨rfl, rfl, rfl, by decide +kernel, rfl, by decide +kernel, by decide +kernel⟩
theorem ok_require_plant {P : Program} {w : World} {K : PySem.W.Frag} {mg : Str → Option Value} {base : Heap} {T : List Addr} {fa : Addr} {fd : FuncData} (F : Fun K "require_plant" "require_plant" s_require_plant fa fd) (hm : mg "require_plant" = some (.ref fa)) (M : Mg mg) {g_is_plant : WF} (c_is_plant : Fg P w K mg base T 3 "is_plant" 1 [] g_is_plant) :
    Fg P w K mg base T (4) "require_plant" 1 [] (gOf 1 1 (W_require_plant g_is_plant)) := by
  refine fg_of (N := N_require_plant) F hm sc_require_plant (F.binds (ps := ["value"]) fun _ _ _ _ _ _ us hl => match us, hl with | [_], _ => rfl) rfl (by decide) (by decide) fun X cdv A outer s0 H E Z HB => ?_
  obtain ⟨hX, hT, hgd, hr, hp, tk, hmg, hcd⟩ := HB
  have hu := hr.units
  subst hX hT
  have d_is_plant := c_is_plant.to hgd hr (by decide)
  have HN := sc_require_plant.nd
  exact (ss_one (s_if (t_not (t_val (e_call d_is_plant (pa_cons (ad_ex (e_var 0)) pa_nil) rfl rfl (by exact (show List.Nodup ([] : List Nat) from by decide)) (by rfl))))
  (ss_one s_never)
  ss_nil))
abbrev s_require_station : Stmt := topS 12
abbrev N_require_station : List Str := ["plant", "value"]
theorem sc_require_station : FnScope N_require_station ["plant", "value"] (defScope s_require_station) := ⟨rfl, rfl, rfl, by decide +kernel, rfl, by decide +kernel, by decide +kernel⟩
theorem ok_require_station {P : Program} {w : World} {K : PySem.W.Frag} {mg : Str → Option Value} {base : Heap} {T : List Addr} {fa : Addr} {fd : FuncData} (F : Fun K "require_station" "require_station" s_require_station fa fd) (hm : mg "require_station" = some (.ref fa)) (M : Mg mg) {g_in_range : WF} (c_in_range : Fg P w K mg base T 2 "in_range" 3 [] g_in_range) :
    Fg P w K mg base T (3) "require_station" 2 [] (gOf 2 2 (W_require_station g_in_range)) := by
  refine fg_of (N := N_require_station) F hm sc_require_station (F.binds (ps := ["plant", "value"]) fun _ _ _ _ _ _ us hl => match us, hl with | [_, _], _ => rfl) rfl (by decide) (by decide) fun X cdv A outer s0 H E Z HB => ?_
  obtain ⟨hX, hT, hgd, hr, hp, tk, hmg, hcd⟩ := HB
  have hu := hr.units
  subst hX hT
  have d_in_range := c_in_range.to hgd hr (by decide)
  have HN := sc_require_station.nd
  exact (ss_one (s_if (t_not (t_val (e_call d_in_range (pa_cons (ad_ex (e_var 1)) (pa_cons (ad_ex e_int) (pa_cons (ad_ex (e_callB call_len rd_len (by rfl) M.b_len (by rfl) (pa_cons (ad_ex (e_var 0)) pa_nil))) pa_nil))) rfl rfl (by exact (show List.Nodup ([] : List Nat) from by decide)) (by rfl))))
  (ss_one s_never)
  ss_nil))
abbrev s_valid_stock : Stmt := topS 14
abbrev N_valid_stock : List Str := ["plant", "value", "box"]
theorem sc_valid_stock : FnScope N_valid_stock ["plant", "value"] (defScope s_valid_stock) := ⟨rfl, rfl, rfl, by decide +kernel, rfl, by decide +kernel, by decide +kernel⟩
theorem ok_valid_stock {P : Program} {w : World} {K : PySem.W.Frag} {mg : Str → Option Value} {base : Heap} {T : List Addr} {fa : Addr} {fd : FuncData} (F : Fun K "valid_stock" "valid_stock" s_valid_stock fa fd) (hm : mg "valid_stock" = some (.ref fa)) (M : Mg mg) {g_is_int : WF} (c_is_int : Fg P w K mg base T 1 "is_int" 1 [] g_is_int) :
    Fg P w K mg base T (2) "valid_stock" 2 [] (gOf 2 3 (W_valid_stock g_is_int)) := by
  refine fg_of (N := N_valid_stock) F hm sc_valid_stock (F.binds (ps := ["plant", "value"]) fun _ _ _ _ _ _ us hl => match us, hl with | [_, _], _ => rfl) rfl (by decide) (by decide) fun X cdv A outer s0 H E Z HB => ?_
  obtain ⟨hX, hT, hgd, hr, hp, tk, hmg, hcd⟩ := HB
  have hu := hr.units
  subst hX hT
  have d_is_int := c_is_int.to hgd hr (by decide)
  have HN := sc_valid_stock.nd
  exact (ss_cons (s_if (L2.PW.pt (tw_or (t_not (t_val (e_isi tyN_tuple (ad_ex (e_var 1)) (by rfl) M.b_isinstance (by rfl) M.b_tuple (by rfl)))) (tw_or (t_cmp (op_neA hu) rd_neA (ad_ex (e_callB call_len rd_len (by rfl) M.b_len (by rfl) (pa_cons (ad_ex (e_var 1)) pa_nil))) (ad_ex (e_bin op_addAll rd_add (ad_ex (e_callB call_len rd_len (by rfl) M.b_len (by rfl) (pa_cons (ad_ex (e_var 0)) pa_nil))) (ad_ex e_int))) (nomark _)) (tw_or1 (t_not (t_val (e_callB (cr_all rfl) rd_all (by rfl) M.b_all (by rfl) (pa_cons (ad_ex (e_lf (e_lc (ow := [("box", 2)]) rfl HN (i_seq (e_var 1)) (show BlkOk N_valid_stock (defScope s_valid_stock) _ [("box", 2)] from ⟨rfl, by decide +kernel, by decide +kernel, by decide +kernel, by decide +kernel⟩) (fun _ _ _ _ _ => (g_name HN rfl (by first | exact .inl rfl | exact .inr rfl) rfl)) (fun _ _ _ _ _ => ts_nil) (fun _ _ _ _ _ => (e_fz (e_call d_is_int (pa_cons (ad_ex (e_var 2)) pa_nil) rfl rfl (by exact (show List.Nodup ([] : List Nat) from by decide)) (by rfl))))))) pa_nil))))))))
  (ss_one (s_ret e_bl))
  ss_nil)
  (ss_one (s_ret (e_cmp (op_eqA hu) rd_eqA (ad_ex (e_lenSet (by rfl) M.b_len (by rfl) M.b_set (e_var 1))) (ad_ex (e_callB call_len rd_len (by rfl) M.b_len (by rfl) (pa_cons (ad_ex (e_var 1)) pa_nil))) (nomark _)))))
abbrev s_require_stock : Stmt := topS 15
abbrev N_require_stock : List Str := ["plant", "value"]
theorem sc_require_stock : FnScope N_require_stock ["plant", "value"] (defScope s_require_stock) := ⟨rfl, rfl, rfl, by decide +kernel, rfl, by decide +kernel, by decide +kernel⟩
theorem ok_require_stock {P : Program} {w : World} {K : PySem.W.Frag} {mg : Str → Option Value} {base : Heap} {T : List Addr} {fa : Addr} {fd : FuncData} (F : Fun K "require_stock" "require_stock" s_require_stock fa fd) (hm : mg "require_stock" = some (.ref fa)) (M : Mg mg) {g_valid_stock : WF} (c_valid_stock : Fg P w K mg base T 2 "valid_stock" 2 [] g_valid_stock) :
    Fg P w K mg base T (3) "require_stock" 2 [] (gOf 2 2 (W_require_stock g_valid_stock)) := by
  refine fg_of (N := N_require_stock) F hm sc_require_stock (F.binds (ps := ["plant", "value"]) fun _ _ _ _ _ _ us hl => match us, hl with | [_, _], _ => rfl) rfl (by decide) (by decide) fun X cdv A outer s0 H E Z HB => ?_
  obtain ⟨hX, hT, hgd, hr, hp, tk, hmg, hcd⟩ := HB
  have hu := hr.units
  subst hX hT
  have d_valid_stock := c_valid_stock.to hgd hr (by decide)
  have HN := sc_require_stock.nd
  exact (ss_one (s_if (t_not (t_val (e_call d_valid_stock (pa_cons (ad_ex (e_var 0)) (pa_cons (ad_ex (e_var 1)) pa_nil)) rfl rfl (by exact (show List.Nodup ([] : List Nat) from by decide)) (by rfl))))
  (ss_one s_never)
  ss_nil))
abbrev s_ranks : Stmt := topS 16
abbrev N_ranks : List Str := ["stock", "rank", "index", "box"]
theorem sc_ranks : FnScope N_ranks ["stock"] (defScope s_ranks) := ⟨rfl, rfl, rfl, by decide +kernel, rfl, by decide +kernel, by decide +kernel⟩
theorem ok_ranks {P : Program} {w : World} {K : PySem.W.Frag} {mg : Str → Option Value} {base : Heap} {T : List Addr} {fa : Addr} {fd : FuncData} (F : Fun K "ranks" "ranks" s_ranks fa fd) (hm : mg "ranks" = some (.ref fa)) (M : Mg mg) :
    Fg P w K mg base T (1) "ranks" 1 [] (gOf 1 4 (W_ranks)) := by
  refine fg_of (N := N_ranks) F hm sc_ranks (F.binds (ps := ["stock"]) fun _ _ _ _ _ _ us hl => match us, hl with | [_], _ => rfl) rfl (by decide) (by decide) fun X cdv A outer s0 H E Z HB => ?_
  obtain ⟨hX, hT, hgd, hr, hp, tk, hmg, hcd⟩ := HB
  have hu := hr.units
  subst hX hT
  have HN := sc_ranks.nd
  exact (ss_cons (s_set (i := 1) HN rfl (by first | exact .inl rfl | exact .inr rfl) (by decide) (e_df (e_dc (ow := [("index", 2), ("box", 3)]) rfl HN (i_enum (by rfl) M.b_enumerate (e_callB (cr_sortDt hu) rd_sortD (by rfl) M.b_sorted (by rfl) (pa_cons (ad_ex (e_var 0)) pa_nil))) (show BlkOk N_ranks (defScope s_ranks) _ [("index", 2), ("box", 3)] from ⟨rfl, by decide +kernel, by decide +kernel, by decide +kernel, by decide +kernel⟩) (fun _ _ _ _ _ => (g_tup rfl (gs_cons (g_name HN rfl (by first | exact .inl rfl | exact .inr rfl) rfl) (gs_cons (g_name HN rfl (by first | exact .inl rfl | exact .inr rfl) rfl) gs_nil)))) (fun _ _ _ _ _ => ts_nil) (fun _ _ _ _ _ => (e_var 3)) (fun _ _ _ _ _ => (e_var 2)))))
  (ss_one (s_ret (e_callT call_tuple_of rd_tuple (by rfl) M.b_tuple (by rfl) (pa_cons (ad_ex (e_lf (e_lc (ow := [("box", 3)]) rfl HN (i_seq (e_var 0)) (show BlkOk N_ranks (defScope s_ranks) _ [("box", 3)] from ⟨rfl, by decide +kernel, by decide +kernel, by decide +kernel, by decide +kernel⟩) (fun _ _ _ _ _ => (g_name HN rfl (by first | exact .inl rfl | exact .inr rfl) rfl)) (fun _ _ _ _ _ => ts_nil) (fun _ _ _ _ _ => (e_dget (u1 hu) (ad_nm 1) (ad_ex (e_var 3)) (fun _ _ => rfl)))))) pa_nil)))))
abbrev s_wrong_stations : Stmt := topS 18
abbrev N_wrong_stations : List Str := ["plant", "stock", "index", "station"]
theorem sc_wrong_stations : FnScope N_wrong_stations ["plant", "stock"] (defScope s_wrong_stations) := ⟨rfl, rfl, rfl, by decide +kernel, rfl, by decide +kernel, by decide +kernel⟩
theorem ok_wrong_stations {P : Program} {w : World} {K : PySem.W.Frag} {mg : Str → Option Value} {base : Heap} {T : List Addr} {fa : Addr} {fd : FuncData} (F : Fun K "wrong_stations" "wrong_stations" s_wrong_stations fa fd) (hm : mg "wrong_stations" = some (.ref fa)) (M : Mg mg) :
    Fg P w K mg base T (1) "wrong_stations" 2 [] (gOf 2 4 (W_wrong_stations)) := by
  refine fg_of (N := N_wrong_stations) F hm sc_wrong_stations (F.binds (ps := ["plant", "stock"]) fun _ _ _ _ _ _ us hl => match us, hl with | [_, _], _ => rfl) rfl (by decide) (by decide) fun X cdv A outer s0 H E Z HB => ?_
  obtain ⟨hX, hT, hgd, hr, hp, tk, hmg, hcd⟩ := HB
  have hu := hr.units
  subst hX hT
  have HN := sc_wrong_stations.nd
  exact (ss_one (s_ret (e_lf (e_lc (ow := [("index", 2), ("station", 3)]) rfl HN (i_enum (by rfl) M.b_enumerate (e_var 0)) (show BlkOk N_wrong_stations (defScope s_wrong_stations) _ [("index", 2), ("station", 3)] from ⟨rfl, by decide +kernel, by decide +kernel, by decide +kernel, by decide +kernel⟩) (fun _ _ _ _ _ => (g_tup rfl (gs_cons (g_name HN rfl (by first | exact .inl rfl | exact .inr rfl) rfl) (gs_cons (g_name HN rfl (by first | exact .inl rfl | exact .inr rfl) rfl) gs_nil)))) (fun _ _ _ _ _ => (ts_one (t_cmp op_lt rd_lt (ad_ex (e_ix ix_seq rd_ix (ad_ex (e_var 1)) (ad_ex (e_bin op_addAll rd_add (ad_ex (e_var 2)) (ad_ex e_int))) (fun _ _ => rfl))) (ad_ex (e_ix ix_seq rd_ix (ad_ex (e_var 1)) (ad_ex (e_var 3)) (fun _ _ => rfl))) (nomark _)))) (fun _ _ _ _ _ => (e_fz (e_bin op_addAll rd_add (ad_ex (e_var 2)) (ad_ex e_int))))))))
abbrev s_require_ordered : Stmt := topS 20
abbrev N_require_ordered : List Str := ["plant", "stock"]
theorem sc_require_ordered : FnScope N_require_ordered ["plant", "stock"] (defScope s_require_ordered) := ⟨rfl, rfl, rfl, by decide +kernel, rfl, by decide +kernel, by decide +kernel⟩
theorem ok_require_ordered {P : Program} {w : World} {K : PySem.W.Frag} {mg : Str → Option Value} {base : Heap} {T : List Addr} {fa : Addr} {fd : FuncData} (F : Fun K "require_ordered" "require_ordered" s_require_ordered fa fd) (hm : mg "require_ordered" = some (.ref fa)) (M : Mg mg) {g_wrong_stations : WF} (c_wrong_stations : Fg P w K mg base T 1 "wrong_stations" 2 [] g_wrong_stations) :
    Fg P w K mg base T (2) "require_ordered" 2 [] (gOf 2 2 (W_require_ordered g_wrong_stations)) := by
  refine fg_of (N := N_require_ordered) F hm sc_require_ordered (F.binds (ps := ["plant", "stock"]) fun _ _ _ _ _ _ us hl => match us, hl with | [_, _], _ => rfl) rfl (by decide) (by decide) fun X cdv A outer s0 H E Z HB => ?_
  obtain ⟨hX, hT, hgd, hr, hp, tk, hmg, hcd⟩ := HB
  have hu := hr.units
  subst hX hT
  have d_wrong_stations := c_wrong_stations.to hgd hr (by decide)
  have HN := sc_require_ordered.nd
  exact (ss_one (s_if (t_cmp (op_neA hu) rd_neA (ad_ex (e_call d_wrong_stations (pa_cons (ad_ex (e_var 0)) (pa_cons (ad_ex (e_var 1)) pa_nil)) rfl rfl (by exact (show List.Nodup ([] : List Nat) from by decide)) (by rfl))) (ad_ex (e_list pa_nil)) (nomark _))
  (ss_one s_never)
  ss_nil))
abbrev s_word_table : Stmt := topS 21
abbrev N_word_table : List Str := ["plant", "ranked", "found", "rank", "station", "here", "upper"]
theorem sc_word_table : FnScope N_word_table ["plant", "ranked"] (defScope s_word_table) := ⟨rfl, rfl, rfl, by decide +kernel, rfl, by decide +kernel, by decide +kernel⟩
theorem ok_word_table {P : Program} {w : World} {K : PySem.W.Frag} {mg : Str → Option Value} {base : Heap} {T : List Addr} {fa : Addr} {fd : FuncData} (F : Fun K "word_table" "word_table" s_word_table fa fd) (hm : mg "word_table" = some (.ref fa)) (M : Mg mg) {lc lP : Addr} (TB : LamX.TabB base mg lc lP) (hcf : fd.code = .ref lc) (hPT : lP ∈ T) :
    Fg P w K mg base T (1) "word_table" 2 [] (gOf 2 7 (W_word_table)) := by
  refine fg_of (N := N_word_table) F hm sc_word_table (F.binds (ps := ["plant", "ranked"]) fun _ _ _ _ _ _ us hl => match us, hl with | [_, _], _ => rfl) rfl (by decide) (by decide) fun X cdv A outer s0 H E Z HB => ?_
  obtain ⟨hX, hT, hgd, hr, hp, tk, hmg, hcd⟩ := HB
  have hu := hr.units
  subst hX hT
  have HN := sc_word_table.nd
  exact (ss_cons (s_setLc (ow := [("rank", 3)]) (i := 2) up_id rfl HN rfl rfl (by decide) rfl (i_seq (e_var 1)) (show BlkOk N_word_table (defScope s_word_table) _ [("rank", 3)] from ⟨rfl, by decide +kernel, by decide +kernel, by decide +kernel, by decide +kernel⟩) (fun _ _ _ _ _ => (g_name HN rfl (by first | exact .inl rfl | exact .inr rfl) rfl)) (fun _ _ _ _ _ => ts_nil) (fun _ _ _ _ _ => (e_list pa_nil)))
  (ss_cons (s_for (own := [4]) hp rfl (i_seq (e_sortKey 1 (by rfl) M.b_sorted (by rfl) M.b_range TB (hcd.symm.trans hcf) hPT rfl ⟨rfl, rfl, rfl, by decide +kernel, rfl, rfl, by decide +kernel⟩ rfl hr (fun _ _ _ _ _ _ => rfl) rfl rfl (fun _ _ => rfl) (e_callB call_len rd_len (by rfl) M.b_len (by rfl) (pa_cons (ad_ex (e_var 1)) pa_nil)))) (g_name HN rfl (by first | exact .inl rfl | exact .inr rfl) rfl) (by decide)
  (ss_cons (s_set (i := 5) HN rfl (by first | exact .inl rfl | exact .inr rfl) (by decide) (e_var 4))
  (ss_one (s_while hp (t_cmp op_gt rd_gt (ad_ex (e_var 5)) (ad_ex e_int) (nomark _))
  (ss_cons (s_set (i := 6) HN rfl (by first | exact .inl rfl | exact .inr rfl) (by decide) (e_ix ix_seq rd_ix (ad_ex (e_var 0)) (ad_ex (e_bin op_sub rd_sub (ad_ex (e_var 5)) (ad_ex e_int))) (fun _ _ => rfl)))
  (ss_cons (s_expr (e_mu2 2 PySem.F.plainAttrs_list PySem.F.slot_list_append PySem.F.type_list_append mt_append lm_append (e_var 6) (fun _ _ => rfl) (pa_cons (ad_ex (e_var 5)) pa_nil)))
  (ss_one (s_set (i := 5) HN rfl (by first | exact .inl rfl | exact .inr rfl) (by decide) (e_var 6)))))))))
  (ss_one (s_ret (e_mov 2)))))
abbrev s_word : Stmt := topS 22
abbrev N_word : List Str := ["plant", "stock", "station"]
theorem sc_word : FnScope N_word ["plant", "stock", "station"] (defScope s_word) := ⟨rfl, rfl, rfl, by decide +kernel, rfl, by decide +kernel, by decide +kernel⟩
def W_word (g_ranks : WF) (g_require_ordered : WF) (g_require_plant : WF) (g_require_station : WF) (g_require_stock : WF) (g_word_table : WF) : WS :=
  (sSeq (sDrop (wCall [.ex (wV 0)] g_require_plant))
  (sSeq (sDrop (wCall [.ex (wV 0), .ex (wV 1)] g_require_stock))
  (sSeq (sDrop (wCall [.ex (wV 0), .ex (wV 2)] g_require_station))
  (sSeq (sDrop (wCall [.ex (wV 0), .ex (wV 1)] g_require_ordered))
  (sRet (wIxO (wCall [.ex (wV 0), .ex (wFz (wCall [.ex (wV 1)] g_ranks))] g_word_table) (wV 2)))))))
theorem ok_word {P : Program} {w : World} {K : PySem.W.Frag} {mg : Str → Option Value} {base : Heap} {T : List Addr} {fa : Addr} {fd : FuncData} (F : Fun K "word" "word" s_word fa fd) (hm : mg "word" = some (.ref fa)) (M : Mg mg) {g_ranks : WF} (c_ranks : Fg P w K mg base T 1 "ranks" 1 [] g_ranks) {g_require_ordered : WF} (c_require_ordered : Fg P w K mg base T 2 "require_ordered" 2 [] g_require_ordered) {g_require_plant : WF} (c_require_plant : Fg P w K mg base T 4 "require_plant" 1 [] g_require_plant) {g_require_station : WF} (c_require_station : Fg P w K mg base T 3 "require_station" 2 [] g_require_station) {g_require_stock : WF} (c_require_stock : Fg P w K mg base T 3 "require_stock" 2 [] g_require_stock) {g_word_table : WF} (c_word_table : Fg P w K mg base T 1 "word_table" 2 [] g_word_table) :
    Fg P w K mg base T (5) "word" 3 [] (gOf 3 3 (W_word g_ranks g_require_ordered g_require_plant g_require_station g_require_stock g_word_table)) := by
  refine fg_of (N := N_word) F hm sc_word (F.binds (ps := ["plant", "stock", "station"]) fun _ _ _ _ _ _ us hl => match us, hl with | [_, _, _], _ => rfl) rfl (by decide) (by decide) fun X cdv A outer s0 H E Z HB => ?_
  obtain ⟨hX, hT, hgd, hr, hp, tk, hmg, hcd⟩ := HB
  have hu := hr.units
  subst hX hT
  have d_ranks := c_ranks.to hgd hr (by decide)
  have d_require_ordered := c_require_ordered.to hgd hr (by decide)
  have d_require_plant := c_require_plant.to hgd hr (by decide)
  have d_require_station := c_require_station.to hgd hr (by decide)
  have d_require_stock := c_require_stock.to hgd hr (by decide)
  have d_word_table := c_word_table.to hgd hr (by decide)
  have HN := sc_word.nd
  exact (ss_cons (s_expr (e_call d_require_plant (pa_cons (ad_ex (e_var 0)) pa_nil) rfl rfl (by exact (show List.Nodup ([] : List Nat) from by decide)) (by rfl)))
  (ss_cons (s_expr (e_call d_require_stock (pa_cons (ad_ex (e_var 0)) (pa_cons (ad_ex (e_var 1)) pa_nil)) rfl rfl (by exact (show List.Nodup ([] : List Nat) from by decide)) (by rfl)))
  (ss_cons (s_expr (e_call d_require_station (pa_cons (ad_ex (e_var 0)) (pa_cons (ad_ex (e_var 2)) pa_nil)) rfl rfl (by exact (show List.Nodup ([] : List Nat) from by decide)) (by rfl)))
  (ss_cons (s_expr (e_call d_require_ordered (pa_cons (ad_ex (e_var 0)) (pa_cons (ad_ex (e_var 1)) pa_nil)) rfl rfl (by exact (show List.Nodup ([] : List Nat) from by decide)) (by rfl)))
  (ss_one (s_ret (e_ixO (e_call d_word_table (pa_cons (ad_ex (e_var 0)) (pa_cons (ad_ex (e_fz (e_call d_ranks (pa_cons (ad_ex (e_var 1)) pa_nil) rfl rfl (by exact (show List.Nodup ([] : List Nat) from by decide)) (by rfl)))) pa_nil)) rfl rfl (by exact (show List.Nodup ([] : List Nat) from by decide)) (by rfl)) (e_var 2) (fun _ _ => rfl))))))))
abbrev s_words_of : Stmt := topS 23
abbrev N_words_of : List Str := ["plant", "stock"]
theorem sc_words_of : FnScope N_words_of ["plant", "stock"] (defScope s_words_of) := ⟨rfl, rfl, rfl, by decide +kernel, rfl, by decide +kernel, by decide +kernel⟩
def W_words_of (g_ranks : WF) (g_require_ordered : WF) (g_require_plant : WF) (g_require_stock : WF) (g_word_table : WF) : WS :=
  (sSeq (sDrop (wCall [.ex (wV 0)] g_require_plant))
  (sSeq (sDrop (wCall [.ex (wV 0), .ex (wV 1)] g_require_stock))
  (sSeq (sDrop (wCall [.ex (wV 0), .ex (wV 1)] g_require_ordered))
  (sRet (wCall [.ex (wV 0), .ex (wFz (wCall [.ex (wV 1)] g_ranks))] g_word_table)))))
theorem ok_words_of {P : Program} {w : World} {K : PySem.W.Frag} {mg : Str → Option Value} {base : Heap} {T : List Addr} {fa : Addr} {fd : FuncData} (F : Fun K "words_of" "words_of" s_words_of fa fd) (hm : mg "words_of" = some (.ref fa)) (M : Mg mg) {g_ranks : WF} (c_ranks : Fg P w K mg base T 1 "ranks" 1 [] g_ranks) {g_require_ordered : WF} (c_require_ordered : Fg P w K mg base T 2 "require_ordered" 2 [] g_require_ordered) {g_require_plant : WF} (c_require_plant : Fg P w K mg base T 4 "require_plant" 1 [] g_require_plant) {g_require_stock : WF} (c_require_stock : Fg P w K mg base T 3 "require_stock" 2 [] g_require_stock) {g_word_table : WF} (c_word_table : Fg P w K mg base T 1 "word_table" 2 [] g_word_table) :
    Fg P w K mg base T (5) "words_of" 2 [] (gOf 2 2 (W_words_of g_ranks g_require_ordered g_require_plant g_require_stock g_word_table)) := by
  refine fg_of (N := N_words_of) F hm sc_words_of (F.binds (ps := ["plant", "stock"]) fun _ _ _ _ _ _ us hl => match us, hl with | [_, _], _ => rfl) rfl (by decide) (by decide) fun X cdv A outer s0 H E Z HB => ?_
  obtain ⟨hX, hT, hgd, hr, hp, tk, hmg, hcd⟩ := HB
  have hu := hr.units
  subst hX hT
  have d_ranks := c_ranks.to hgd hr (by decide)
  have d_require_ordered := c_require_ordered.to hgd hr (by decide)
  have d_require_plant := c_require_plant.to hgd hr (by decide)
  have d_require_stock := c_require_stock.to hgd hr (by decide)
  have d_word_table := c_word_table.to hgd hr (by decide)
  have HN := sc_words_of.nd
  exact (ss_cons (s_expr (e_call d_require_plant (pa_cons (ad_ex (e_var 0)) pa_nil) rfl rfl (by exact (show List.Nodup ([] : List Nat) from by decide)) (by rfl)))
  (ss_cons (s_expr (e_call d_require_stock (pa_cons (ad_ex (e_var 0)) (pa_cons (ad_ex (e_var 1)) pa_nil)) rfl rfl (by exact (show List.Nodup ([] : List Nat) from by decide)) (by rfl)))
  (ss_cons (s_expr (e_call d_require_ordered (pa_cons (ad_ex (e_var 0)) (pa_cons (ad_ex (e_var 1)) pa_nil)) rfl rfl (by exact (show List.Nodup ([] : List Nat) from by decide)) (by rfl)))
  (ss_one (s_ret (e_call d_word_table (pa_cons (ad_ex (e_var 0)) (pa_cons (ad_ex (e_fz (e_call d_ranks (pa_cons (ad_ex (e_var 1)) pa_nil) rfl rfl (by exact (show List.Nodup ([] : List Nat) from by decide)) (by rfl)))) pa_nil)) rfl rfl (by exact (show List.Nodup ([] : List Nat) from by decide)) (by rfl)))))))
abbrev s__law_source : Stmt := topS 25
abbrev N__law_source : List Str := ["cell"]
theorem sc__law_source : FnScope N__law_source ["cell"] (defScope s__law_source) := ⟨rfl, rfl, rfl, by decide +kernel, rfl, by decide +kernel, by decide +kernel⟩
theorem ok__law_source {P : Program} {w : World} {K : PySem.W.Frag} {mg : Str → Option Value} {base : Heap} {T : List Addr} {fa : Addr} {fd : FuncData} (F : Fun K "_law_source" "_law_source" s__law_source fa fd) (hm : mg "_law_source" = some (.ref fa)) (M : Mg mg) :
    Fg P w K mg base T (1) "_law_source" 1 [] (gOf 1 1 (W__law_source)) := by
  refine fg_of (N := N__law_source) F hm sc__law_source (F.binds (ps := ["cell"]) fun _ _ _ _ _ _ us hl => match us, hl with | [_], _ => rfl) rfl (by decide) (by decide) fun X cdv A outer s0 H E Z HB => ?_
  obtain ⟨hX, hT, hgd, hr, hp, tk, hmg, hcd⟩ := HB
  have hu := hr.units
  subst hX hT
  have HN := sc__law_source.nd
  exact (ss_one (s_ret (e_list (pa_cons (ad_ex (e_callB (call_max2 rfl) rd_max2 (by rfl) M.b_max (by rfl) (pa_cons (ad_ex e_int) (pa_cons (ad_ex (e_bin op_sub rd_sub (ad_ex (e_var 0)) (ad_ex (e_bin op_powA rd_powA (ad_ex e_int) (ad_ex e_int))))) pa_nil)))) (pa_cons (ad_ex (e_bin op_mod rd_mod (ad_ex (e_var 0)) (ad_ex (e_bin op_addAll rd_add (ad_ex (e_bin op_powA rd_powA (ad_ex e_int) (ad_ex e_int))) (ad_ex e_int))))) (pa_cons (ad_ex e_int) pa_nil))))))
abbrev s__law_draw : Stmt := topS 26
abbrev N__law_draw : List Str := ["source", "limit", "digit", "mixed"]
theorem sc__law_draw : FnScope N__law_draw ["source", "limit"] (defScope s__law_draw) := ⟨rfl, rfl, rfl, by decide +kernel, rfl, by decide +kernel, by decide +kernel⟩
theorem ok__law_draw {P : Program} {w : World} {K : PySem.W.Frag} {mg : Str → Option Value} {base : Heap} {T : List Addr} {fa : Addr} {fd : FuncData} (F : Fun K "_law_draw" "_law_draw" s__law_draw fa fd) (hm : mg "_law_draw" = some (.ref fa)) (M : Mg mg) :
    Fg P w K mg base T (1) "_law_draw" 2 [0] (gOf 2 4 (W__law_draw)) := by
  refine fg_of (N := N__law_draw) F hm sc__law_draw (F.binds (ps := ["source", "limit"]) fun _ _ _ _ _ _ us hl => match us, hl with | [_, _], _ => rfl) rfl (by decide) (by decide) fun X cdv A outer s0 H E Z HB => ?_
  obtain ⟨hX, hT, hgd, hr, hp, tk, hmg, hcd⟩ := HB
  have hu := hr.units
  subst hX hT
  have HN := sc__law_draw.nd
  exact (ss_cons (s_if (t_cmp op_gt rd_gt (ad_ex (e_ix ix_seq rd_ix (ad_nm 0) (ad_ex e_int) (fun _ _ => rfl))) (ad_ex e_int) (nomark _))
  (ss_cons (s_set (i := 2) HN rfl (by first | exact .inl rfl | exact .inr rfl) (by decide) (e_bin op_mod rd_mod (ad_ex (e_ix ix_seq rd_ix (ad_nm 0) (ad_ex e_int) (fun _ _ => rfl))) (ad_ex (e_var 1))))
  (ss_cons (s_setI 0 (e_bin op_fdivW rd_div (ad_ex (e_ix ix_seq rd_ix (ad_nm 0) (ad_ex e_int) (fun _ _ => rfl))) (ad_ex (e_var 1))) e_int)
  (ss_one (s_ret (e_var 2)))))
  ss_nil)
  (ss_cons (s_setI 0 (e_fz (e_bin op_addAll rd_add (ad_ex (e_ix ix_seq rd_ix (ad_nm 0) (ad_ex e_int) (fun _ _ => rfl))) (ad_ex e_int))) e_int)
  (ss_cons (s_set (i := 3) HN rfl (by first | exact .inl rfl | exact .inr rfl) (by decide) (e_bin op_mod rd_mod (ad_ex (e_bin op_powA rd_powA (ad_ex (e_bin op_addAll rd_add (ad_ex (e_ix ix_seq rd_ix (ad_nm 0) (ad_ex e_int) (fun _ _ => rfl))) (ad_ex (e_bin op_mulAll rd_mulA (ad_ex e_int) (ad_ex (e_ix ix_seq rd_ix (ad_nm 0) (ad_ex e_int) (fun _ _ => rfl))))))) (ad_ex e_int))) (ad_ex (e_bin op_addAll rd_add (ad_ex (e_bin op_powA rd_powA (ad_ex e_int) (ad_ex e_int))) (ad_ex e_int)))))
  (ss_cons (s_set (i := 3) HN rfl (by first | exact .inl rfl | exact .inr rfl) (by decide) (e_bin op_mod rd_mod (ad_ex (e_bin op_powA rd_powA (ad_ex (e_bin op_addAll rd_add (ad_ex (e_var 3)) (ad_ex (e_bin op_mulAll rd_mulA (ad_ex e_int) (ad_ex (e_ix ix_seq rd_ix (ad_nm 0) (ad_ex e_int) (fun _ _ => rfl))))))) (ad_ex e_int))) (ad_ex (e_bin op_addAll rd_add (ad_ex (e_bin op_powA rd_powA (ad_ex e_int) (ad_ex e_int))) (ad_ex e_int)))))
  (ss_one (s_ret (e_bin op_mod rd_mod (ad_ex (e_bin op_fdivW rd_div (ad_ex (e_var 3)) (ad_ex e_int))) (ad_ex (e_var 1)))))))))
abbrev s__law_plant : Stmt := topS 27
abbrev N__law_plant : List Str := ["source", "most", "sizes_here", "many", "style", "found", "index", "near"]
theorem sc__law_plant : FnScope N__law_plant ["source", "most"] (defScope s__law_plant) := ⟨rfl, rfl, rfl, by decide +kernel, rfl, by decide +kernel, by decide +kernel⟩
theorem ok__law_plant {P : Program} {w : World} {K : PySem.W.Frag} {mg : Str → Option Value} {base : Heap} {T : List Addr} {fa : Addr} {fd : FuncData} (F : Fun K "_law_plant" "_law_plant" s__law_plant fa fd) (hm : mg "_law_plant" = some (.ref fa)) (M : Mg mg) {g__law_draw : WF} (c__law_draw : Fg P w K mg base T 1 "_law_draw" 2 [0] g__law_draw) :
    Fg P w K mg base T (2) "_law_plant" 2 [0] (gOf 2 8 (W__law_plant g__law_draw)) := by
  refine fg_of (N := N__law_plant) F hm sc__law_plant (F.binds (ps := ["source", "most"]) fun _ _ _ _ _ _ us hl => match us, hl with | [_, _], _ => rfl) rfl (by decide) (by decide) fun X cdv A outer s0 H E Z HB => ?_
  obtain ⟨hX, hT, hgd, hr, hp, tk, hmg, hcd⟩ := HB
  have hu := hr.units
  subst hX hT
  have d__law_draw := c__law_draw.to hgd hr (by decide)
  have HN := sc__law_plant.nd
  exact (ss_cons (s_set (i := 2) HN rfl (by first | exact .inl rfl | exact .inr rfl) (by decide) (e_fz (e_list (pa_cons (ad_ex (e_fz (e_bin op_addAll rd_add (ad_ex e_int) (ad_ex (e_call d__law_draw (pa_cons (ad_nm 0) (pa_cons (ad_ex (e_callB (call_min2 rfl) rd_min2 (by rfl) M.b_min (by rfl) (pa_cons (ad_ex (e_var 1)) (pa_cons (ad_ex e_int) pa_nil)))) pa_nil)) rfl rfl (by exact (show List.Nodup [0] from by decide)) (by rfl)))))) (pa_cons (ad_ex (e_fz (e_bin op_addAll rd_add (ad_ex e_int) (ad_ex (e_call d__law_draw (pa_cons (ad_nm 0) (pa_cons (ad_ex (e_var 1)) pa_nil)) rfl rfl (by exact (show List.Nodup [0] from by decide)) (by rfl)))))) (pa_cons (ad_ex (e_var 1)) pa_nil))))))
  (ss_cons (s_par3 (i := 3) (j := 4) (l := 5) rfl HN rfl rfl rfl (by decide) (by decide) (by decide) rfl rfl rfl (by decide) (by decide) (by decide) (e_ix ix_seq rd_ix (ad_ex (e_var 2)) (ad_ex (e_call d__law_draw (pa_cons (ad_nm 0) (pa_cons (ad_ex e_int) pa_nil)) rfl rfl (by exact (show List.Nodup [0] from by decide)) (by rfl))) (fun _ _ => rfl)) (e_fz (e_call d__law_draw (pa_cons (ad_nm 0) (pa_cons (ad_ex e_int) pa_nil)) rfl rfl (by exact (show List.Nodup [0] from by decide)) (by rfl))) (e_list pa_nil) rfl)
  (ss_cons (s_for (own := [6]) hp rfl (i_r1 (by rfl) M.b_range (e_bin op_sub rd_sub (ad_ex (e_var 3)) (ad_ex e_int))) (g_name HN rfl (by first | exact .inl rfl | exact .inr rfl) rfl) (by decide)
  (ss_cons (s_set (i := 7) HN rfl (by first | exact .inl rfl | exact .inr rfl) (by decide) (e_bin op_sub rd_sub (ad_ex (e_var 6)) (ad_ex (e_callB (call_min2 rfl) rd_min2 (by rfl) M.b_min (by rfl) (pa_cons (ad_ex (e_var 6)) (pa_cons (ad_ex (e_call d__law_draw (pa_cons (ad_nm 0) (pa_cons (ad_ex e_int) pa_nil)) rfl rfl (by exact (show List.Nodup [0] from by decide)) (by rfl))) pa_nil))))))
  (ss_one (s_expr (e_mu 5 PySem.F.plainAttrs_list PySem.F.slot_list_append PySem.F.type_list_append mt_append lm_append (pa_cons (ad_ex (e_ix ix_seq rd_ix (ad_ex (e_list (pa_cons (ad_ex (e_var 6)) (pa_cons (ad_ex e_int) (pa_cons (ad_ex (e_fz (e_call d__law_draw (pa_cons (ad_nm 0) (pa_cons (ad_ex (e_fz (e_bin op_addAll rd_add (ad_ex (e_var 6)) (ad_ex e_int)))) pa_nil)) rfl rfl (by exact (show List.Nodup [0] from by decide)) (by rfl)))) (pa_cons (ad_ex (e_var 7)) pa_nil)))))) (ad_ex (e_var 4)) (fun _ _ => rfl))) pa_nil))))))
  (ss_one (s_gf 5 (s_ret (e_callT call_tuple_of rd_tuple (by rfl) M.b_tuple (by rfl) (pa_cons (ad_nm 5) pa_nil))))))))
abbrev s__law_numbers : Stmt := topS 28
abbrev N__law_numbers : List Str := ["source", "many", "style", "found", "last", "turn"]
theorem sc__law_numbers : FnScope N__law_numbers ["source", "many"] (defScope s__law_numbers) := ⟨rfl, rfl, rfl, by decide +kernel, rfl, by decide +kernel, by decide +kernel⟩
theorem ok__law_numbers {P : Program} {w : World} {K : PySem.W.Frag} {mg : Str → Option Value} {base : Heap} {T : List Addr} {fa : Addr} {fd : FuncData} (F : Fun K "_law_numbers" "_law_numbers" s__law_numbers fa fd) (hm : mg "_law_numbers" = some (.ref fa)) (M : Mg mg) {g__law_draw : WF} (c__law_draw : Fg P w K mg base T 1 "_law_draw" 2 [0] g__law_draw) :
    Fg P w K mg base T (2) "_law_numbers" 2 [0] (gOf 2 6 (W__law_numbers g__law_draw)) := by
  refine fg_of (N := N__law_numbers) F hm sc__law_numbers (F.binds (ps := ["source", "many"]) fun _ _ _ _ _ _ us hl => match us, hl with | [_, _], _ => rfl) rfl (by decide) (by decide) fun X cdv A outer s0 H E Z HB => ?_
  obtain ⟨hX, hT, hgd, hr, hp, tk, hmg, hcd⟩ := HB
  have hu := hr.units
  subst hX hT
  have d__law_draw := c__law_draw.to hgd hr (by decide)
  have HN := sc__law_numbers.nd
  exact (ss_cons (s_set (i := 2) HN rfl (by first | exact .inl rfl | exact .inr rfl) (by decide) (e_fz (e_call d__law_draw (pa_cons (ad_nm 0) (pa_cons (ad_ex e_int) pa_nil)) rfl rfl (by exact (show List.Nodup [0] from by decide)) (by rfl))))
  (ss_cons (s_par (i := 3) (j := 4) rfl HN rfl rfl (by decide) rfl rfl (by decide) (by decide) (e_list pa_nil) (e_ix ix_seq rd_ix (ad_ex (e_list (pa_cons (ad_ex (e_un un_neg rd_neg (ad_ex e_int))) (pa_cons (ad_ex (e_un un_neg rd_neg (ad_ex e_int))) (pa_cons (ad_ex (e_bin op_powA rd_powA (ad_ex e_int) (ad_ex e_int))) (pa_cons (ad_ex (e_un un_neg rd_neg (ad_ex (e_bin op_powA rd_powA (ad_ex e_int) (ad_ex e_int))))) pa_nil)))))) (ad_ex (e_var 2)) (fun _ _ => rfl)) rfl)
  (ss_cons (s_for (own := [5]) hp rfl (i_r1 (by rfl) M.b_range (e_var 1)) (g_name HN rfl (by first | exact .inl rfl | exact .inr rfl) rfl) (by decide)
  (ss_cons (s_set (i := 4) HN rfl (by first | exact .inl rfl | exact .inr rfl) (by decide) (e_fz (e_bin op_addAll rd_add (ad_ex (e_bin op_addAll rd_add (ad_ex (e_var 4)) (ad_ex e_int))) (ad_ex (e_call d__law_draw (pa_cons (ad_nm 0) (pa_cons (ad_ex (e_ix ix_seq rd_ix (ad_ex (e_list (pa_cons (ad_ex e_int) (pa_cons (ad_ex e_int) (pa_cons (ad_ex e_int) (pa_cons (ad_ex (e_bin op_powA rd_powA (ad_ex e_int) (ad_ex e_int))) pa_nil)))))) (ad_ex (e_var 2)) (fun _ _ => rfl))) pa_nil)) rfl rfl (by exact (show List.Nodup [0] from by decide)) (by rfl))))))
  (ss_one (s_expr (e_mu 3 PySem.F.plainAttrs_list PySem.F.slot_list_append PySem.F.type_list_append mt_append lm_append (pa_cons (ad_ex (e_var 4)) pa_nil))))))
  (ss_one (s_ret (e_mov 3))))))
abbrev s__law_calm : Stmt := topS 29
abbrev N__law_calm : List Str := ["source", "plant", "placed", "free", "box", "station", "index", "upper"]
theorem sc__law_calm : FnScope N__law_calm ["source", "plant"] (defScope s__law_calm) := ⟨rfl, rfl, rfl, by decide +kernel, rfl, by decide +kernel, by decide +kernel⟩
theorem ok__law_calm {P : Program} {w : World} {K : PySem.W.Frag} {mg : Str → Option Value} {base : Heap} {T : List Addr} {fa : Addr} {fd : FuncData} (F : Fun K "_law_calm" "_law_calm" s__law_calm fa fd) (hm : mg "_law_calm" = some (.ref fa)) (M : Mg mg) {g__law_draw : WF} (c__law_draw : Fg P w K mg base T 1 "_law_draw" 2 [0] g__law_draw) {g__law_numbers : WF} (c__law_numbers : Fg P w K mg base T 2 "_law_numbers" 2 [0] g__law_numbers) :
    Fg P w K mg base T (3) "_law_calm" 2 [0] (gOf 2 8 (W__law_calm g__law_draw g__law_numbers)) := by
  refine fg_of (N := N__law_calm) F hm sc__law_calm (F.binds (ps := ["source", "plant"]) fun _ _ _ _ _ _ us hl => match us, hl with | [_, _], _ => rfl) rfl (by decide) (by decide) fun X cdv A outer s0 H E Z HB => ?_
  obtain ⟨hX, hT, hgd, hr, hp, tk, hmg, hcd⟩ := HB
  have hu := hr.units
  subst hX hT
  have d__law_draw := c__law_draw.to hgd hr (by decide)
  have d__law_numbers := c__law_numbers.to hgd hr (by decide)
  have HN := sc__law_calm.nd
  exact (ss_cons (s_asg (own := [2, 3]) (e_tupO (pa_cons (ad_ex e_dict0) (pa_cons (ad_ex (e_list (pa_cons (ad_ex e_int) pa_nil))) pa_nil))) (g_tup rfl (gs_cons (g_name HN rfl (by first | exact .inl rfl | exact .inr rfl) rfl) (gs_cons (g_name HN rfl (by first | exact .inl rfl | exact .inr rfl) rfl) gs_nil))) (by decide))
  (ss_cons (s_for (own := [4]) hp rfl (i_seq (e_call d__law_numbers (pa_cons (ad_nm 0) (pa_cons (ad_ex (e_fz (e_bin op_addAll rd_add (ad_ex (e_callB call_len rd_len (by rfl) M.b_len (by rfl) (pa_cons (ad_ex (e_var 1)) pa_nil))) (ad_ex e_int)))) pa_nil)) rfl rfl (by exact (show List.Nodup [0] from by decide)) (by rfl))) (g_name HN rfl (by first | exact .inl rfl | exact .inr rfl) rfl) (by decide)
  (ss_cons (s_set (i := 5) HN rfl (by first | exact .inl rfl | exact .inr rfl) (by decide) (e_fz (e_mu 3 PySem.F.plainAttrs_list PySem.F.slot_list_pop PySem.F.type_list_pop mt_popAt lm_popAt (pa_cons (ad_ex (e_fz (e_call d__law_draw (pa_cons (ad_nm 0) (pa_cons (ad_ex (e_callB call_len rd_len (by rfl) M.b_len (by rfl) (pa_cons (ad_nm 3) pa_nil))) pa_nil)) rfl rfl (by exact (show List.Nodup [0] from by decide)) (by rfl)))) pa_nil))))
  (ss_cons (s_setD 2 (u1 hu) (e_var 4) (e_var 5))
  (ss_one (s_expr (e_mu 3 PySem.F.plainAttrs_list PySem.F.slot_list_extend PySem.F.type_list_extend mt_extend lm_extend (pa_cons (ad_ex (e_fz (e_lf (e_lc (ow := [("index", 6), ("upper", 7)]) rfl HN (i_enum (by rfl) M.b_enumerate (e_var 1)) (show BlkOk N__law_calm (defScope s__law_calm) _ [("index", 6), ("upper", 7)] from ⟨rfl, by decide +kernel, by decide +kernel, by decide +kernel, by decide +kernel⟩) (fun _ _ _ _ _ => (g_tup rfl (gs_cons (g_name HN rfl (by first | exact .inl rfl | exact .inr rfl) rfl) (gs_cons (g_name HN rfl (by first | exact .inl rfl | exact .inr rfl) rfl) gs_nil)))) (fun _ _ _ _ _ => (ts_one (t_cmp (op_eqA hu) rd_eqA (ad_ex (e_var 7)) (ad_ex (e_var 5)) (nomark _)))) (fun _ _ _ _ _ => (e_fz (e_bin op_addAll rd_add (ad_ex (e_var 6)) (ad_ex e_int)))))))) pa_nil)))))))
  (ss_one (s_ret (e_callT call_tuple_of rd_tuple (by rfl) M.b_tuple (by rfl) (pa_cons (ad_ex (e_lf (e_lc (ow := [("station", 5)]) rfl HN (i_r1 (by rfl) M.b_range (e_bin op_addAll rd_add (ad_ex (e_callB call_len rd_len (by rfl) M.b_len (by rfl) (pa_cons (ad_ex (e_var 1)) pa_nil))) (ad_ex e_int))) (show BlkOk N__law_calm (defScope s__law_calm) _ [("station", 5)] from ⟨rfl, by decide +kernel, by decide +kernel, by decide +kernel, by decide +kernel⟩) (fun _ _ _ _ _ => (g_name HN rfl (by first | exact .inl rfl | exact .inr rfl) rfl)) (fun _ _ _ _ _ => ts_nil) (fun _ _ _ _ _ => (e_dget (u1 hu) (ad_nm 2) (ad_ex (e_var 5)) (fun _ _ => rfl)))))) pa_nil))))))
abbrev s__law_way : Stmt := topS 30
abbrev N__law_way : List Str := ["plant", "station", "found"]
theorem sc__law_way : FnScope N__law_way ["plant", "station"] (defScope s__law_way) := ⟨rfl, rfl, rfl, by decide +kernel, rfl, by decide +kernel, by decide +kernel⟩
theorem ok__law_way {P : Program} {w : World} {K : PySem.W.Frag} {mg : Str → Option Value} {base : Heap} {T : List Addr} {fa : Addr} {fd : FuncData} (F : Fun K "_law_way" "_law_way" s__law_way fa fd) (hm : mg "_law_way" = some (.ref fa)) (M : Mg mg) :
    Fg P w K mg base T (1) "_law_way" 2 [] (gOf 2 3 (W__law_way)) := by
  refine fg_of (N := N__law_way) F hm sc__law_way (F.binds (ps := ["plant", "station"]) fun _ _ _ _ _ _ us hl => match us, hl with | [_, _], _ => rfl) rfl (by decide) (by decide) fun X cdv A outer s0 H E Z HB => ?_
  obtain ⟨hX, hT, hgd, hr, hp, tk, hmg, hcd⟩ := HB
  have hu := hr.units
  subst hX hT
  have HN := sc__law_way.nd
  exact (ss_cons (s_set (i := 2) HN rfl (by first | exact .inl rfl | exact .inr rfl) (by decide) (e_list (pa_cons (ad_ex (e_var 1)) pa_nil)))
  (ss_cons (s_while hp (t_cmp op_gt rd_gt (ad_ex (e_ix ix_seq rd_ix (ad_nm 2) (ad_ex (e_un un_neg rd_neg (ad_ex e_int))) (fun _ _ => rfl))) (ad_ex e_int) (nomark _))
  (ss_one (s_expr (e_mu 2 PySem.F.plainAttrs_list PySem.F.slot_list_append PySem.F.type_list_append mt_append lm_append (pa_cons (ad_ex (e_ix ix_seq rd_ix (ad_ex (e_var 0)) (ad_ex (e_bin op_sub rd_sub (ad_ex (e_ix ix_seq rd_ix (ad_nm 2) (ad_ex (e_un un_neg rd_neg (ad_ex e_int))) (fun _ _ => rfl))) (ad_ex e_int))) (fun _ _ => rfl))) pa_nil)))))
  (ss_one (s_ret (e_mov 2)))))
abbrev s__law_letters : Stmt := topS 31
abbrev N__law_letters : List Str := ["plant", "stock", "found", "station", "row", "box", "other", "way"]
theorem sc__law_letters : FnScope N__law_letters ["plant", "stock"] (defScope s__law_letters) := ⟨rfl, rfl, rfl, by decide +kernel, rfl, by decide +kernel, by decide +kernel⟩
theorem ok__law_letters {P : Program} {w : World} {K : PySem.W.Frag} {mg : Str → Option Value} {base : Heap} {T : List Addr} {fa : Addr} {fd : FuncData} (F : Fun K "_law_letters" "_law_letters" s__law_letters fa fd) (hm : mg "_law_letters" = some (.ref fa)) (M : Mg mg) {g__law_way : WF} (c__law_way : Fg P w K mg base T 1 "_law_way" 2 [] g__law_way) :
    Fg P w K mg base T (2) "_law_letters" 2 [] (gOf 2 8 (W__law_letters g__law_way)) := by
  refine fg_of (N := N__law_letters) F hm sc__law_letters (F.binds (ps := ["plant", "stock"]) fun _ _ _ _ _ _ us hl => match us, hl with | [_, _], _ => rfl) rfl (by decide) (by decide) fun X cdv A outer s0 H E Z HB => ?_
  obtain ⟨hX, hT, hgd, hr, hp, tk, hmg, hcd⟩ := HB
  have hu := hr.units
  subst hX hT
  have d__law_way := c__law_way.to hgd hr (by decide)
  have HN := sc__law_letters.nd
  exact (ss_cons (s_set (i := 2) HN rfl (by first | exact .inl rfl | exact .inr rfl) (by decide) (e_list pa_nil))
  (ss_cons (s_for (own := [3]) hp rfl (i_r1 (by rfl) M.b_range (e_callB call_len rd_len (by rfl) M.b_len (by rfl) (pa_cons (ad_ex (e_var 1)) pa_nil))) (g_name HN rfl (by first | exact .inl rfl | exact .inr rfl) rfl) (by decide)
  (ss_cons (s_set (i := 4) HN rfl (by first | exact .inl rfl | exact .inr rfl) (by decide) (e_list pa_nil))
  (ss_cons (s_for (own := [5, 6]) hp rfl (i_seq (e_callB (cr_sortDt hu) rd_sortD (by rfl) M.b_sorted (by rfl) (pa_cons (ad_ex (e_lf (e_lc (ow := [("other", 6), ("box", 5)]) rfl HN (i_enum (by rfl) M.b_enumerate (e_var 1)) (show BlkOk N__law_letters (defScope s__law_letters) _ [("other", 6), ("box", 5)] from ⟨rfl, by decide +kernel, by decide +kernel, by decide +kernel, by decide +kernel⟩) (fun _ _ _ _ _ => (g_tup rfl (gs_cons (g_name HN rfl (by first | exact .inl rfl | exact .inr rfl) rfl) (gs_cons (g_name HN rfl (by first | exact .inl rfl | exact .inr rfl) rfl) gs_nil)))) (fun _ _ _ _ _ => ts_nil) (fun _ _ _ _ _ => (e_tuple (pa_cons (ad_ex (e_var 5)) (pa_cons (ad_ex (e_var 6)) pa_nil))))))) pa_nil))) (g_tup rfl (gs_cons (g_name HN rfl (by first | exact .inl rfl | exact .inr rfl) rfl) (gs_cons (g_name HN rfl (by first | exact .inl rfl | exact .inr rfl) rfl) gs_nil))) (by decide)
  (ss_cons (s_set (i := 7) HN rfl (by first | exact .inl rfl | exact .inr rfl) (by decide) (e_fz (e_call d__law_way (pa_cons (ad_ex (e_var 0)) (pa_cons (ad_ex (e_var 6)) pa_nil)) rfl rfl (by exact (show List.Nodup ([] : List Nat) from by decide)) (by rfl))))
  (ss_one (s_if (t_cmp op_in_seq rd_in (ad_ex (e_var 3)) (ad_ex (e_slice (ad_ex (e_var 7)) (p_of e_int) p_no)) (by rfl))
  (ss_one (s_expr (e_mu 4 PySem.F.plainAttrs_list PySem.F.slot_list_append PySem.F.type_list_append mt_append lm_append (pa_cons (ad_ex (e_ix ix_seq rd_ix (ad_ex (e_var 7)) (ad_ex (e_bin op_sub rd_sub (ad_ex (e_rmE .l PySem.F.plainAttrs_list PySem.F.slot_list_index PySem.F.type_list_index mt_index rd_indexL (e_var 7) (pa_cons (ad_ex (e_var 3)) pa_nil))) (ad_ex e_int))) (fun _ _ => rfl))) pa_nil))))
  ss_nil))))
  (ss_one (s_expr (e_mu 2 PySem.F.plainAttrs_list PySem.F.slot_list_append PySem.F.type_list_append mt_append lm_append (pa_cons (ad_ex (e_fz (e_mov 4))) pa_nil)))))))
  (ss_one (s_ret (e_mov 2)))))
abbrev s_law : Stmt := topS 32
abbrev N_law : List Str := ["script", "cell", "source", "turn", "plant", "stock", "due", "before", "again", "found", "rows", "station", "changed"]
theorem sc_law : FnScope N_law ["script"] (defScope s_law) := ⟨rfl, rfl, rfl, by decide +kernel, rfl, by decide +kernel, by decide +kernel⟩
def W_law (g__law_calm : WF) (g__law_letters : WF) (g__law_plant : WF) (g__law_source : WF) (g_word : WF) (g_words_of : WF) : WS :=
  (sSeq (sFor (wiS (wRd [.ex (wSl (.nm 0) .no (.of (wC (.int 6)))), .ex (wRd [.ex (wC (.int 0))] oLst)] oAdd)) (gN 1)
  (sSeq (sStore 2 (wCall [.ex (wV 1)] g__law_source))
  (sFor (wiR1 (wC (.int 2))) (gN 3)
  (sSeq (sStore 4 (wFz (wCall [.nm 2, .ex (wC (.int 40))] g__law_plant)))
  (sSeq (sStore 5 (wFz (wCall [.nm 2, .ex (wV 4)] g__law_calm)))
  (sSeq (sAsg (gT 2 (gsC (gN 6) (gsC (gN 7) gsN))) (wRd [.ex (wFz (wCall [.ex (wV 4), .ex (wV 5)] g__law_letters)), .ex (wRd [.ex (wRd [.ex (wV 4), .ex (wV 5)] oLst)] oRepr)] oTup))
  (sFor (wiR1 (wC (.int 2))) (gN 8)
  (sSeq (sStore 9 (wCall [.ex (wV 4), .ex (wV 5)] g_words_of))
  (sSeq (sStore 10 (wLc (wiR1 (wRd [.ex (wV 5)] oLen)) (gN 11) wYes (wCall [.ex (wV 4), .ex (wV 5), .ex (wV 11)] g_word) [11]))
  (sSeq (sIf (wTor (wPeekT (wTb (wRd [.ex (wRd [.ex (wRd [.ex (wV 9), .ex (wV 10)] oLst)] oRepr), .ex (wRd [.ex (wRd [.ex (wV 6), .ex (wV 6)] oLst)] oRepr)] (oEqA true)))) (wPeekT (wTb (wRd [.ex (wRd [.ex (wRd [.ex (wV 4), .ex (wV 5)] oLst)] oRepr), .ex (wV 7)] (oEqA true)))))
  (sRet (wC (.bool false)))
  sNext)
  (sSeq (sFor (wiR1 (wRd [.ex (wV 5)] oLen)) (gN 11)
  (sSeq (sDrop (wMu2 9 (wV 11) [(wV 11)] lmAppend))
  (sDrop (wMu2 10 (wV 11) [(wV 11)] lmAppend))))
  (sSeq (sStore 12 (wFz (wLf (wLc (wiR1 (wRd [.ex (wV 5)] oLen)) (gN 11) wYes (wFz (wRd [.ex (wRd [.ex (wV 6), .ex (wV 11)] oIx), .ex (wRd [.ex (wV 11)] oLst)] oAdd)) [11]))))
  (sSeq (sIf (wTor (wPeekT (wTb (wRd [.ex (wV 9), .ex (wV 12)] (oEqA true)))) (wPeekT (wTb (wRd [.ex (wV 10), .ex (wV 12)] (oEqA true)))))
  (sRet (wC (.bool false)))
  sNext)
  (sDrop (wMu "list" 9 [] lmClear)))))))))))))))
  (sRet (wAndV (wRd [.ex (wCall [.ex (wRd [.ex (wC (.int 0)), .ex (wC (.int 0)), .ex (wC (.int 2))] oTup), .ex (wRd [.ex (wC (.int 1)), .ex (wC (.int 3)), .ex (wC (.int 5)), .ex (wC (.int 6))] oTup)] g_words_of), .ex (wRd [.ex (wFz (wRd [.ex (wC (.int 1)), .ex (wC (.int 2)), .ex (wC (.int 2))] oLst)), .ex (wFz (wRd [] oLst)), .ex (wFz (wRd [.ex (wC (.int 3))] oLst)), .ex (wFz (wRd [] oLst))] oLst)] (oEqA false)) (wRd [.ex (wCall [.ex (wRd [] oTup), .ex (wRd [.ex (wC (.int 5))] oTup), .ex (wC (.int 0))] g_word), .ex (wRd [] oLst)] (oEqA false)))))
theorem ok_law {P : Program} {w : World} {K : PySem.W.Frag} {mg : Str → Option Value} {base : Heap} {T : List Addr} {fa : Addr} {fd : FuncData} (F : Fun K "law" "law" s_law fa fd) (M : Mg mg) {g__law_calm : WF} (c__law_calm : Fg P w K mg base T 3 "_law_calm" 2 [0] g__law_calm) {g__law_letters : WF} (c__law_letters : Fg P w K mg base T 2 "_law_letters" 2 [] g__law_letters) {g__law_plant : WF} (c__law_plant : Fg P w K mg base T 2 "_law_plant" 2 [0] g__law_plant) {g__law_source : WF} (c__law_source : Fg P w K mg base T 1 "_law_source" 1 [] g__law_source) {g_word : WF} (c_word : Fg P w K mg base T 5 "word" 3 [] g_word) {g_words_of : WF} (c_words_of : Fg P w K mg base T 5 "words_of" 2 [] g_words_of) :
    FnG P w K mg base (L2N.CX P w) 6 fa fd ["script"] (spD K T mg 1 [0] (gOf 1 13 (W_law g__law_calm g__law_letters g__law_plant g__law_source g_word g_words_of))) := by
  refine fn_of (N := N_law) F sc_law rfl (by decide) (by decide) fun X cdv A outer s0 H E Z HB => ?_
  obtain ⟨hX, hT, hgd, hr, hp, tk, hmg, hcd⟩ := HB
  have hu := hr.units
  subst hX hT
  have d__law_calm := c__law_calm.to hgd hr (by decide)
  have d__law_letters := c__law_letters.to hgd hr (by decide)
  have d__law_plant := c__law_plant.to hgd hr (by decide)
  have d__law_source := c__law_source.to hgd hr (by decide)
  have d_word := c_word.to hgd hr (by decide)
  have d_words_of := c_words_of.to hgd hr (by decide)
  have HN := sc_law.nd
  exact (ss_cons (s_for (own := [1]) hp rfl (i_seq (e_bin op_addAll rd_add (ad_ex (e_slice (ad_nm 0) p_no (p_of e_int))) (ad_ex (e_list (pa_cons (ad_ex e_int) pa_nil))))) (g_name HN rfl (by first | exact .inl rfl | exact .inr rfl) rfl) (by decide)
  (ss_cons (s_set (i := 2) HN rfl (by first | exact .inl rfl | exact .inr rfl) (by decide) (e_call d__law_source (pa_cons (ad_ex (e_var 1)) pa_nil) rfl rfl (by exact (show List.Nodup ([] : List Nat) from by decide)) (by rfl)))
  (ss_one (s_for (own := [3]) hp rfl (i_r1 (by rfl) M.b_range e_int) (g_name HN rfl (by first | exact .inl rfl | exact .inr rfl) rfl) (by decide)
  (ss_cons (s_set (i := 4) HN rfl (by first | exact .inl rfl | exact .inr rfl) (by decide) (e_fz (e_call d__law_plant (pa_cons (ad_nm 2) (pa_cons (ad_ex e_int) pa_nil)) rfl rfl (by exact (show List.Nodup [2] from by decide)) (by rfl))))
  (ss_cons (s_set (i := 5) HN rfl (by first | exact .inl rfl | exact .inr rfl) (by decide) (e_fz (e_call d__law_calm (pa_cons (ad_nm 2) (pa_cons (ad_ex (e_var 4)) pa_nil)) rfl rfl (by exact (show List.Nodup [2] from by decide)) (by rfl))))
  (ss_cons (s_asg (own := [6, 7]) (e_tuple (pa_cons (ad_ex (e_fz (e_call d__law_letters (pa_cons (ad_ex (e_var 4)) (pa_cons (ad_ex (e_var 5)) pa_nil)) rfl rfl (by exact (show List.Nodup ([] : List Nat) from by decide)) (by rfl)))) (pa_cons (ad_ex (e_callB (call_repr hgd hu) rd_repr (by rfl) M.b_repr (by rfl) (pa_cons (ad_ex (e_list (pa_cons (ad_ex (e_var 4)) (pa_cons (ad_ex (e_var 5)) pa_nil)))) pa_nil))) pa_nil))) (g_tup rfl (gs_cons (g_name HN rfl (by first | exact .inl rfl | exact .inr rfl) rfl) (gs_cons (g_name HN rfl (by first | exact .inl rfl | exact .inr rfl) rfl) gs_nil))) (by decide))
  (ss_one (s_for (own := [8]) hp rfl (i_r1 (by rfl) M.b_range e_int) (g_name HN rfl (by first | exact .inl rfl | exact .inr rfl) rfl) (by decide)
  (ss_cons (s_set (i := 9) HN rfl (by first | exact .inl rfl | exact .inr rfl) (by decide) (e_call d_words_of (pa_cons (ad_ex (e_var 4)) (pa_cons (ad_ex (e_var 5)) pa_nil)) rfl rfl (by exact (show List.Nodup ([] : List Nat) from by decide)) (by rfl)))
  (ss_cons (s_setLc (ow := [("station", 11)]) (i := 10) up_id rfl HN rfl rfl (by decide) rfl (i_r1 (by rfl) M.b_range (e_callB call_len rd_len (by rfl) M.b_len (by rfl) (pa_cons (ad_ex (e_var 5)) pa_nil))) (show BlkOk N_law (defScope s_law) _ [("station", 11)] from ⟨rfl, by decide +kernel, by decide +kernel, by decide +kernel, by decide +kernel⟩) (fun _ _ _ _ _ => (g_name HN rfl (by first | exact .inl rfl | exact .inr rfl) rfl)) (fun _ _ _ _ _ => ts_nil) (fun _ _ _ _ _ => (e_call d_word (pa_cons (ad_ex (e_var 4)) (pa_cons (ad_ex (e_var 5)) (pa_cons (ad_ex (e_var 11)) pa_nil))) rfl rfl (by exact (show List.Nodup ([] : List Nat) from by decide)) (by rfl))))
  (ss_cons (s_if (L2.PW.pt (tw_or (t_peek (t_cmp (op_neA hu) rd_neA (ad_ex (e_callB (call_repr hgd hu) rd_repr (by rfl) M.b_repr (by rfl) (pa_cons (ad_ex (e_list (pa_cons (ad_ex (e_var 9)) (pa_cons (ad_ex (e_var 10)) pa_nil)))) pa_nil))) (ad_ex (e_callB (call_repr hgd hu) rd_repr (by rfl) M.b_repr (by rfl) (pa_cons (ad_ex (e_list (pa_cons (ad_ex (e_var 6)) (pa_cons (ad_ex (e_var 6)) pa_nil)))) pa_nil))) (nomark _))) (tw_or1 (t_peek (t_cmp (op_neA hu) rd_neA (ad_ex (e_callB (call_repr hgd hu) rd_repr (by rfl) M.b_repr (by rfl) (pa_cons (ad_ex (e_list (pa_cons (ad_ex (e_var 4)) (pa_cons (ad_ex (e_var 5)) pa_nil)))) pa_nil))) (ad_ex (e_var 7)) (nomark _))))))
  (ss_one (s_ret e_bl))
  ss_nil)
  (ss_cons (s_for (own := [11]) hp rfl (i_r1 (by rfl) M.b_range (e_callB call_len rd_len (by rfl) M.b_len (by rfl) (pa_cons (ad_ex (e_var 5)) pa_nil))) (g_name HN rfl (by first | exact .inl rfl | exact .inr rfl) rfl) (by decide)
  (ss_cons (s_expr (e_mu2 9 PySem.F.plainAttrs_list PySem.F.slot_list_append PySem.F.type_list_append mt_append lm_append (e_var 11) (fun _ _ => rfl) (pa_cons (ad_ex (e_var 11)) pa_nil)))
  (ss_one (s_expr (e_mu2 10 PySem.F.plainAttrs_list PySem.F.slot_list_append PySem.F.type_list_append mt_append lm_append (e_var 11) (fun _ _ => rfl) (pa_cons (ad_ex (e_var 11)) pa_nil))))))
  (ss_cons (s_setLc (ow := [("station", 11)]) (i := 12) (up_fz.comp up_lf) rfl HN rfl rfl (by decide) rfl (i_r1 (by rfl) M.b_range (e_callB call_len rd_len (by rfl) M.b_len (by rfl) (pa_cons (ad_ex (e_var 5)) pa_nil))) (show BlkOk N_law (defScope s_law) _ [("station", 11)] from ⟨rfl, by decide +kernel, by decide +kernel, by decide +kernel, by decide +kernel⟩) (fun _ _ _ _ _ => (g_name HN rfl (by first | exact .inl rfl | exact .inr rfl) rfl)) (fun _ _ _ _ _ => ts_nil) (fun _ _ _ _ _ => (e_fz (e_bin op_addAll rd_add (ad_ex (e_ix ix_seq rd_ix (ad_ex (e_var 6)) (ad_ex (e_var 11)) (fun _ _ => rfl))) (ad_ex (e_list (pa_cons (ad_ex (e_var 11)) pa_nil)))))))
  (ss_cons (s_if (L2.PW.pt (tw_or (t_peek (t_cmp (op_neA hu) rd_neA (ad_ex (e_var 9)) (ad_ex (e_var 12)) (nomark _))) (tw_or1 (t_peek (t_cmp (op_neA hu) rd_neA (ad_ex (e_var 10)) (ad_ex (e_var 12)) (nomark _))))))
  (ss_one (s_ret e_bl))
  ss_nil)
  (ss_one (s_expr (e_mu0 9 PySem.F.plainAttrs_list PySem.F.slot_list_clear PySem.F.type_list_clear mt_clear lm_clear))))))))))))))))))
  (ss_one (s_ret (e_and (e_cmp (op_eqA hu) rd_eqA (ad_ex (e_call d_words_of (pa_cons (ad_ex (e_tuple (pa_cons (ad_ex e_int) (pa_cons (ad_ex e_int) (pa_cons (ad_ex e_int) pa_nil))))) (pa_cons (ad_ex (e_tuple (pa_cons (ad_ex e_int) (pa_cons (ad_ex e_int) (pa_cons (ad_ex e_int) (pa_cons (ad_ex e_int) pa_nil)))))) pa_nil)) rfl rfl (by exact (show List.Nodup ([] : List Nat) from by decide)) (by rfl))) (ad_ex (e_list (pa_cons (ad_ex (e_fz (e_list (pa_cons (ad_ex e_int) (pa_cons (ad_ex e_int) (pa_cons (ad_ex e_int) pa_nil)))))) (pa_cons (ad_ex (e_fz (e_list pa_nil))) (pa_cons (ad_ex (e_fz (e_list (pa_cons (ad_ex e_int) pa_nil)))) (pa_cons (ad_ex (e_fz (e_list pa_nil))) pa_nil)))))) (nomark _)) (e_one (e_cmp (op_eqA hu) rd_eqA (ad_ex (e_call d_word (pa_cons (ad_ex (e_tuple pa_nil)) (pa_cons (ad_ex (e_tuple (pa_cons (ad_ex e_int) pa_nil))) (pa_cons (ad_ex e_int) pa_nil))) rfl rfl (by exact (show List.Nodup ([] : List Nat) from by decide)) (by rfl))) (ad_ex (e_list pa_nil)) (nomark _)))))))
end K13
namespace Th
open Pt
variable {p : List Nat} {s : List Int}
end Th
namespace Pt
open PySem PySem.Spec L2
section
variable {ρ : En} {R : O → En → Prop} {T : Bool → En → Prop} {E : DE} {i : Nat} {w : WE} {wx : WEX} {wt : WT} {s t : WS} {cn : Str} {f : PyData} {k : O → Prop} {sub : Str → Option Bool} {xc : Ex → En → Prop}
@[simp] theorem x_wPeek : wPeek w ρ R = w (ρ.map snapO) fun d _ => asF d fun f => flatP f = true ∧ R (.fz f) ρ := rfl
@[simp] theorem x_wPeekT : wPeekT wt ρ T = wt (ρ.map snapO) fun b _ => T b ρ := rfl
@[simp] theorem x_snap1 : snapO (.fz f) = .fz f := rfl
@[simp] theorem x_snap2 : snapO .hid = .hid := rfl
@[simp] theorem x_snap3 {ds : List PyData} : snapO (.tn ds) = .tn ds := rfl
@[simp] theorem x_snap4 {ns : List Int} : snapO (.scr ns) = .scr ns := rfl
@[simp] theorem x_snap5 {ds : List PyData} : snapO (.lf ds) = .fz (.list ds) := rfl
@[simp] theorem x_snap6 {c : Str} {gs : List (Str × O)} : snapO (.oi c gs) = .hid := rfl
@[simp] theorem x_flP1 {b : Bool} : flatP (.bool b) = true := rfl
@[simp] theorem x_flP2 {b : Int} : flatP (.int b) = true := rfl
@[simp] theorem x_flP3 {b : Str} : flatP (.str b) = true := rfl
@[simp] theorem x_flP4 : flatP .none = true := rfl
@[simp] theorem x_isiT {Ts : List String} : oIsiT Ts [.fz f] k = ∃ t, tyO (.fz f) = some t ∧ k (.fz (.bool (Ts.any (isSub t)))) := rfl
@[simp] theorem x_isX {d y : Str} {fs : List (Str × PyData)} : oIsX d [.exn y fs] k = (ES.contains y = true ∧ k (.fz (.bool (isA y d)))) := rfl
@[simp] theorem x_isXT {ds : List Str} {y : Str} {fs : List (Str × PyData)} : oIsXT ds [.exn y fs] k = (ES.contains y = true ∧ k (.fz (.bool (ds.any (isA y))))) := rfl
@[simp] theorem x_wVx : wVx i ρ R = asXn (nth ρ i) fun c f => R (.exn c f) ρ := rfl
@[simp] theorem x_asXn {fs : List (Str × PyData)} {kx : Str → List (Str × PyData) → Prop} : asXn (.exn cn fs) kx = kx cn fs := rfl
@[simp] theorem x_nhX {p : Prop} {fs : List (Str × PyData)} : notHid (.exn cn fs) p = p := rfl
@[simp] theorem x_wLenO {a : AD} {g : WF} : wLenO a cn g ρ R = wMeth a cn "__len__" [] g ρ fun d ρ1 => asI d fun n => (0 ≤ n ∧ n < 2 ^ 63) ∧ R (.fz (.int n)) ρ1 := rfl
@[simp] theorem x_wEqO {a b : AD} {g : WF} : wEqO a b cn g ρ R = wCall [a, b] (eqG cn g) ρ fun d ρ1 => asB d fun c => R (.fz (.bool c)) ρ1 := rfl
@[simp] theorem x_eqG {g : WF} {x y : O} : eqG cn g [x, y] R = ((isCM cn "__eq__" x ∧ isCM cn "__eq__" y) ∧ g [x, y] R) := propext ⟨fun ⟨⟨_, _, e, h⟩, h2⟩ => by cases e; exact ⟨h, h2⟩, fun ⟨h, h2⟩ => ⟨⟨_, _, rfl, h⟩, h2⟩⟩
@[simp] theorem x_sRaise : sRaise cn E ρ = E.xc ⟨cn, []⟩ ρ := rfl
@[simp] theorem x_sDropX : sDropX wx E ρ = wx E.xc ρ fun _ ρ1 => E.nx ρ1 := rfl
@[simp] theorem x_sRetX : sRetX wx E ρ = wx E.xc ρ fun d ρ1 => E.rt d ρ1 := rfl
@[simp] theorem x_sStoreX : sStoreX i wx E ρ = wx E.xc ρ fun d ρ1 => E.nx (ρ1.set i d) := rfl
@[simp] theorem x_wFzX : wFzX wx xc ρ R = wx xc ρ fun d ρ1 => ∃ f, frO d = some f ∧ R (.fz f) ρ1 := rfl
@[simp] theorem x_pickT {p q : Prop} : pick (some true) p q = p := rfl
@[simp] theorem x_pickF {p q : Prop} : pick (some false) p q = q := rfl
@[simp] theorem x_wCallX {as : List AD} {g : WFX} : wCallX as g xc ρ R = wADs as ρ fun ds ρ1 => callA as ds ρ1 fun xs ρ2 => g xs (fun x ρf => xc x (backA as ρf ρ2)) fun d ρf => R d (backA as ρf ρ2) := rfl
@[simp] theorem x_nX {g : WFX} {ds : List O} : nX g ds R = g ds (fun _ _ => False) R := rfl
@[simp] theorem x_tryAs : sTryAs i sub s t E ρ = s { E with xc := fun x ρ' => pick (sub x.cn) (t (suE i E) (ρ'.set i (.exn x.cn x.fs))) (E.xc x ρ') } ρ := rfl
@[simp] theorem x_tryOnly : sTryOnly sub s t E ρ = s { E with xc := fun x ρ' => pick (sub x.cn) (t { E with xc := fun _ _ => False } ρ') (E.xc x ρ') } ρ := rfl
@[simp] theorem x_dX1 : dX (.fz f) = .fz f := rfl
@[simp] theorem x_dX2 : dX .hid = .hid := rfl
@[simp] theorem x_dX3 {ds : List PyData} : dX (.lf ds) = .lf ds := rfl
@[simp] theorem x_dX4 {fs : List (Str × PyData)} : dX (.exn cn fs) = .hid := rfl
@[simp] theorem x_dX5 {ds : List PyData} : dX (.tn ds) = .tn ds := rfl
@[simp] theorem x_dX6 {ns : List Int} : dX (.scr ns) = .scr ns := rfl
@[simp] theorem x_dX7 {gs : List (Str × O)} : dX (.oi cn gs) = .oi cn (dXf gs) := rfl
@[simp] theorem x_suNx : (suE i E).nx ρ = E.nx ((ρ.set i .hid).map dX) := rfl
@[simp] theorem x_suRt {d : O} : (suE i E).rt d ρ = E.rt (dX d) (ρ.map dX) := rfl
end
end Pt
namespace K13
open PySem PySem.Spec L2 Pt Sh St Sw FB Th
def G_words_of : WF := fun ds R => ∃ p s b, ds = [.fz (tupN p), .fz (tupI s)] ∧ PlantOk p ∧ SOk p.length b s ∧ Th.Ord p s ∧ ∀ ρ, R (.ol (rowsF p (W p s))) ρ
theorem sp_words_of : ∀ ds R, G_words_of ds R → gOf 2 2 (W_words_of G_ranks G_require_ordered G_require_plant G_require_stock G_word_table) ds R := by
  rintro _ R ⟨p, s, b, rfl, hp, hs, ho, h⟩
  refine ⟨rfl, ?_⟩
  have hpl := hp.1
  have hsl := hs.1
  have eW : W p (rks s) = W p s := funext fun u => W_rks (SOk.inj hs) u
  simp [W_words_of, G_ranks, G_require_plant, G_require_stock, G_require_ordered, G_word_table, and_assoc]
  refine ⟨p, rfl, hp, p, rfl, s, rfl, hp.1, ⟨b, hs⟩, p, rfl, s, rfl, hp, (SOk.inj hs), ho, s, rfl, hs.2.1, by omega, p, rfl, rks s, rfl, hp, rks_inj (SOk.inj hs), ?_⟩
  rw [eW]
  exact h _
def G_word : WF := fun ds R => ∃ p s b v, ds = [.fz (tupN p), .fz (tupI s), .fz (.int (v : Nat))] ∧ PlantOk p ∧ SOk p.length b s ∧ Th.Ord p s ∧ v ≤ p.length ∧ ∀ ρ, R (.lf (nI (W p s v))) ρ
theorem sp_word : ∀ ds R, G_word ds R → gOf 3 3 (W_word G_ranks G_require_ordered G_require_plant G_require_station G_require_stock G_word_table) ds R := by
  rintro _ R ⟨p, s, b, v, rfl, hp, hs, ho, hv, h⟩
  refine ⟨rfl, ?_⟩
  have hpl := hp.1
  have hsl := hs.1
  have eW : W p (rks s) = W p s := funext fun u => W_rks (SOk.inj hs) u
  simp [W_word, G_ranks, G_require_plant, G_require_stock, G_require_station, G_require_ordered, G_word_table, and_assoc]
  refine ⟨p, rfl, hp, p, rfl, s, rfl, hp.1, ⟨b, hs⟩, p, rfl, v, rfl, hv, p, rfl, s, rfl, hp, (SOk.inj hs), ho, s, rfl, hs.2.1, by omega, p, rfl, rks s, rfl, hp, rks_inj (SOk.inj hs), ?_⟩
  rw [eW]
  refine ⟨v, ix_nat (by simp [rowsF]; omega), .lf (nI (W p s v)), ?_, h _⟩
  unfold rowsF
  rw [List.getElem?_map, List.getElem?_range (by omega)]
  rfl
def dueD (p : List Nat) (s : List Int) : PyData := .list ((List.range (p.length + 1)).map fun v => .list (nI (W p s v)))
theorem ints_short {s : List Int} (h : ∀ x ∈ s, x.natAbs < 2 ^ 140) : ∀ d ∈ s.map PyData.int, shortD 1000 2 d := fun d hd => by
  obtain ⟨x, hx, rfl⟩ := List.mem_map.mp hd
  have := h x hx
  exact ⟨int_val (by omega), Nat.le_trans (int_wgt (b := 140) (by decide) this) (by decide), by simp only [PyData.depth]; omega⟩
theorem rp1 {p : List Nat} {s : List Int} (hp : PlantOk p) (hs : SOk p.length 130 s) : okP (.list [tupN p, tupI s]) = true ∧ (PyData.list [tupN p, tupI s]).depth ≤ 40 := by
  refine short_ok ((short_list (n := 100000) (k := 3) fun d hd => ?_).mono (by simp) (by decide))
  have hpl := hp.1
  rcases List.mem_cons.mp hd with rfl | hd
  · exact (short_tup (short_nI fun x hx => by have := hp.small x hx; omega)).mono (by rw [nI_len]; omega) (by decide)
  · rcases List.mem_cons.mp hd with rfl | hd
    · exact (short_tup (ints_short fun x hx => by have := hs.2.2 x hx; omega)).mono (by rw [List.length_map, hs.1]; omega) (by decide)
    · cases hd
theorem shaped_rows (p : List Nat) (f : Nat → List Nat) : SeqAt.shaped (toP (.ol (rowsF p f))) = true ∧ PyData.eqv (toP (.ol (rowsF p f))) (toP (.ol (rowsF p f))) = true := by
  have key : ∀ l : List Nat, PyData.canLayAll0 (toPs (l.map fun v => O.lf (nI (f v)))) = true ∧ PyData.depthAll (toPs (l.map fun v => O.lf (nI (f v)))) ≤ 1 := fun l => by
    induction l with
    | nil => exact ⟨rfl, by show PyData.depthAll [] ≤ 1; decide⟩
    | cons a l ih =>
      have c1 : PyData.canLayAll0 (nI (f a)) = true := by rw [nI_ints]; exact canLay_ints _
      have c2 : PyData.depthAll (nI (f a)) = 0 := by rw [nI_ints]; exact depth_intsA _
      refine ⟨?_, ?_⟩
      · show ((PyData.list (nI (f a))).canLay0 && PyData.canLayAll0 (toPs (l.map fun v => O.lf (nI (f v))))) = true
        rw [ih.1, Bool.and_true]
        exact c1
      · show PyData.depthAll (PyData.list (nI (f a)) :: toPs (l.map fun v => O.lf (nI (f v)))) ≤ 1
        simp only [PyData.depthAll, PyData.depth, c2]
        have := ih.2
        omega
  obtain ⟨k1, k2⟩ := key (List.range (p.length + 1))
  refine ⟨?_, SeqAt.eqv_refl _ k1⟩
  show (PyData.canLayAll0 (toPs ((List.range (p.length + 1)).map fun v => O.lf (nI (f v)))) && decide (PyData.depth (.list (toPs ((List.range (p.length + 1)).map fun v => O.lf (nI (f v))))) ≤ 64)) = true
  rw [k1, Bool.true_and]
  simp only [PyData.depth]
  exact decide_eq_true (by omega)
theorem SOk.inj {n b : Nat} {s : List Int} (h : SOk n b s) : Inj n s := ⟨h.1, h.2.1⟩
theorem snap_rowsF (p : List Nat) (f : Nat → List Nat) : snapO (.ol (rowsF p f)) = .fz (.list ((List.range (p.length + 1)).map fun s => .list (nI (f s)))) := by
  unfold snapO
  rw [fr_rowsF]
  rfl
theorem snap_due (p : List Nat) (s : List Int) : snapO (.ol (rowsF p (W p s))) = .fz (dueD p s) := snap_rowsF _ _
theorem toP_rowsF (p : List Nat) (f : Nat → List Nat) : toP (.ol (rowsF p f)) = .list ((List.range (p.length + 1)).map fun s => .list (nI (f s))) := by
  have e : ∀ l : List Nat, toPs (l.map fun s => O.lf (nI (f s))) = l.map fun s => .list (nI (f s)) := fun l => by
    induction l with
    | nil => rfl
    | cons a l ih =>
      show _ :: toPs (l.map fun s => O.lf (nI (f s))) = _
      rw [ih]
      rfl
  show PyData.list (toPs (rowsF p f)) = _
  unfold rowsF
  rw [e]
theorem w4 : PlantOk [0, 0, 2] := ⟨by decide, fun i y e => by
  match i, e with
  | 0, e => cases e; decide
  | 1, e => cases e; decide
  | 2, e => cases e; decide
  | i + 3, e => cases e⟩
theorem w4s : SOk 3 10 [1, 3, 5, 6] := ⟨rfl, by decide, by decide⟩
theorem w4o : Th.Ord [0, 0, 2] [1, 3, 5, 6] := fun v c hc => by
  obtain ⟨i, rfl, e⟩ := mem_kids.mp hc
  match i, e with
  | 0, e => cases e; decide
  | 1, e => cases e; decide
  | 2, e => cases e; decide
  | i + 3, e => cases e
theorem w4r : rowsF [0, 0, 2] (W [0, 0, 2] [1, 3, 5, 6]) = [.lf (nI [1, 2, 2]), .lf [], .lf (nI [3]), .lf []] := by
  have eo : ordL [0, 0, 2] [1, 3, 5, 6] = [0, 1, 2, 3] := by
    unfold ordL
    rw [List.mergeSort_of_pairwise (by decide)]
    rfl
  have e : (List.range 4).map (wd [0, 0, 2] [0, 1, 2, 3]) = [[1, 2, 2], [], [3], []] := by decide +kernel
  have e2 : rowsF [0, 0, 2] (W [0, 0, 2] [1, 3, 5, 6]) = ((List.range 4).map (wd [0, 0, 2] [0, 1, 2, 3])).map fun l => O.lf (nI l) := by
    rw [List.map_map]
    unfold rowsF W
    rw [eo]
    rfl
  rw [e2, e]
  rfl
theorem w1 : PlantOk [] := ⟨by decide, fun i y e => by cases e⟩
theorem w1s : SOk 0 10 [5] := ⟨rfl, by decide, by decide⟩
theorem w1o : Th.Ord [] [5] := fun v c hc => by
  obtain ⟨i, rfl, e⟩ := mem_kids.mp hc
  cases e
theorem tiny_int {x : Nat} (h : x < 64) : shortD 40 2 (.int (x : Nat)) := ⟨int_val (by omega), Nat.le_trans (int_wgt (b := 7) (by decide) (by omega)) (by decide), by simp only [PyData.depth]; omega⟩
theorem rpA {p : List Nat} {s : List Int} (hp : PlantOk p) (hs : SOk p.length 130 s) : okP (.list [dueD p s, dueD p s]) = true ∧ (PyData.list [dueD p s, dueD p s]).depth ≤ 40 := by
  have hpl := hp.1
  have h1 : ∀ v, shortD 2000 3 (.list (nI (W p s v))) := fun v => by
    have hl := W_len_le hp (SOk.inj hs) v
    refine (short_list (n := 40) (k := 2) fun d hd => ?_).mono (by rw [nI_len]; omega) (by decide)
    obtain ⟨x, hx, rfl⟩ := List.mem_map.mp (show d ∈ (W p s v).map fun x : Nat => PyData.int (x : Nat) from hd)
    have := (kids_gt hp (W_mem hp hx)).2
    exact tiny_int (by omega)
  have h2 : shortD 90000 4 (dueD p s) := by
    refine (short_list (n := 2000) (k := 3) fun d hd => ?_).mono (by simp; omega) (by decide)
    obtain ⟨v, _, rfl⟩ := List.mem_map.mp hd
    exact h1 v
  refine short_ok ((short_list (n := 90000) (k := 4) fun d hd => ?_).mono (by simp) (by decide))
  rcases List.mem_cons.mp hd with rfl | hd
  · exact h2
  · rw [List.mem_singleton.mp hd]
    exact h2
theorem sp_law : ∀ ds R, gLaw ds R → gOf 1 13 (W_law G__law_calm G__law_letters G__law_plant G__law_source G_word G_words_of) ds R := by
  rintro _ R ⟨ns, rfl, hn, h⟩
  refine ⟨rfl, ?_⟩
  refine seq_to (fun ρ => ∃ v_cell v_source v_turn v_plant v_stock v_due v_before v_again v_found v_rows v_station v_changed : O, ρ = [.scr ns, v_cell, v_source, v_turn, v_plant, v_stock, v_due, v_before, v_again, v_found, v_rows, v_station, v_changed]) (fun N hN => ?_) fun ρ ⟨v_cell, v_source, v_turn, v_plant, v_stock, v_due, v_before, v_again, v_found, v_rows, v_station, v_changed, hρ⟩ => ?_
  · simp
    refine ⟨by decide, by have := cut_take ns 6; simp at this; rw [this, List.length_take]; unfold szMax; omega, ?_⟩
    refine for_go _ (fun i ρ => ∃ v_cell v_source v_turn v_plant v_stock v_due v_before v_again v_found v_rows v_station v_changed : O, ρ = [.scr ns, v_cell, v_source, v_turn, v_plant, v_stock, v_due, v_before, v_again, v_found, v_rows, v_station, v_changed]) _ (fun i d e ρ ⟨v_cell, v_source, v_turn, v_plant, v_stock, v_due, v_before, v_again, v_found, v_rows, v_station, v_changed, hρ⟩ N2 hN2 => ?_) ⟨_, _, _, _, _, _, _, _, _, _, _, _, rfl⟩ fun ρ hρ => hN _ hρ
    obtain ⟨c, rfl⟩ : ∃ c : Int, d = .int c := by
      have hm := List.mem_of_getElem? e
      simp at hm
      rcases hm with ⟨a, _, rfl⟩ | rfl
      · exact ⟨a, rfl⟩
      · exact ⟨0, rfl⟩
    subst hρ
    refine seq_to (fun ρ => ∃ x, srcO 0 x ∧ ρ = [.scr ns, .fz (.int c), .lf x, v_turn, v_plant, v_stock, v_due, v_before, v_again, v_found, v_rows, v_station, v_changed]) (fun N3 hN3 => ?_) fun ρ ⟨x, hx, hρ⟩ => ?_
    · simp [G__law_source, and_assoc]
      exact fun x hx => hN3 _ ⟨x, hx, rfl⟩
    subst hρ
    simp
    refine ⟨⟨by decide, by decide⟩, ?_⟩
    refine for_go _ (fun j ρ => ∃ (x : List PyData) (v_turn v_plant v_stock v_due v_before v_again v_found v_rows v_station v_changed : O), srcO (3000 * j) x ∧ ρ = [.scr ns, .fz (.int c), .lf x, v_turn, v_plant, v_stock, v_due, v_before, v_again, v_found, v_rows, v_station, v_changed]) _ (fun j d e ρ ⟨x, v_turn, v_plant, v_stock, v_due, v_before, v_again, v_found, v_rows, v_station, v_changed, hx, hρ⟩ N3 hN3 => ?_) ⟨x, _, _, _, _, _, _, _, _, _, _, hx, rfl⟩ fun ρ ⟨x, v_turn, v_plant, v_stock, v_due, v_before, v_again, v_found, v_rows, v_station, v_changed, hx, hρ⟩ => hN2 _ ⟨_, _, _, _, _, _, _, _, _, _, _, _, hρ⟩
    obtain ⟨hj, rfl⟩ := rangeL_at e
    subst hρ
    refine seq_to (fun ρ => ∃ (x : List PyData) (p : List Nat) (v_turn : O), srcO (3000 * j + 1000) x ∧ PlantOk p ∧ ρ = [.scr ns, .fz (.int c), .lf x, v_turn, .fz (tupN p), v_stock, v_due, v_before, v_again, v_found, v_rows, v_station, v_changed]) (fun N hN => ?_) fun ρ ⟨x, p, v_turn, hx, hp, hρ⟩ => ?_
    · simp [G__law_plant, and_assoc]
      exact ⟨_, 40, rfl, hx, by omega, by omega, by omega, fun p x' hp _ hx' => hN _ ⟨x', p, _, hx', hp, rfl⟩⟩
    subst hρ
    refine seq_to (fun ρ => ∃ (x : List PyData) (s : List Int), srcO (3000 * (j + 1)) x ∧ SOk p.length 130 s ∧ Ord p s ∧ ρ = [.scr ns, .fz (.int c), .lf x, v_turn, .fz (tupN p), .fz (tupI s), v_due, v_before, v_again, v_found, v_rows, v_station, v_changed]) (fun N hN => ?_) fun ρ ⟨x, s, hx, hs, ho, hρ⟩ => ?_
    · simp [G__law_calm, and_assoc]
      exact ⟨_, p, rfl, hx, by omega, hp, fun s x' hs ho hx' => hN _ ⟨x', s, hx'.mono (by omega), hs, ho, rfl⟩⟩
    subst hρ
    refine seq_to (fun ρ => ρ = [.scr ns, .fz (.int c), .lf x, v_turn, .fz (tupN p), .fz (tupI s), .fz (dueD p s), .fz (.str (PyData.list [tupN p, tupI s]).shown), v_again, v_found, v_rows, v_station, v_changed]) (fun N hN => ?_) fun ρ hρ => ?_
    · simp [G__law_letters, and_assoc]
      have r1 := rp1 hp hs
      exact ⟨p, rfl, s, rfl, hp, SOk.inj hs, by decide, r1.1, r1.2, by decide, hN _ rfl⟩
    subst hρ
    simp
    refine ⟨⟨by decide, by decide⟩, ?_⟩
    refine for_go _ (fun k ρ => ∃ (v_turn v_again v_found v_rows v_station v_changed : O), ρ = [.scr ns, .fz (.int c), .lf x, v_turn, .fz (tupN p), .fz (tupI s), .fz (dueD p s), .fz (.str (PyData.list [tupN p, tupI s]).shown), v_again, v_found, v_rows, v_station, v_changed]) _ (fun k d e ρ ⟨v_turn, v_again, v_found, v_rows, v_station, v_changed, hρ⟩ N4 hN4 => ?_) ⟨_, _, _, _, _, _, rfl⟩ fun ρ ⟨v_turn, v_again, v_found, v_rows, v_station, v_changed, hρ⟩ => hN3 _ ⟨x, _, _, _, _, _, _, _, _, _, _, hx, hρ⟩
    subst hρ
    have hpl := hp.1
    have hsl := hs.1
    refine seq_to (fun ρ => ∃ v_again, ρ = [.scr ns, .fz (.int c), .lf x, v_turn, .fz (tupN p), .fz (tupI s), .fz (dueD p s), .fz (.str (PyData.list [tupN p, tupI s]).shown), v_again, .ol (rowsF p (W p s)), v_rows, v_station, v_changed]) (fun N hN => ?_) fun ρ ⟨v_again, hρ⟩ => ?_
    · simp [G_words_of, and_assoc]
      exact ⟨p, rfl, s, rfl, hp, ⟨130, hs⟩, ho, hN _ ⟨_, rfl⟩⟩
    subst hρ
    refine seq_to (fun ρ => ∃ v_station, ρ = [.scr ns, .fz (.int c), .lf x, v_turn, .fz (tupN p), .fz (tupI s), .fz (dueD p s), .fz (.str (PyData.list [tupN p, tupI s]).shown), v_again, .ol (rowsF p (W p s)), .ol (rowsF p (W p s)), v_station, v_changed]) (fun N hN => ?_) fun ρ ⟨v_station, hρ⟩ => ?_
    · simp [tupI, hsl]
      refine ⟨by unfold smallI; omega, by unfold szMax; omega, ?_⟩
      refine lc_go _ (fun m acc ρ => ∃ v_station, ρ = [.scr ns, .fz (.int c), .lf x, v_turn, .fz (tupN p), .fz (tupI s), .fz (dueD p s), .fz (.str (PyData.list [tupN p, tupI s]).shown), v_again, .ol (rowsF p (W p s)), v_rows, v_station, v_changed] ∧ acc = ((List.range m).map fun v => O.lf (nI (W p s v)))) _ _ (fun m d e acc ρ ⟨v_station, hρ, ha⟩ K1 K0 k1 k0 => ?_) ⟨_, rfl, rfl⟩ fun acc ρ ⟨v_station, hρ, ha⟩ => ?_
      · obtain ⟨hm, rfl⟩ := rangeL_at e
        subst hρ
        simp
        refine ⟨p, s, 130, m, rfl, hp, hs, ho, by omega, fun ρ => k1 _ _ ⟨.fz (.int (m : Nat)), ?_, by rw [ha, List.range_succ, List.map_append]; rfl⟩⟩
        simp [tupI]
      · subst hρ
        subst ha
        rw [rangeL_len]
        exact hN _ ⟨_, rfl⟩
    subst hρ
    refine seq_to (fun ρ => ρ = [.scr ns, .fz (.int c), .lf x, v_turn, .fz (tupN p), .fz (tupI s), .fz (dueD p s), .fz (.str (PyData.list [tupN p, tupI s]).shown), v_again, .ol (rowsF p (W p s)), .ol (rowsF p (W p s)), v_station, v_changed]) (fun N hN => ?_) fun ρ hρ => ?_
    · rw [x_sIf]
      simp [wPeekT]
      rw [snap_due]
      simp
      obtain ⟨a1, a2⟩ := rpA hp hs
      have r1 := rp1 hp hs
      exact ⟨by decide, a1, a2, by decide, a1, a2, by decide, r1.1, r1.2, hN _ rfl⟩
    subst hρ
    refine seq_to (fun ρ => ∃ v_station, ρ = [.scr ns, .fz (.int c), .lf x, v_turn, .fz (tupN p), .fz (tupI s), .fz (dueD p s), .fz (.str (PyData.list [tupN p, tupI s]).shown), v_again, .ol (rowsF p fun v => W p s v ++ [v]), .ol (rowsF p fun v => W p s v ++ [v]), v_station, v_changed]) (fun N hN => ?_) fun ρ ⟨v_station, hρ⟩ => ?_
    · simp [tupI, hsl]
      refine ⟨by unfold smallI; omega, ?_⟩
      have e0 : rowsF p (W p s) = rowsF p fun v => W p s v ++ if v < 0 then [v] else [] := rowsF_congr fun v _ => by simp
      rw [e0]
      refine for_go _ (fun m ρ => ∃ v_station, ρ = [.scr ns, .fz (.int c), .lf x, v_turn, .fz (tupN p), .fz (tupI s), .fz (dueD p s), .fz (.str (PyData.list [tupN p, tupI s]).shown), v_again, .ol (rowsF p fun v => W p s v ++ if v < m then [v] else []), .ol (rowsF p fun v => W p s v ++ if v < m then [v] else []), v_station, v_changed]) _ (fun m d e ρ ⟨v_station, hρ⟩ N5 hN5 => ?_) ⟨_, rfl⟩ fun ρ ⟨v_station, hρ⟩ => ?_
      · obtain ⟨hm, rfl⟩ := rangeL_at e
        subst hρ
        have es := rowsF_set (p := p) (f := fun v => W p s v ++ if v < m then [v] else []) (u := m) (c := m) (by omega)
        have e1 : (rowsF p fun v => (W p s v ++ if v < m then [v] else []) ++ if v = m then [m] else []) = rowsF p fun v => W p s v ++ if v < m + 1 then [v] else [] := rowsF_congr fun v _ => by
          by_cases h1 : v < m
          · have h2 : ¬ v = m := by omega
            have h3 : v < m + 1 := by omega
            simp [h1, h2, h3]
          · by_cases h2 : v = m
            · subst h2
              simp
            · have h3 : ¬ v < m + 1 := by omega
              simp [h1, h2, h3]
        rw [e1] at es
        have hwl := W_len_le hp (SOk.inj hs) m
        simp
        refine ⟨m, ix_nat (by rw [rowsF_len]; omega), _, rowsF_get (by omega), rfl, ?_⟩
        simp
        refine ⟨by unfold szMax; omega, m, ix_nat (by rw [rowsF_len]; omega), _, rowsF_get (by omega), rfl, ?_⟩
        simp
        refine ⟨by unfold szMax; omega, ?_⟩
        simp at es
        rw [es]
        exact hN5 _ ⟨_, rfl⟩
      · subst hρ
        rw [rangeL_len]
        have e1 : (rowsF p fun v => W p s v ++ if v < p.length + 1 then [v] else []) = rowsF p fun v => W p s v ++ [v] := rowsF_congr fun v hv => by rw [if_pos (by omega)]
        rw [e1]
        exact hN _ ⟨_, rfl⟩
    subst hρ
    refine seq_to (fun ρ => ∃ v_station, ρ = [.scr ns, .fz (.int c), .lf x, v_turn, .fz (tupN p), .fz (tupI s), .fz (dueD p s), .fz (.str (PyData.list [tupN p, tupI s]).shown), v_again, .ol (rowsF p fun v => W p s v ++ [v]), .ol (rowsF p fun v => W p s v ++ [v]), v_station, .fz (.list ((List.range (p.length + 1)).map fun v => .list (nI (W p s v ++ [v]))))]) (fun N hN => ?_) fun ρ ⟨v_station, hρ⟩ => ?_
    · simp [tupI, hsl]
      refine ⟨by unfold smallI; omega, by unfold szMax; omega, ?_⟩
      refine lc_eq ((List.range (p.length + 1)).map fun v => .list (nI (W p s v ++ [v]))) (fun ρ => ∃ v_station, ρ = [.scr ns, .fz (.int c), .lf x, v_turn, .fz (tupN p), .fz (tupI s), .fz (dueD p s), .fz (.str (PyData.list [tupN p, tupI s]).shown), v_again, .ol (rowsF p fun v => W p s v ++ [v]), .ol (rowsF p fun v => W p s v ++ [v]), v_station, v_changed]) (by simp) (fun m d y e ey ρ ⟨v_station, hρ⟩ K1 K0 k1 => ?_) ⟨_, rfl⟩ fun ρ ⟨v_station, hρ⟩ => ?_
      · obtain ⟨hm, rfl⟩ := rangeL_at e
        rw [List.getElem?_map, List.getElem?_range (by omega)] at ey
        cases ey
        subst hρ
        have hwl := W_len_le hp (SOk.inj hs) m
        simp [dueD]
        refine ⟨.list (nI (W p s m)), at_nat (by rw [List.getElem?_map, List.getElem?_range (by omega)]; rfl), ?_⟩
        simp
        refine ⟨by decide, by unfold szMax; omega, ?_⟩
        rw [show nI (W p s m) ++ [.int ((m : Nat) : Int)] = nI (W p s m ++ [m]) from by simp [nI_append, nI]]
        exact k1 _ ⟨_, rfl⟩
      · subst hρ
        rw [x_toLf2]
        exact ⟨_, rfl, hN _ ⟨_, rfl⟩⟩
    subst hρ
    refine seq_to (fun ρ => ρ = [.scr ns, .fz (.int c), .lf x, v_turn, .fz (tupN p), .fz (tupI s), .fz (dueD p s), .fz (.str (PyData.list [tupN p, tupI s]).shown), v_again, .ol (rowsF p fun v => W p s v ++ [v]), .ol (rowsF p fun v => W p s v ++ [v]), v_station, .fz (.list ((List.range (p.length + 1)).map fun v => .list (nI (W p s v ++ [v]))))]) (fun N hN => ?_) fun ρ hρ => ?_
    · rw [x_sIf]
      simp [wPeekT]
      rw [snap_rowsF]
      simp
      obtain ⟨s1, s2⟩ := shaped_rows p fun v => W p s v ++ [v]
      rw [toP_rowsF] at s1 s2
      refine x_oEqG (x := .fz _) (y := .fz _) s1 s1 ?_
      rw [show PyData.eqv (toP (.fz (.list ((List.range (p.length + 1)).map fun v => .list (nI (W p s v ++ [v])))))) (toP (.fz (.list ((List.range (p.length + 1)).map fun v => .list (nI (W p s v ++ [v])))))) = true from s2]
      simp only [Bool.not_true, if_true, x_asB, x_brF]
      refine x_oEqG (x := .fz _) (y := .fz _) s1 s1 ?_
      rw [show PyData.eqv (toP (.fz (.list ((List.range (p.length + 1)).map fun v => .list (nI (W p s v ++ [v])))))) (toP (.fz (.list ((List.range (p.length + 1)).map fun v => .list (nI (W p s v ++ [v])))))) = true from s2]
      exact hN _ rfl
    subst hρ
    simp
    exact hN4 _ ⟨_, _, _, _, _, _, rfl⟩
  subst hρ
  simp
  refine ⟨by decide, by decide, [0, 0, 2], [1, 3, 5, 6], 10, rfl, w4, w4s, w4o, fun ρ => ⟨by decide, by decide, by decide, ?_⟩⟩
  rw [w4r]
  refine x_oEqG rfl rfl ?_
  rw [show PyData.eqv (toP (.ol [.lf (nI [1, 2, 2]), .lf [], .lf (nI [3]), .lf []])) (toP (.lf [.list [.int 1, .int 2, .int 2], .list [], .list [.int 3], .list []])) = true from rfl]
  simp
  refine ⟨by decide, [], [5], 10, 0, rfl, w1, w1s, w1o, Nat.le_refl _, fun ρ => ?_⟩
  have e1 : W [] [5] 0 = [] := W_leaf rfl
  rw [e1]
  exact x_oEqG rfl rfl (h _)
end K13
namespace K13
open PySem PySem.Spec L2 Pt Sh St Sw FB
theorem all_mk {l : PySem.W.OpenLaw} {w : World} {K : PySem.W.Frag} {qp : Program} {h : Heap} {mg : Str → Option Value} {fa f_is_int f_in_range f_is_plant f_require_plant f_require_station f_valid_stock f_require_stock f_ranks f_wrong_stations f_require_ordered f_word_table f_word f_words_of f__law_source f__law_draw f__law_plant f__law_numbers f__law_calm f__law_way f__law_letters f_law : Addr} (X : K.In h) (G : h.Ns mainGlobals mg) (hfa : mg "law" = some (.ref fa)) (TF : TabF qp K h) {od_is_int an_is_int : Option Addr} {sl_is_int : Array (Option Value)} {oc_is_int kV_is_int dc_is_int pm_is_int ct_is_int : Value} {cd_is_int : Value} {od_in_range an_in_range : Option Addr} {sl_in_range : Array (Option Value)} {oc_in_range kV_in_range dc_in_range pm_in_range ct_in_range : Value} {cd_in_range : Value} {od_is_plant an_is_plant : Option Addr} {sl_is_plant : Array (Option Value)} {oc_is_plant kV_is_plant dc_is_plant pm_is_plant ct_is_plant : Value} {cd_is_plant : Value} {od_require_plant an_require_plant : Option Addr} {sl_require_plant : Array (Option Value)} {oc_require_plant kV_require_plant dc_require_plant pm_require_plant ct_require_plant : Value} {cd_require_plant : Value} {od_require_station an_require_station : Option Addr} {sl_require_station : Array (Option Value)} {oc_require_station kV_require_station dc_require_station pm_require_station ct_require_station : Value} {cd_require_station : Value} {od_valid_stock an_valid_stock : Option Addr} {sl_valid_stock : Array (Option Value)} {oc_valid_stock kV_valid_stock dc_valid_stock pm_valid_stock ct_valid_stock : Value} {cd_valid_stock : Value} {od_require_stock an_require_stock : Option Addr} {sl_require_stock : Array (Option Value)} {oc_require_stock kV_require_stock dc_require_stock pm_require_stock ct_require_stock : Value} {cd_require_stock : Value} {od_ranks an_ranks : Option Addr} {sl_ranks : Array (Option Value)} {oc_ranks kV_ranks dc_ranks pm_ranks ct_ranks : Value} {cd_ranks : Value} {od_wrong_stations an_wrong_stations : Option Addr} {sl_wrong_stations : Array (Option Value)} {oc_wrong_stations kV_wrong_stations dc_wrong_stations pm_wrong_stations ct_wrong_stations : Value} {cd_wrong_stations : Value} {od_require_ordered an_require_ordered : Option Addr} {sl_require_ordered : Array (Option Value)} {oc_require_ordered kV_require_ordered dc_require_ordered pm_require_ordered ct_require_ordered : Value} {cd_require_ordered : Value} {od_word_table an_word_table : Option Addr} {sl_word_table : Array (Option Value)} {oc_word_table kV_word_table dc_word_table pm_word_table ct_word_table : Value} {cd_word_table : Addr} {od_word an_word : Option Addr} {sl_word : Array (Option Value)} {oc_word kV_word dc_word pm_word ct_word : Value} {cd_word : Value} {od_words_of an_words_of : Option Addr} {sl_words_of : Array (Option Value)} {oc_words_of kV_words_of dc_words_of pm_words_of ct_words_of : Value} {cd_words_of : Value} {od__law_source an__law_source : Option Addr} {sl__law_source : Array (Option Value)} {oc__law_source kV__law_source dc__law_source pm__law_source ct__law_source : Value} {cd__law_source : Value} {od__law_draw an__law_draw : Option Addr} {sl__law_draw : Array (Option Value)} {oc__law_draw kV__law_draw dc__law_draw pm__law_draw ct__law_draw : Value} {cd__law_draw : Value} {od__law_plant an__law_plant : Option Addr} {sl__law_plant : Array (Option Value)} {oc__law_plant kV__law_plant dc__law_plant pm__law_plant ct__law_plant : Value} {cd__law_plant : Value} {od__law_numbers an__law_numbers : Option Addr} {sl__law_numbers : Array (Option Value)} {oc__law_numbers kV__law_numbers dc__law_numbers pm__law_numbers ct__law_numbers : Value} {cd__law_numbers : Value} {od__law_calm an__law_calm : Option Addr} {sl__law_calm : Array (Option Value)} {oc__law_calm kV__law_calm dc__law_calm pm__law_calm ct__law_calm : Value} {cd__law_calm : Value} {od__law_way an__law_way : Option Addr} {sl__law_way : Array (Option Value)} {oc__law_way kV__law_way dc__law_way pm__law_way ct__law_way : Value} {cd__law_way : Value} {od__law_letters an__law_letters : Option Addr} {sl__law_letters : Array (Option Value)} {oc__law_letters kV__law_letters dc__law_letters pm__law_letters ct__law_letters : Value} {cd__law_letters : Value} {od_law an_law : Option Addr} {sl_law : Array (Option Value)} {oc_law kV_law dc_law pm_law ct_law : Value} {cd_law : Value} {to_word_table : Value} {td_word_table : Option Addr} {tv_word_table : Array Value} {ts_word_table : Array (Option Value)} {tp_word_table : Addr} {dr_word_table : DefRec} {t_MOST_STATIONS : Tok}
    (a_is_int : PySem.W.nsIn K mainGlobals "is_int" = some (some (.ref f_is_int))) (l_is_int : K.lookup f_is_int = some ⟨oc_is_int, od_is_int, .func (PySem.W.fnOf "is_int" "is_int" (defArgs s_is_int) (defBody s_is_int) (defScope s_is_int) .none kV_is_int dc_is_int pm_is_int an_is_int cd_is_int ct_is_int), sl_is_int⟩) (c_is_int : PySem.W.codeIn K cd_is_int "is_int" = true) (k_is_int : PySem.W.keepIn K (.ref f_is_int) = true)
    (a_in_range : PySem.W.nsIn K mainGlobals "in_range" = some (some (.ref f_in_range))) (l_in_range : K.lookup f_in_range = some ⟨oc_in_range, od_in_range, .func (PySem.W.fnOf "in_range" "in_range" (defArgs s_in_range) (defBody s_in_range) (defScope s_in_range) .none kV_in_range dc_in_range pm_in_range an_in_range cd_in_range ct_in_range), sl_in_range⟩) (c_in_range : PySem.W.codeIn K cd_in_range "in_range" = true) (k_in_range : PySem.W.keepIn K (.ref f_in_range) = true)
    (a_is_plant : PySem.W.nsIn K mainGlobals "is_plant" = some (some (.ref f_is_plant))) (l_is_plant : K.lookup f_is_plant = some ⟨oc_is_plant, od_is_plant, .func (PySem.W.fnOf "is_plant" "is_plant" (defArgs s_is_plant) (defBody s_is_plant) (defScope s_is_plant) .none kV_is_plant dc_is_plant pm_is_plant an_is_plant cd_is_plant ct_is_plant), sl_is_plant⟩) (c_is_plant : PySem.W.codeIn K cd_is_plant "is_plant" = true) (k_is_plant : PySem.W.keepIn K (.ref f_is_plant) = true)
    (a_require_plant : PySem.W.nsIn K mainGlobals "require_plant" = some (some (.ref f_require_plant))) (l_require_plant : K.lookup f_require_plant = some ⟨oc_require_plant, od_require_plant, .func (PySem.W.fnOf "require_plant" "require_plant" (defArgs s_require_plant) (defBody s_require_plant) (defScope s_require_plant) .none kV_require_plant dc_require_plant pm_require_plant an_require_plant cd_require_plant ct_require_plant), sl_require_plant⟩) (c_require_plant : PySem.W.codeIn K cd_require_plant "require_plant" = true) (k_require_plant : PySem.W.keepIn K (.ref f_require_plant) = true)
    (a_require_station : PySem.W.nsIn K mainGlobals "require_station" = some (some (.ref f_require_station))) (l_require_station : K.lookup f_require_station = some ⟨oc_require_station, od_require_station, .func (PySem.W.fnOf "require_station" "require_station" (defArgs s_require_station) (defBody s_require_station) (defScope s_require_station) .none kV_require_station dc_require_station pm_require_station an_require_station cd_require_station ct_require_station), sl_require_station⟩) (c_require_station : PySem.W.codeIn K cd_require_station "require_station" = true) (k_require_station : PySem.W.keepIn K (.ref f_require_station) = true)
    (a_valid_stock : PySem.W.nsIn K mainGlobals "valid_stock" = some (some (.ref f_valid_stock))) (l_valid_stock : K.lookup f_valid_stock = some ⟨oc_valid_stock, od_valid_stock, .func (PySem.W.fnOf "valid_stock" "valid_stock" (defArgs s_valid_stock) (defBody s_valid_stock) (defScope s_valid_stock) .none kV_valid_stock dc_valid_stock pm_valid_stock an_valid_stock cd_valid_stock ct_valid_stock), sl_valid_stock⟩) (c_valid_stock : PySem.W.codeIn K cd_valid_stock "valid_stock" = true) (k_valid_stock : PySem.W.keepIn K (.ref f_valid_stock) = true)
    (a_require_stock : PySem.W.nsIn K mainGlobals "require_stock" = some (some (.ref f_require_stock))) (l_require_stock : K.lookup f_require_stock = some ⟨oc_require_stock, od_require_stock, .func (PySem.W.fnOf "require_stock" "require_stock" (defArgs s_require_stock) (defBody s_require_stock) (defScope s_require_stock) .none kV_require_stock dc_require_stock pm_require_stock an_require_stock cd_require_stock ct_require_stock), sl_require_stock⟩) (c_require_stock : PySem.W.codeIn K cd_require_stock "require_stock" = true) (k_require_stock : PySem.W.keepIn K (.ref f_require_stock) = true)
    (a_ranks : PySem.W.nsIn K mainGlobals "ranks" = some (some (.ref f_ranks))) (l_ranks : K.lookup f_ranks = some ⟨oc_ranks, od_ranks, .func (PySem.W.fnOf "ranks" "ranks" (defArgs s_ranks) (defBody s_ranks) (defScope s_ranks) .none kV_ranks dc_ranks pm_ranks an_ranks cd_ranks ct_ranks), sl_ranks⟩) (c_ranks : PySem.W.codeIn K cd_ranks "ranks" = true) (k_ranks : PySem.W.keepIn K (.ref f_ranks) = true)
    (a_wrong_stations : PySem.W.nsIn K mainGlobals "wrong_stations" = some (some (.ref f_wrong_stations))) (l_wrong_stations : K.lookup f_wrong_stations = some ⟨oc_wrong_stations, od_wrong_stations, .func (PySem.W.fnOf "wrong_stations" "wrong_stations" (defArgs s_wrong_stations) (defBody s_wrong_stations) (defScope s_wrong_stations) .none kV_wrong_stations dc_wrong_stations pm_wrong_stations an_wrong_stations cd_wrong_stations ct_wrong_stations), sl_wrong_stations⟩) (c_wrong_stations : PySem.W.codeIn K cd_wrong_stations "wrong_stations" = true) (k_wrong_stations : PySem.W.keepIn K (.ref f_wrong_stations) = true)
    (a_require_ordered : PySem.W.nsIn K mainGlobals "require_ordered" = some (some (.ref f_require_ordered))) (l_require_ordered : K.lookup f_require_ordered = some ⟨oc_require_ordered, od_require_ordered, .func (PySem.W.fnOf "require_ordered" "require_ordered" (defArgs s_require_ordered) (defBody s_require_ordered) (defScope s_require_ordered) .none kV_require_ordered dc_require_ordered pm_require_ordered an_require_ordered cd_require_ordered ct_require_ordered), sl_require_ordered⟩) (c_require_ordered : PySem.W.codeIn K cd_require_ordered "require_ordered" = true) (k_require_ordered : PySem.W.keepIn K (.ref f_require_ordered) = true)
    (a_word_table : PySem.W.nsIn K mainGlobals "word_table" = some (some (.ref f_word_table))) (l_word_table : K.lookup f_word_table = some ⟨oc_word_table, od_word_table, .func (PySem.W.fnOf "word_table" "word_table" (defArgs s_word_table) (defBody s_word_table) (defScope s_word_table) .none kV_word_table dc_word_table pm_word_table an_word_table (.ref cd_word_table) ct_word_table), sl_word_table⟩) (c_word_table : PySem.W.codeIn K (.ref cd_word_table) "word_table" = true) (k_word_table : PySem.W.keepIn K (.ref f_word_table) = true)
    (a_word : PySem.W.nsIn K mainGlobals "word" = some (some (.ref f_word))) (l_word : K.lookup f_word = some ⟨oc_word, od_word, .func (PySem.W.fnOf "word" "word" (defArgs s_word) (defBody s_word) (defScope s_word) .none kV_word dc_word pm_word an_word cd_word ct_word), sl_word⟩) (c_word : PySem.W.codeIn K cd_word "word" = true) (k_word : PySem.W.keepIn K (.ref f_word) = true)
    (a_words_of : PySem.W.nsIn K mainGlobals "words_of" = some (some (.ref f_words_of))) (l_words_of : K.lookup f_words_of = some ⟨oc_words_of, od_words_of, .func (PySem.W.fnOf "words_of" "words_of" (defArgs s_words_of) (defBody s_words_of) (defScope s_words_of) .none kV_words_of dc_words_of pm_words_of an_words_of cd_words_of ct_words_of), sl_words_of⟩) (c_words_of : PySem.W.codeIn K cd_words_of "words_of" = true) (k_words_of : PySem.W.keepIn K (.ref f_words_of) = true)
    (a__law_source : PySem.W.nsIn K mainGlobals "_law_source" = some (some (.ref f__law_source))) (l__law_source : K.lookup f__law_source = some ⟨oc__law_source, od__law_source, .func (PySem.W.fnOf "_law_source" "_law_source" (defArgs s__law_source) (defBody s__law_source) (defScope s__law_source) .none kV__law_source dc__law_source pm__law_source an__law_source cd__law_source ct__law_source), sl__law_source⟩) (c__law_source : PySem.W.codeIn K cd__law_source "_law_source" = true) (k__law_source : PySem.W.keepIn K (.ref f__law_source) = true)
    (a__law_draw : PySem.W.nsIn K mainGlobals "_law_draw" = some (some (.ref f__law_draw))) (l__law_draw : K.lookup f__law_draw = some ⟨oc__law_draw, od__law_draw, .func (PySem.W.fnOf "_law_draw" "_law_draw" (defArgs s__law_draw) (defBody s__law_draw) (defScope s__law_draw) .none kV__law_draw dc__law_draw pm__law_draw an__law_draw cd__law_draw ct__law_draw), sl__law_draw⟩) (c__law_draw : PySem.W.codeIn K cd__law_draw "_law_draw" = true) (k__law_draw : PySem.W.keepIn K (.ref f__law_draw) = true)
    (a__law_plant : PySem.W.nsIn K mainGlobals "_law_plant" = some (some (.ref f__law_plant))) (l__law_plant : K.lookup f__law_plant = some ⟨oc__law_plant, od__law_plant, .func (PySem.W.fnOf "_law_plant" "_law_plant" (defArgs s__law_plant) (defBody s__law_plant) (defScope s__law_plant) .none kV__law_plant dc__law_plant pm__law_plant an__law_plant cd__law_plant ct__law_plant), sl__law_plant⟩) (c__law_plant : PySem.W.codeIn K cd__law_plant "_law_plant" = true) (k__law_plant : PySem.W.keepIn K (.ref f__law_plant) = true)
    (a__law_numbers : PySem.W.nsIn K mainGlobals "_law_numbers" = some (some (.ref f__law_numbers))) (l__law_numbers : K.lookup f__law_numbers = some ⟨oc__law_numbers, od__law_numbers, .func (PySem.W.fnOf "_law_numbers" "_law_numbers" (defArgs s__law_numbers) (defBody s__law_numbers) (defScope s__law_numbers) .none kV__law_numbers dc__law_numbers pm__law_numbers an__law_numbers cd__law_numbers ct__law_numbers), sl__law_numbers⟩) (c__law_numbers : PySem.W.codeIn K cd__law_numbers "_law_numbers" = true) (k__law_numbers : PySem.W.keepIn K (.ref f__law_numbers) = true)
    (a__law_calm : PySem.W.nsIn K mainGlobals "_law_calm" = some (some (.ref f__law_calm))) (l__law_calm : K.lookup f__law_calm = some ⟨oc__law_calm, od__law_calm, .func (PySem.W.fnOf "_law_calm" "_law_calm" (defArgs s__law_calm) (defBody s__law_calm) (defScope s__law_calm) .none kV__law_calm dc__law_calm pm__law_calm an__law_calm cd__law_calm ct__law_calm), sl__law_calm⟩) (c__law_calm : PySem.W.codeIn K cd__law_calm "_law_calm" = true) (k__law_calm : PySem.W.keepIn K (.ref f__law_calm) = true)
    (a__law_way : PySem.W.nsIn K mainGlobals "_law_way" = some (some (.ref f__law_way))) (l__law_way : K.lookup f__law_way = some ⟨oc__law_way, od__law_way, .func (PySem.W.fnOf "_law_way" "_law_way" (defArgs s__law_way) (defBody s__law_way) (defScope s__law_way) .none kV__law_way dc__law_way pm__law_way an__law_way cd__law_way ct__law_way), sl__law_way⟩) (c__law_way : PySem.W.codeIn K cd__law_way "_law_way" = true) (k__law_way : PySem.W.keepIn K (.ref f__law_way) = true)
    (a__law_letters : PySem.W.nsIn K mainGlobals "_law_letters" = some (some (.ref f__law_letters))) (l__law_letters : K.lookup f__law_letters = some ⟨oc__law_letters, od__law_letters, .func (PySem.W.fnOf "_law_letters" "_law_letters" (defArgs s__law_letters) (defBody s__law_letters) (defScope s__law_letters) .none kV__law_letters dc__law_letters pm__law_letters an__law_letters cd__law_letters ct__law_letters), sl__law_letters⟩) (c__law_letters : PySem.W.codeIn K cd__law_letters "_law_letters" = true) (k__law_letters : PySem.W.keepIn K (.ref f__law_letters) = true)
    (a_law : PySem.W.nsIn K mainGlobals "law" = some (some (.ref f_law))) (l_law : K.lookup f_law = some ⟨oc_law, od_law, .func (PySem.W.fnOf "law" "law" (defArgs s_law) (defBody s_law) (defScope s_law) .none kV_law dc_law pm_law an_law cd_law ct_law), sl_law⟩) (c_law : PySem.W.codeIn K cd_law "law" = true) (k_law : PySem.W.keepIn K (.ref f_law) = true)
    (q_word_table : K.lookup cd_word_table = some ⟨to_word_table, td_word_table, .fields tv_word_table, ts_word_table⟩) (p_word_table : tv_word_table[11]? = some (.ref tp_word_table)) (n_word_table : (K.lookup tp_word_table).isNone = true) (r_word_table : (PyProof.Rows.recsOf qp).find? (fun e => e.name == ("word_table" : Str)) = some dr_word_table)
    (z_all : PySem.W.nsIn K mainGlobals "all" = some none)
    (z_bool : PySem.W.nsIn K mainGlobals "bool" = some none)
    (z_enumerate : PySem.W.nsIn K mainGlobals "enumerate" = some none)
    (z_int : PySem.W.nsIn K mainGlobals "int" = some none)
    (z_isinstance : PySem.W.nsIn K mainGlobals "isinstance" = some none)
    (z_len : PySem.W.nsIn K mainGlobals "len" = some none)
    (z_max : PySem.W.nsIn K mainGlobals "max" = some none)
    (z_min : PySem.W.nsIn K mainGlobals "min" = some none)
    (z_range : PySem.W.nsIn K mainGlobals "range" = some none)
    (z_repr : PySem.W.nsIn K mainGlobals "repr" = some none)
    (z_set : PySem.W.nsIn K mainGlobals "set" = some none)
    (z_sorted : PySem.W.nsIn K mainGlobals "sorted" = some none)
    (z_tuple : PySem.W.nsIn K mainGlobals "tuple" = some none)
    (y_MOST_STATIONS : PySem.W.nsIn K mainGlobals "MOST_STATIONS" = some (some (.int 40 t_MOST_STATIONS))) :
    HeadT l w K (L2N.CX l.prog w) 6 63 "script" mg fa h := by
  have e := hfa.symm.trans (PySem.W.mg_of X G a_law)
  cases e
  have M : Mg mg := ⟨PySem.W.mg_none_of X G z_all, PySem.W.mg_none_of X G z_bool, PySem.W.mg_none_of X G z_enumerate, PySem.W.mg_none_of X G z_int, PySem.W.mg_none_of X G z_isinstance, PySem.W.mg_none_of X G z_len, PySem.W.mg_none_of X G z_max, PySem.W.mg_none_of X G z_min, PySem.W.mg_none_of X G z_range, PySem.W.mg_none_of X G z_repr, PySem.W.mg_none_of X G z_set, PySem.W.mg_none_of X G z_sorted, PySem.W.mg_none_of X G z_tuple, ⟨_, PySem.W.mg_of X G y_MOST_STATIONS⟩⟩
  have tt_word_table := TF "word_table" cd_word_table tp_word_table dr_word_table r_word_table (tabIn_mk a_word_table l_word_table rfl q_word_table p_word_table)
  refine head_mk (io := [0]) (cs := [(cd_word_table, tp_word_table)]) (PySem.W.fnOf "law" "law" (defArgs s_law) (defBody s_law) (defScope s_law) .none kV_law dc_law pm_law an_law cd_law ct_law) (fun s v => .of_eq rfl) ?_ fun base TBs => ?_
  · intro p hp
    simp only [List.mem_cons, List.not_mem_nil, or_false] at hp
    subst hp
    exact ⟨tt_word_table.2, Option.isNone_iff_eq_none.mp n_word_table, tt_word_table.1⟩
  have e_is_int : Fg l.prog w K mg base (List.map (fun p : Addr × Addr => p.2) [(cd_word_table, tp_word_table)]) 1 "is_int" 1 [] G_is_int := (ok_is_int (P := l.prog) (w := w) (base := base) (T := List.map (fun p : Addr × Addr => p.2) [(cd_word_table, tp_word_table)]) (fun_mk (st := s_is_int) l_is_int c_is_int k_is_int) (PySem.W.mg_of X G a_is_int) M).imp sp_is_int
  have e_in_range : Fg l.prog w K mg base (List.map (fun p : Addr × Addr => p.2) [(cd_word_table, tp_word_table)]) 2 "in_range" 3 [] G_in_range := (ok_in_range (P := l.prog) (w := w) (base := base) (T := List.map (fun p : Addr × Addr => p.2) [(cd_word_table, tp_word_table)]) (fun_mk (st := s_in_range) l_in_range c_in_range k_in_range) (PySem.W.mg_of X G a_in_range) M e_is_int).imp sp_in_range
  have e_is_plant : Fg l.prog w K mg base (List.map (fun p : Addr × Addr => p.2) [(cd_word_table, tp_word_table)]) 3 "is_plant" 1 [] G_is_plant := (ok_is_plant (P := l.prog) (w := w) (base := base) (T := List.map (fun p : Addr × Addr => p.2) [(cd_word_table, tp_word_table)]) (fun_mk (st := s_is_plant) l_is_plant c_is_plant k_is_plant) (PySem.W.mg_of X G a_is_plant) M e_in_range).imp sp_is_plant
  have e_require_plant : Fg l.prog w K mg base (List.map (fun p : Addr × Addr => p.2) [(cd_word_table, tp_word_table)]) 4 "require_plant" 1 [] G_require_plant := (ok_require_plant (P := l.prog) (w := w) (base := base) (T := List.map (fun p : Addr × Addr => p.2) [(cd_word_table, tp_word_table)]) (fun_mk (st := s_require_plant) l_require_plant c_require_plant k_require_plant) (PySem.W.mg_of X G a_require_plant) M e_is_plant).imp sp_require_plant
  have e_require_station : Fg l.prog w K mg base (List.map (fun p : Addr × Addr => p.2) [(cd_word_table, tp_word_table)]) 3 "require_station" 2 [] G_require_station := (ok_require_station (P := l.prog) (w := w) (base := base) (T := List.map (fun p : Addr × Addr => p.2) [(cd_word_table, tp_word_table)]) (fun_mk (st := s_require_station) l_require_station c_require_station k_require_station) (PySem.W.mg_of X G a_require_station) M e_in_range).imp sp_require_station
  have e_valid_stock : Fg l.prog w K mg base (List.map (fun p : Addr × Addr => p.2) [(cd_word_table, tp_word_table)]) 2 "valid_stock" 2 [] G_valid_stock := (ok_valid_stock (P := l.prog) (w := w) (base := base) (T := List.map (fun p : Addr × Addr => p.2) [(cd_word_table, tp_word_table)]) (fun_mk (st := s_valid_stock) l_valid_stock c_valid_stock k_valid_stock) (PySem.W.mg_of X G a_valid_stock) M e_is_int).imp sp_valid_stock
  have e_require_stock : Fg l.prog w K mg base (List.map (fun p : Addr × Addr => p.2) [(cd_word_table, tp_word_table)]) 3 "require_stock" 2 [] G_require_stock := (ok_require_stock (P := l.prog) (w := w) (base := base) (T := List.map (fun p : Addr × Addr => p.2) [(cd_word_table, tp_word_table)]) (fun_mk (st := s_require_stock) l_require_stock c_require_stock k_require_stock) (PySem.W.mg_of X G a_require_stock) M e_valid_stock).imp sp_require_stock
  have e_ranks : Fg l.prog w K mg base (List.map (fun p : Addr × Addr => p.2) [(cd_word_table, tp_word_table)]) 1 "ranks" 1 [] G_ranks := (ok_ranks (P := l.prog) (w := w) (base := base) (T := List.map (fun p : Addr × Addr => p.2) [(cd_word_table, tp_word_table)]) (fun_mk (st := s_ranks) l_ranks c_ranks k_ranks) (PySem.W.mg_of X G a_ranks) M).imp sp_ranks
  have e_wrong_stations : Fg l.prog w K mg base (List.map (fun p : Addr × Addr => p.2) [(cd_word_table, tp_word_table)]) 1 "wrong_stations" 2 [] G_wrong_stations := (ok_wrong_stations (P := l.prog) (w := w) (base := base) (T := List.map (fun p : Addr × Addr => p.2) [(cd_word_table, tp_word_table)]) (fun_mk (st := s_wrong_stations) l_wrong_stations c_wrong_stations k_wrong_stations) (PySem.W.mg_of X G a_wrong_stations) M).imp sp_wrong_stations
  have e_require_ordered : Fg l.prog w K mg base (List.map (fun p : Addr × Addr => p.2) [(cd_word_table, tp_word_table)]) 2 "require_ordered" 2 [] G_require_ordered := (ok_require_ordered (P := l.prog) (w := w) (base := base) (T := List.map (fun p : Addr × Addr => p.2) [(cd_word_table, tp_word_table)]) (fun_mk (st := s_require_ordered) l_require_ordered c_require_ordered k_require_ordered) (PySem.W.mg_of X G a_require_ordered) M e_wrong_stations).imp sp_require_ordered
  have e_word_table : Fg l.prog w K mg base (List.map (fun p : Addr × Addr => p.2) [(cd_word_table, tp_word_table)]) 1 "word_table" 2 [] G_word_table := (ok_word_table (P := l.prog) (w := w) (base := base) (T := List.map (fun p : Addr × Addr => p.2) [(cd_word_table, tp_word_table)]) (fun_mk (st := s_word_table) l_word_table c_word_table k_word_table) (PySem.W.mg_of X G a_word_table) M (TBs (cd_word_table, tp_word_table) (by simp)) rfl (by simp)).imp sp_word_table
  have e_word : Fg l.prog w K mg base (List.map (fun p : Addr × Addr => p.2) [(cd_word_table, tp_word_table)]) 5 "word" 3 [] G_word := (ok_word (P := l.prog) (w := w) (base := base) (T := List.map (fun p : Addr × Addr => p.2) [(cd_word_table, tp_word_table)]) (fun_mk (st := s_word) l_word c_word k_word) (PySem.W.mg_of X G a_word) M e_ranks e_require_ordered e_require_plant e_require_station e_require_stock e_word_table).imp sp_word
  have e_words_of : Fg l.prog w K mg base (List.map (fun p : Addr × Addr => p.2) [(cd_word_table, tp_word_table)]) 5 "words_of" 2 [] G_words_of := (ok_words_of (P := l.prog) (w := w) (base := base) (T := List.map (fun p : Addr × Addr => p.2) [(cd_word_table, tp_word_table)]) (fun_mk (st := s_words_of) l_words_of c_words_of k_words_of) (PySem.W.mg_of X G a_words_of) M e_ranks e_require_ordered e_require_plant e_require_stock e_word_table).imp sp_words_of
  have e__law_source : Fg l.prog w K mg base (List.map (fun p : Addr × Addr => p.2) [(cd_word_table, tp_word_table)]) 1 "_law_source" 1 [] G__law_source := (ok__law_source (P := l.prog) (w := w) (base := base) (T := List.map (fun p : Addr × Addr => p.2) [(cd_word_table, tp_word_table)]) (fun_mk (st := s__law_source) l__law_source c__law_source k__law_source) (PySem.W.mg_of X G a__law_source) M).imp sp__law_source
  have e__law_draw : Fg l.prog w K mg base (List.map (fun p : Addr × Addr => p.2) [(cd_word_table, tp_word_table)]) 1 "_law_draw" 2 [0] G__law_draw := (ok__law_draw (P := l.prog) (w := w) (base := base) (T := List.map (fun p : Addr × Addr => p.2) [(cd_word_table, tp_word_table)]) (fun_mk (st := s__law_draw) l__law_draw c__law_draw k__law_draw) (PySem.W.mg_of X G a__law_draw) M).imp sp__law_draw
  have e__law_plant : Fg l.prog w K mg base (List.map (fun p : Addr × Addr => p.2) [(cd_word_table, tp_word_table)]) 2 "_law_plant" 2 [0] G__law_plant := (ok__law_plant (P := l.prog) (w := w) (base := base) (T := List.map (fun p : Addr × Addr => p.2) [(cd_word_table, tp_word_table)]) (fun_mk (st := s__law_plant) l__law_plant c__law_plant k__law_plant) (PySem.W.mg_of X G a__law_plant) M e__law_draw).imp sp__law_plant
  have e__law_numbers : Fg l.prog w K mg base (List.map (fun p : Addr × Addr => p.2) [(cd_word_table, tp_word_table)]) 2 "_law_numbers" 2 [0] G__law_numbers := (ok__law_numbers (P := l.prog) (w := w) (base := base) (T := List.map (fun p : Addr × Addr => p.2) [(cd_word_table, tp_word_table)]) (fun_mk (st := s__law_numbers) l__law_numbers c__law_numbers k__law_numbers) (PySem.W.mg_of X G a__law_numbers) M e__law_draw).imp sp__law_numbers
  have e__law_calm : Fg l.prog w K mg base (List.map (fun p : Addr × Addr => p.2) [(cd_word_table, tp_word_table)]) 3 "_law_calm" 2 [0] G__law_calm := (ok__law_calm (P := l.prog) (w := w) (base := base) (T := List.map (fun p : Addr × Addr => p.2) [(cd_word_table, tp_word_table)]) (fun_mk (st := s__law_calm) l__law_calm c__law_calm k__law_calm) (PySem.W.mg_of X G a__law_calm) M e__law_draw e__law_numbers).imp sp__law_calm
  have e__law_way : Fg l.prog w K mg base (List.map (fun p : Addr × Addr => p.2) [(cd_word_table, tp_word_table)]) 1 "_law_way" 2 [] G__law_way := (ok__law_way (P := l.prog) (w := w) (base := base) (T := List.map (fun p : Addr × Addr => p.2) [(cd_word_table, tp_word_table)]) (fun_mk (st := s__law_way) l__law_way c__law_way k__law_way) (PySem.W.mg_of X G a__law_way) M).imp sp__law_way
  have e__law_letters : Fg l.prog w K mg base (List.map (fun p : Addr × Addr => p.2) [(cd_word_table, tp_word_table)]) 2 "_law_letters" 2 [] G__law_letters := (ok__law_letters (P := l.prog) (w := w) (base := base) (T := List.map (fun p : Addr × Addr => p.2) [(cd_word_table, tp_word_table)]) (fun_mk (st := s__law_letters) l__law_letters c__law_letters k__law_letters) (PySem.W.mg_of X G a__law_letters) M e__law_way).imp sp__law_letters
  exact fn_imp (ok_law (fun_mk (st := s_law) l_law c_law k_law) M e__law_calm e__law_letters e__law_plant e__law_source e_word e_words_of) sp_law
end K13
open PySem PySem.W PyProof.Rows
set_option maxHeartbeats 0 in
theorem PySem.Challenge.cw_pulltree_k13_words_of_stocks_holds : PySem.Challenge.rw_pulltree_k13_words_of_stocks.Holds := by
  w_on; o_law; k_head; (case hw => w_witness2)
  k_fill
  refine Pt.g_walkT (l := PySem.Challenge.rw_pulltree_k13_words_of_stocks) (n := 63) (k := 6) (x := "script") (CX := fun w => L2N.CX PySem.Challenge.rw_pulltree_k13_words_of_stocks.prog w) rfl (by decide) rfl ⟨rfl, by decide, by decide⟩ (fun w h Y => PySem.W.km_in_of Y) ?F (fun _ _ _ _ _ h => Pt.law_cx h)
  case F =>
    intro w mg fa h KX G hmg TF
    refine' K13.all_mk KX G hmg TF ?a_is_int ?l_is_int ?c_is_int ?k_is_int ?a_in_range ?l_in_range ?c_in_range ?k_in_range ?a_is_plant ?l_is_plant ?c_is_plant ?k_is_plant ?a_require_plant ?l_require_plant ?c_require_plant ?k_require_plant ?a_require_station ?l_require_station ?c_require_station ?k_require_station ?a_valid_stock ?l_valid_stock ?c_valid_stock ?k_valid_stock ?a_require_stock ?l_require_stock ?c_require_stock ?k_require_stock ?a_ranks ?l_ranks ?c_ranks ?k_ranks ?a_wrong_stations ?l_wrong_stations ?c_wrong_stations ?k_wrong_stations ?a_require_ordered ?l_require_ordered ?c_require_ordered ?k_require_ordered ?a_word_table ?l_word_table ?c_word_table ?k_word_table ?a_word ?l_word ?c_word ?k_word ?a_words_of ?l_words_of ?c_words_of ?k_words_of ?a__law_source ?l__law_source ?c__law_source ?k__law_source ?a__law_draw ?l__law_draw ?c__law_draw ?k__law_draw ?a__law_plant ?l__law_plant ?c__law_plant ?k__law_plant ?a__law_numbers ?l__law_numbers ?c__law_numbers ?k__law_numbers ?a__law_calm ?l__law_calm ?c__law_calm ?k__law_calm ?a__law_way ?l__law_way ?c__law_way ?k__law_way ?a__law_letters ?l__law_letters ?c__law_letters ?k__law_letters ?a_law ?l_law ?c_law ?k_law ?q_word_table ?p_word_table ?n_word_table ?r_word_table ?z_all ?z_bool ?z_enumerate ?z_int ?z_isinstance ?z_len ?z_max ?z_min ?z_range ?z_repr ?z_set ?z_sorted ?z_tuple ?y_MOST_STATIONS
    (case a_is_int => k_is); (case l_is_int => k_is); (case c_is_int => k_is); (case k_is_int => k_is); (case a_in_range => k_is); (case l_in_range => k_is); (case c_in_range => k_is); (case k_in_range => k_is); (case a_is_plant => k_is); (case l_is_plant => k_is); (case c_is_plant => k_is); (case k_is_plant => k_is); (case a_require_plant => k_is); (case l_require_plant => k_is); (case c_require_plant => k_is); (case k_require_plant => k_is); (case a_require_station => k_is); (case l_require_station => k_is); (case c_require_station => k_is); (case k_require_station => k_is); (case a_valid_stock => k_is); (case l_valid_stock => k_is); (case c_valid_stock => k_is); (case k_valid_stock => k_is); (case a_require_stock => k_is); (case l_require_stock => k_is); (case c_require_stock => k_is); (case k_require_stock => k_is); (case a_ranks => k_is); (case l_ranks => k_is); (case c_ranks => k_is); (case k_ranks => k_is); (case a_wrong_stations => k_is); (case l_wrong_stations => k_is); (case c_wrong_stations => k_is); (case k_wrong_stations => k_is); (case a_require_ordered => k_is); (case l_require_ordered => k_is); (case c_require_ordered => k_is); (case k_require_ordered => k_is); (case a_word_table => k_is); (case l_word_table => k_is); (case c_word_table => k_is); (case k_word_table => k_is); (case a_word => k_is); (case l_word => k_is); (case c_word => k_is); (case k_word => k_is); (case a_words_of => k_is); (case l_words_of => k_is); (case c_words_of => k_is); (case k_words_of => k_is); (case a__law_source => k_is); (case l__law_source => k_is); (case c__law_source => k_is); (case k__law_source => k_is); (case a__law_draw => k_is); (case l__law_draw => k_is); (case c__law_draw => k_is); (case k__law_draw => k_is); (case a__law_plant => k_is); (case l__law_plant => k_is); (case c__law_plant => k_is); (case k__law_plant => k_is); (case a__law_numbers => k_is); (case l__law_numbers => k_is); (case c__law_numbers => k_is); (case k__law_numbers => k_is); (case a__law_calm => k_is); (case l__law_calm => k_is); (case c__law_calm => k_is); (case k__law_calm => k_is); (case a__law_way => k_is); (case l__law_way => k_is); (case c__law_way => k_is); (case k__law_way => k_is); (case a__law_letters => k_is); (case l__law_letters => k_is); (case c__law_letters => k_is); (case k__law_letters => k_is); (case a_law => k_is); (case l_law => k_is); (case c_law => k_is); (case k_law => k_is); (case q_word_table => k_is); (case z_all => k_is); (case z_bool => k_is); (case z_enumerate => k_is); (case z_int => k_is); (case z_isinstance => k_is); (case z_len => k_is); (case z_max => k_is); (case z_min => k_is); (case z_range => k_is); (case z_repr => k_is); (case z_set => k_is); (case z_sorted => k_is); (case z_tuple => k_is); (case y_MOST_STATIONS => k_is)
    case p_word_table => rfl
    case n_word_table => kernel_rfl
    case r_word_table => rfl
